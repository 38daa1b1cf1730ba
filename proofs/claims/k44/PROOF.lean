import PyProof.Rows.All
import Wide.All
import OpenK.AllK
import Wide.FinOn
import HandS.ForMost
import HandS.Deep
import HandS.DictTup
import KE.KDictKeyed
import HandS.Exc
import HandS.Wide
import HandS.TupAny
import HandS.TupMul
import HandS.IsInst
import HandS.Style
import HandS.Zip
import HandS.ExcOwn
import HandS.TryOnly
import HandS.Lambda
import HandS.TryMany
import HandS.WideMore
import HandS.Sort
import HandS.HeadHook3
import KE.SortData
import KE.DataAny
import KE.KTupSum
import KE.KExcSuper
import KE.KSuper
import HandS.ExcField
import KE.KExcIs
import KE.KIsAll
import HandS.ExcIs
import KE.GoesMore
import HandS.SetFor
import HandS.Strs
import HandS.TupSets
import HandS.SetBool
import HandS.Conv
import KE.KDictSum
import KE.KDictCopyH
import KE.KeyNested
import KE.KDictDisplayH
import KE.KDictList
import KE.KRevSl
import PyProof.P3In
import KE.GoesEnum
import HandS.Small
import HandS.Ends
import HandS.EndTab
import PyProof.Rows.RegFStrParts
import PySem.Challenge.RW_ownback_k44_whole_when_other_hands_cost
set_option Elab.async false
set_option linter.all false
set_option maxRecDepth 100000
/-! Dicts whose keys are tuples of numbers, None and such tuples; their values are data. -/
namespace L2
open PySem PySem.Spec PyProof.Rows
mutual
/-- the key that a piece of data is -/
def nk : PyData → Option NestedKey
  | .none => some .none
  | .int i => some (.num i)
  | .tuple ds => (nkAll ds).map .tup
  | _ => none
def nkAll : List PyData → Option (List NestedKey)
  | [] => some []
  | d :: ds => (nk d).bind fun k => (nkAll ds).map (k :: ·)
end
/-- .. that a dict of ours takes -/
def keyOfD : PyData → Option NestedKey
  | .tuple ds => (nkAll ds).bind fun ks => if NestedKey.depthAll ks + 1 ≤ 8 then some (.tup ks) else none
  | _ => none
mutual
def noTx : NestedKey → Bool
  | .text _ => false
  | .tup ks => noTxAll ks
  | _ => true
def noTxAll : List NestedKey → Bool
  | [] => true
  | k :: ks => noTx k && noTxAll ks
end
mutual
/-- the hash of a key without texts -/
def hash0 : NestedKey → Int
  | .none => reduceHash 0xFCA86420
  | .num i => hashInt i
  | .text x => 0
  | .tup ks => reduceHash (Builtin.Tuple.tupleHashOf (hashes0 ks))
def hashes0 : List NestedKey → List Int
  | [] => []
  | k :: ks => hash0 k :: hashes0 ks
end
mutual
theorem hash0_eq (w : World) : ∀ k, noTx k = true → NestedKey.hash w k = hash0 k
  | .none, _ => by simp only [NestedKey.hash, hash0]
  | .num i, _ => by simp only [NestedKey.hash, hash0]
  | .text x, h => by simp [noTx] at h
  | .tup ks, h => by
    simp only [noTx] at h
    simp only [NestedKey.hash, hash0, hashes0_eq w ks h]
theorem hashes0_eq (w : World) : ∀ ks, noTxAll ks = true → NestedKey.hashes w ks = hashes0 ks
  | [], _ => by simp only [NestedKey.hashes, hashes0]
  | k :: ks, h => by
    simp only [noTxAll, Bool.and_eq_true] at h
    simp only [NestedKey.hashes, hashes0, hash0_eq w k h.1, hashes0_eq w ks h.2]
end
mutual
theorem nk_tx : ∀ (d : PyData) (k : NestedKey), nk d = some k → noTx k = true ∧ k.data = d
  | .none, k, h => by simp only [nk, Option.some.injEq] at h; subst h; exact ⟨rfl, by simp only [NestedKey.data]⟩
  | .int i, k, h => by simp only [nk, Option.some.injEq] at h; subst h; exact ⟨rfl, by simp only [NestedKey.data]⟩
  | .tuple ds, k, h => by
    simp only [nk, Option.map_eq_some_iff] at h
    obtain ⟨ks, h, rfl⟩ := h
    obtain ⟨h1, h2⟩ := nkAll_tx ds ks h
    exact ⟨by simp only [noTx, h1], by simp only [NestedKey.data, h2]⟩
  | .bool b, k, h => by simp [nk] at h
  | .str b, k, h => by simp [nk] at h
  | .list b, k, h => by simp [nk] at h
  | .dict b, k, h => by simp [nk] at h
theorem nkAll_tx : ∀ (ds : List PyData) (ks : List NestedKey), nkAll ds = some ks → noTxAll ks = true ∧ NestedKey.datas ks = ds
  | [], ks, h => by simp only [nkAll, Option.some.injEq] at h; subst h; exact ⟨rfl, by simp only [NestedKey.datas]⟩
  | d :: ds, ks, h => by
    simp only [nkAll, Option.bind_eq_some_iff, Option.map_eq_some_iff] at h
    obtain ⟨k, h1, ks', h2, rfl⟩ := h
    obtain ⟨a1, a2⟩ := nk_tx d k h1
    obtain ⟨b1, b2⟩ := nkAll_tx ds ks' h2
    exact ⟨by simp only [noTxAll, a1, b1, Bool.and_self], by simp only [NestedKey.datas, a2, b2]⟩
end
theorem keyOfD_some {d : PyData} {k : NestedKey} (h : keyOfD d = some k) : nk d = some k ∧ k.depth ≤ 8 ∧ noTx k = true ∧ k.data = d ∧ ∃ ks, k = .tup ks := by
  cases d with
  | tuple ds =>
    simp only [keyOfD, Option.bind_eq_some_iff] at h
    obtain ⟨ks, h1, h2⟩ := h
    split at h2
    · rename_i hd
      cases h2
      have hn : nk (.tuple ds) = some (.tup ks) := by simp only [nk, h1, Option.map_some]
      exact ⟨hn, by simp only [NestedKey.depth]; exact hd, (nk_tx _ _ hn).1, (nk_tx _ _ hn).2, ks, rfl⟩
    · cases h2
  | _ => simp [keyOfD] at h
/-- what stands at a key; what stands behind a store -/
def valN (kvs : List (NestedKey × PyData)) (k : NestedKey) : Option PyData := (kvs.find? fun kv => decide (kv.1 = k)).map (·.2)
def putN (kvs : List (NestedKey × PyData)) (k : NestedKey) (d : PyData) : List (NestedKey × PyData) :=
  if (valN kvs k).isSome then kvs.map (fun kv => if kv.1 = k then (kv.1, d) else kv) else kvs ++ [(k, d)]
/-- the dict's object, by its entries -/
def DicPhi (a : Addr) (es : List (NestedKey × Addr × Value)) : Heap → Prop := fun h => ∃ o ens ep, h.get? a = some o ∧ o.ExactDict ∧ o.data = .dict ens ep ∧ ens.toList = es.map fun x => ⟨hash0 x.1, .ref x.2.1, x.2.2⟩
/-- an entry: its key, its value -/
def DicE (K : PySem.W.Frag) (H : Hp) (q : NestedKey × Addr × Value) (p : NestedKey × PyData) : Prop :=
  q.1 = p.1 ∧ nk q.1.data = some q.1 ∧ noTx q.1 = true ∧ q.1.depth ≤ 8 ∧ Dp K H (.ref q.2.1) q.1.data ∧ ∃ v, RelV v q.2.2 ∧ Dp K H v p.2
abbrev DicAt (K : PySem.W.Frag) (H : Hp) (es : List (NestedKey × Addr × Value)) (kvs : List (NestedKey × PyData)) : Prop := Paired (DicE K H) es kvs
theorem DicAt.keys {K : PySem.W.Frag} {H : Hp} {es : List (NestedKey × Addr × Value)} {kvs : List (NestedKey × PyData)} (h : DicAt K H es kvs) : es.map (·.1) = kvs.map (·.1) := by
  induction h with
  | nil => rfl
  | cons h t ih => rw [List.map_cons, List.map_cons, ih, h.1]
theorem DicAt.len {K : PySem.W.Frag} {H : Hp} {es : List (NestedKey × Addr × Value)} {kvs : List (NestedKey × PyData)} (h : DicAt K H es kvs) : es.length = kvs.length := by
  have := congrArg List.length h.keys
  rwa [List.length_map, List.length_map] at this
theorem DicAt.ent {K : PySem.W.Frag} {H : Hp} {es : List (NestedKey × Addr × Value)} {kvs : List (NestedKey × PyData)} (h : DicAt K H es kvs) (w : World) (P : Program) : (es.map fun x => (⟨hash0 x.1, .ref x.2.1, x.2.2⟩ : DictEntry)) = es.map (entryOfKey (nestedKind P w)) := by
  induction h with
  | nil => rfl
  | cons h t ih =>
    rw [List.map_cons, List.map_cons, ih]
    congr 1
    show _ = (⟨NestedKey.hash w _, _, _⟩ : DictEntry)
    rw [hash0_eq w _ h.2.2.1]
/-- what a look-up gives -/
theorem DicAt.val {K : PySem.W.Frag} {H : Hp} {es : List (NestedKey × Addr × Value)} {kvs : List (NestedKey × PyData)} (h : DicAt K H es kvs) (k : NestedKey) :
    match atKey es k, valN kvs k with
    | some q, some d => ∃ v, RelV v q.2 ∧ Dp K H v d
    | none, none => True
    | _, _ => False := by
  induction h with
  | nil => exact True.intro
  | @cons q p qs ps h t ih =>
    obtain ⟨h1, _, _, _, _, h2⟩ := h
    by_cases e : q.1 = k
    · have e' : p.1 = k := h1.symm.trans e
      have a : atKey (q :: qs) k = some q.2 := by simp [atKey, List.find?_cons, e]
      have b : valN (p :: ps) k = some p.2 := by simp [valN, List.find?_cons, e']
      rw [a, b]; exact h2
    · have e' : ¬ p.1 = k := fun z => e (h1.trans z)
      have a : atKey (q :: qs) k = atKey qs k := by simp [atKey, List.find?_cons, e]
      have b : valN (p :: ps) k = valN ps k := by simp [valN, List.find?_cons, e']
      rw [a, b]; exact ih
theorem DicAt.isSome {K : PySem.W.Frag} {H : Hp} {es : List (NestedKey × Addr × Value)} {kvs : List (NestedKey × PyData)} (h : DicAt K H es kvs) (k : NestedKey) : (atKey es k).isSome = (valN kvs k).isSome := by
  have := h.val k
  cases h1 : atKey es k <;> cases h2 : valN kvs k <;> rw [h1, h2] at this <;> first | rfl | exact this.elim
theorem DicAt.some {K : PySem.W.Frag} {H : Hp} {es : List (NestedKey × Addr × Value)} {kvs : List (NestedKey × PyData)} (h : DicAt K H es kvs) {k : NestedKey} {d : PyData} (e : valN kvs k = some d) : ∃ q, atKey es k = some q ∧ ∃ v, RelV v q.2 ∧ Dp K H v d := by
  have := h.val k
  rw [e] at this
  cases h1 : atKey es k with
  | none => rw [h1] at this; exact this.elim
  | some q => rw [h1] at this; exact ⟨q, rfl, this⟩
theorem DicAt.put {K : PySem.W.Frag} {H : Hp} {es : List (NestedKey × Addr × Value)} {kvs : List (NestedKey × PyData)} (h : DicAt K H es kvs) {k : NestedKey} {b : Addr} {v : V} {u : Value} {d kd : PyData} (hk : keyOfD kd = Option.some k) (hb : Dp K H (.ref b) kd) (r : RelV v u) (hd : Dp K H v d) :
    DicAt K H (storedH es k b u) (putN kvs k d) := by
  obtain ⟨k1, k2, k3, k4, _⟩ := keyOfD_some hk
  have e := h.isSome k
  unfold putN storedH
  rw [← e]
  by_cases q : (atKey es k).isSome = true
  · rw [if_pos q, if_pos q]
    clear e q
    induction h with
    | nil => exact .nil
    | @cons q p qs ps h t ih =>
      rw [List.map_cons, List.map_cons]
      refine .cons ?_ ih
      obtain ⟨h1, h2⟩ := h
      unfold putAt
      by_cases z : q.1 = k
      · rw [if_pos z, if_pos (h1.symm.trans z)]
        exact ⟨h1, h2.1, h2.2.1, h2.2.2.1, h2.2.2.2.1, v, r, hd⟩
      · rw [if_neg z, if_neg (fun y => z (h1.trans y))]; exact ⟨h1, h2⟩
  · rw [if_neg q, if_neg q]
    exact Paired.snoc h ⟨rfl, by rw [k4]; exact k1, k3, k2, by rw [k4]; exact hb, v, r, hd⟩
/-! dicts by whole numbers -/
def valI (kvs : List (Int × PyData)) (i : Int) : Option PyData := (kvs.find? fun kv => decide (kv.1 = i)).map (·.2)
def KdAt (K : PySem.W.Frag) (H : Hp) : List (Key × V) → List (Int × PyData) → Prop
  | [], [] => True
  | p :: ws, q :: kvs => p.1 = .inl q.1 ∧ Dp K H p.2 q.2 ∧ KdAt K H ws kvs
  | _, _ => False
theorem KdAt.val {K : PySem.W.Frag} {H : Hp} : ∀ {ws : List (Key × V)} {kvs : List (Int × PyData)}, KdAt K H ws kvs → ∀ (i : Int) (d : PyData), valI kvs i = some d → ∃ v, valV ws (.inl i) = some v ∧ Dp K H v d
  | [], [], _, i, d, e => by simp [valI] at e
  | p :: ws, q :: kvs, h, i, d, e => by
    obtain ⟨h1, h2, h3⟩ := h
    by_cases hi : q.1 = i
    · have e' : valI (q :: kvs) i = some q.2 := by simp [valI, List.find?_cons, hi]
      rw [e'] at e
      cases e
      exact ⟨p.2, valV_pos (by rw [h1, hi]), h2⟩
    · have e' : valI (q :: kvs) i = valI kvs i := by simp [valI, List.find?_cons, hi]
      rw [e'] at e
      obtain ⟨v, e1, e2⟩ := KdAt.val h3 i d e
      refine ⟨v, ?_, e2⟩
      rw [valV_neg (fun z => hi (by rw [h1] at z; injection z))]
      exact e1
  | [], _ :: _, h, _, _, _ => h.elim
  | _ :: _, [], h, _, _, _ => h.elim
theorem KdAt.isSome {K : PySem.W.Frag} {H : Hp} : ∀ {ws : List (Key × V)} {kvs : List (Int × PyData)}, KdAt K H ws kvs → ∀ (i : Int), (valV ws (.inl i)).isSome = (valI kvs i).isSome
  | [], [], _, i => rfl
  | p :: ws, q :: kvs, h, i => by
    obtain ⟨h1, h2, h3⟩ := h
    by_cases hi : q.1 = i
    · have e' : valI (q :: kvs) i = some q.2 := by simp [valI, List.find?_cons, hi]
      rw [e', valV_pos (by rw [h1, hi])]; rfl
    · have e' : valI (q :: kvs) i = valI kvs i := by simp [valI, List.find?_cons, hi]
      rw [e', valV_neg (fun z => hi (by rw [h1] at z; injection z))]
      exact KdAt.isSome h3 i
  | [], _ :: _, h, _ => h.elim
  | _ :: _, [], h, _ => h.elim
def putI (kvs : List (Int × PyData)) (i : Int) (d : PyData) : List (Int × PyData) :=
  if (kvs.any fun kv => decide (kv.1 = i)) = true then kvs.map (fun kv => if kv.1 = i then (kv.1, d) else kv) else kvs ++ [(i, d)]
theorem KdAt.len {K : PySem.W.Frag} {H : Hp} : ∀ {ws : List (Key × V)} {kvs : List (Int × PyData)}, KdAt K H ws kvs → ws.length = kvs.length
  | [], [], _ => rfl
  | p :: ws, q :: kvs, h => by rw [List.length_cons, List.length_cons, KdAt.len h.2.2]
  | [], _ :: _, h => h.elim
  | _ :: _, [], h => h.elim
theorem KdAt.any {K : PySem.W.Frag} {H : Hp} : ∀ {ws : List (Key × V)} {kvs : List (Int × PyData)}, KdAt K H ws kvs → ∀ (i : Int), (ws.any fun kv => decide (kv.1 = Sum.inl i)) = kvs.any fun kv => decide (kv.1 = i)
  | [], [], _, i => rfl
  | p :: ws, q :: kvs, h, i => by
    rw [List.any_cons, List.any_cons, KdAt.any h.2.2 i, h.1]
    congr 1
    rw [Bool.eq_iff_iff, decide_eq_true_eq, decide_eq_true_eq]
    exact ⟨fun z => by injection z, fun z => by rw [z]⟩
  | [], _ :: _, h, _ => h.elim
  | _ :: _, [], h, _ => h.elim
theorem KdAt.putM {K : PySem.W.Frag} {H : Hp} {i : Int} {v : V} {d : PyData} (hd : Dp K H v d) : ∀ {ws : List (Key × V)} {kvs : List (Int × PyData)}, KdAt K H ws kvs → KdAt K H (ws.map fun kv => if kv.1 = Sum.inl i then (kv.1, v) else kv) (kvs.map fun kv => if kv.1 = i then (kv.1, d) else kv)
  | [], [], _ => True.intro
  | p :: ws, q :: kvs, h => by
    obtain ⟨h1, h2, h3⟩ := h
    refine ⟨?_, ?_, KdAt.putM hd h3⟩
    · show (if p.1 = Sum.inl i then (p.1, v) else p).1 = Sum.inl (if q.1 = i then (q.1, d) else q).1
      by_cases e : q.1 = i
      · rw [if_pos e, if_pos (by rw [h1, e])]; exact h1
      · rw [if_neg e, if_neg (fun z => e (by rw [h1] at z; injection z))]; exact h1
    · show Dp K H (if p.1 = Sum.inl i then (p.1, v) else p).2 (if q.1 = i then (q.1, d) else q).2
      by_cases e : q.1 = i
      · rw [if_pos e, if_pos (by rw [h1, e])]; exact hd
      · rw [if_neg e, if_neg (fun z => e (by rw [h1] at z; injection z))]; exact h2
  | [], _ :: _, h => h.elim
  | _ :: _, [], h => h.elim
theorem KdAt.snoc {K : PySem.W.Frag} {H : Hp} {i : Int} {v : V} {d : PyData} (hd : Dp K H v d) : ∀ {ws : List (Key × V)} {kvs : List (Int × PyData)}, KdAt K H ws kvs → KdAt K H (ws ++ [(Sum.inl i, v)]) (kvs ++ [(i, d)])
  | [], [], _ => ⟨rfl, hd, True.intro⟩
  | p :: ws, q :: kvs, h => ⟨h.1, h.2.1, KdAt.snoc hd h.2.2⟩
  | [], _ :: _, h => h.elim
  | _ :: _, [], h => h.elim
theorem KdAt.put {K : PySem.W.Frag} {H : Hp} {ws : List (Key × V)} {kvs : List (Int × PyData)} {i : Int} {v : V} {d : PyData} (h : KdAt K H ws kvs) (hd : Dp K H v d) : KdAt K H (putK ws (Sum.inl i) v) (putI kvs i d) := by
  unfold putK putI
  rw [← h.any i]
  by_cases c : (ws.any fun kv => decide (kv.1 = Sum.inl i)) = true
  · rw [if_pos c, if_pos c]; exact h.putM hd
  · rw [if_neg c, if_neg c]; exact h.snoc hd
theorem putI_mem {kvs : List (Int × PyData)} {i : Int} {d : PyData} {p : Int × PyData} (h : p ∈ putI kvs i d) : p.2 = d ∨ p ∈ kvs := by
  unfold putI at h
  split at h
  · obtain ⟨q, hq, rfl⟩ := List.mem_map.mp h
    split
    · exact .inl rfl
    · exact .inr hq
  · rcases List.mem_append.mp h with h | h
    · exact .inr h
    · rw [List.mem_singleton.mp h]; exact .inl rfl
end L2

set_option Elab.async false
set_option linter.all false
set_option maxRecDepth 100000
/-! The evaluator: a small language of our own (E, S), what it means over plain data. -/
namespace Eng
open PySem
noncomputable section

abbrev D := PyData
/-- a value: data, or an object that may change -/
inductive U where
  | dat (d : PyData) | ref (i : Nat)
/-- an object that may change -/
inductive MObj where
  | lst (xs : List PyData)
  | dct (kvs : List (NestedKey × PyData))
  | tab (x : Str)
  | kd (kvs : List (Int × PyData))
  | refs (ks : List Nat)
abbrev Mem := List MObj
/-- a name's slot: nothing, a value, a list of its own -/
inductive Sl where
  | no | v (u : U) | own (xs : List PyData)
abbrev Env := List Sl

inductive R (α : Type) where
  | ok (a : α) (m : Mem) | exc (c : Nat) (x : U) (m : Mem) | bad
def R.bind {α β : Type} (r : R α) (k : α → Mem → R β) : R β :=
  match r with
  | .ok a m => k a m
  | .exc c x m => .exc c x m
  | .bad => .bad
@[simp] theorem R.bind_ok {α β : Type} (a : α) (m : Mem) (k : α → Mem → R β) : (R.ok a m).bind k = k a m := rfl
@[simp] theorem R.bind_exc {α β : Type} (c : Nat) (x : U) (m : Mem) (k : α → Mem → R β) : (R.exc c x m).bind k = .exc c x m := rfl
@[simp] theorem R.bind_bad {α β : Type} (k : α → Mem → R β) : (R.bad : R α).bind k = .bad := rfl
theorem R.bind_bind {α β γ : Type} (r : R α) (k : α → Mem → R β) (k' : β → Mem → R γ) : (r.bind k).bind k' = r.bind fun a m => (k a m).bind k' := by cases r <;> rfl
/-- where nothing may be raised -/
def R.quiet {α : Type} (r : R α) : R α := match r with
  | .ok a m => .ok a m
  | _ => .bad
@[simp] theorem R.quiet_ok {α : Type} (a : α) (m : Mem) : (R.ok a m).quiet = .ok a m := rfl
@[simp] theorem R.quiet_bad {α : Type} : (R.bad : R α).quiet = .bad := rfl

def asB : U → Mem → R Bool := fun u m => match u with
  | .dat (.bool b) => .ok b m
  | _ => .bad
@[simp] theorem asB_bool (b : Bool) (m : Mem) : asB (.dat (.bool b)) m = .ok b m := rfl
inductive BinO where
  | add | sub | mul | mod | fdiv | pow | shl | bor | band
  deriving DecidableEq
inductive CmpO where
  | eq | ne | lt | le | gt | ge | is | isnot | in_ | notin
  deriving DecidableEq
inductive B1 where
  | len | tuple | list | abs | int | all | any | sum | max | min | repr | sorted
  deriving DecidableEq
inductive B2 where
  | max | min
  deriving DecidableEq
inductive GdO where
  | in_ | notin | item
  deriving DecidableEq
inductive ClsT where
  | int | bool | str | list | tuple
  deriving DecidableEq

inductive Tg where
  | nm (i : Nat) | tp (ts : List Tg)

mutual
inductive HE where
  | cst (d : PyData) | fld | var (j : Nat) | rep (e : HE) | isx (D : Str) (b : Bool) | tup (es : HEs) | lst (es : HEs) | cmp (o : CmpO) (a b : HE) | and (a b : HE) | nt (a : HE)
inductive HEs where
  | nil | cons (e : HE) (es : HEs)
end
inductive HB where
  | ne (a b : HE) | eq (a b : HE) | not (b : HB) | or (a b : HB) | isx (D : Str) (b : Bool)
inductive HS where
  | ife (b : HB) (e : HE) | ret (e : HE)
/-- what a def makes of what it got: return f(); f(), then return aft; f(); return d; return (z, f()); return [z, f()] -/
inductive HM where
  | ret | exp | exr (d : PyData) | tup (z : Str) | lst (z : Str)
structure HD where
  md : HM
  aft : PyData
  hs : List (Nat × List HS)
mutual
inductive E where
  | cst (d : PyData)
  | glb (x : Str) (d : PyData)
  | var (i : Nat)
  | bv (i : Nat)
  | tup (es : Es)
  | lst (es : Es)
  | newl (es : Es)
  | newD
  | newD1 (k v : E)
  | keysl (a : E)
  | hear (xs : List Str) (x y : Str) (hd : HD) (e : E)
  | idx (a b : E)
  | dlen (a : E)
  | dictP (a : E)
  | iteN (t a b : E)
  | ssc (elt : E) (tg : Tg) (it : It) (cond : E) (own : List (Str × Nat))
  | newRs (tg : Tg) (it : It) (own : List (Str × Nat))
  | popM (i : Nat)
  | lrng (a : E)
  | sortk (a : E)
  | sset (a : E) | lset (a : E) | bor (i : Nat) (a : E)
  | dget (i : Nat) (es : Es)
  | lmul (es : Es) (k : E)
  | ladd (a b : E)
  | din (n : Bool) (a d : E)
  | bin (o : BinO) (a b : E)
  | neg (a : E)
  | not (a : E)
  | and (a b : E)
  | or (a b : E)
  | cmp (o : CmpO) (a b : E)
  | chain (o o' : CmpO) (a b c : E)
  | ite (t a b : E)
  | call (f : Nat) (es : Es)
  | callk (f : Nat) (es : Es) (ks : Es) (perm : List Nat)
  | b1 (f : B1) (a : E)
  | b2 (f : B2) (a b : E)
  | isi (a : E) (c : ClsT)
  | isi2 (a : E) (c c' : ClsT)
  | ix (a i : E)
  | sl (a lo hi : E)
  | rev (a : E)
  | gd (o : GdO) (x : Str) (kvs : List (Str × Int)) (nks : List Str) (a : E)
  | comp (elt : E) (tg : Tg) (it : It) (cond : E) (own : List (Str × Nat))
  | comp2 (elt : E) (tg : Tg) (it : It) (tg' : Tg) (it' : It) (cond : E) (own : List (Str × Nat))
  | no
inductive Es where
  | nil | cons (e : E) (es : Es)
inductive It where
  | seq (e : E) | rng1 (a : E) | rng2 (a b : E) | enum (e : E) | zip2 (a b : E)
end

/-! ### sizes -/
mutual
def szOk : PyData → Bool
  | .none | .bool _ | .int _ => true
  | .str x => decide (x.length ≤ sizeLine)
  | .list xs | .tuple xs => decide (xs.length ≤ sizeLine) && szAll xs
  | .dict _ => false
def szAll : List PyData → Bool
  | [] => true
  | x :: xs => szOk x && szAll xs
end

/-! ### built-ins by values -/
def asInts : List PyData → Option (List Int)
  | [] => some []
  | .int i :: r => (asInts r).map (i :: ·)
  | _ :: _ => none
def asBools : List PyData → Option (List Bool)
  | [] => some []
  | .bool i :: r => (asBools r).map (i :: ·)
  | _ :: _ => none
def maxL : List Int → Int
  | [] => 0
  | [x] => x
  | x :: r => max x (maxL r)
def minL : List Int → Int
  | [] => 0
  | [x] => x
  | x :: r => min x (minL r)

/-- data that sorted can order -/
def sortOk (xs : List PyData) : Prop := (xs.length < 2 ∧ ∀ d ∈ xs, ∃ r, d = .tuple r) ∨ (PySem.W.AllAlike xs ∧ PySem.W.Sortable xs ∧ ∀ d ∈ xs, d.depth ≤ 60)
def b1Val : B1 → PyData → Option PyData
  | .len, .list xs => some (.int xs.length)
  | .len, .tuple xs => some (.int xs.length)
  | .len, .str x => some (.int x.length)
  | .tuple, .list xs => some (.tuple xs)
  | .tuple, .tuple xs => some (.tuple xs)
  | .list, .list xs => some (.list xs)
  | .list, .tuple xs => some (.list xs)
  | .abs, .int i => some (.int (if i < 0 then -i else i))
  | .int, .int i => some (.int i)
  | .int, .bool b => some (.int (if b then 1 else 0))
  | .all, .list xs => (asBools xs).map fun bs => .bool (bs.all id)
  | .any, .list xs => match asBools xs with
    | some bs => some (.bool (bs.any id))
    | none => (asInts xs).map fun ns => .bool (ns.any fun i => i != 0)
  | .any, .tuple xs => (asInts xs).map fun ns => .bool (ns.any fun i => i != 0)
  | .sum, .list xs => (asInts xs).map fun ns => .int ns.sum
  | .sum, .tuple xs => (asInts xs).map fun ns => .int ns.sum
  | .sorted, .list xs => @ite _ (sortOk xs) (Classical.propDecidable _) (some (.list (xs.mergeSort (PySem.W.dataLe false id)))) none
  | .max, .list xs => (asInts xs).bind fun ns => if ns = [] then none else some (.int (maxL ns))
  | .min, .list xs => (asInts xs).bind fun ns => if ns = [] then none else some (.int (minL ns))
  | .repr, d => if d.showable && decide (d.shown.length ≤ sizeLine) && decide (d.depth ≤ 60) then some (.str d.shown) else none
  | _, _ => none
/-- sorted(set(x)) -/
def sortD (ns : List Int) : List Int := ns.eraseDups.mergeSort fun a b => decide (a ≤ b)
def asTupI : List PyData → Option (List (List Int))
  | [] => some []
  | .tuple ys :: r => (asInts ys).bind fun k => (asTupI r).map (k :: ·)
  | _ => none
def sortT (ks : List (List Int)) : List (List Int) := ks.eraseDups.mergeSort fun a b => decide (TS.code 64 a ≤ TS.code 64 b)
def flatT (ks : List (List Int)) : Bool := ks.all fun k => k.length == (ks.headD []).length && k.all fun i => decide (0 ≤ i ∧ i < 64)
def ssetV : PyData → Option PyData
  | .list xs => match asInts xs with
    | some ns => if ns.length ≤ 1000 ∧ (sortD ns).length < 64 then some (.list ((sortD ns).map .int)) else none
    | none => (asTupI xs).bind fun ks => if flatT ks = true ∧ ks.eraseDups.length < 63 then some (.list ((sortT ks).map fun k => .tuple (k.map .int))) else none
  | _ => none
/-- the items as keys; sorted(set(xs)), len(set(xs)), xs a list of tuples that may hold tuples -/
def keysD : List PyData → Option (List NestedKey)
  | [] => some []
  | d :: r => (L2.keyOfD d).bind fun k => (keysD r).map (k :: ·)
def sortN (ks : List NestedKey) : List PyData := (ks.eraseDups.map NestedKey.data).mergeSort (PySem.W.dataLe false id)
def ssnOk (ks : List NestedKey) : Prop := ks.eraseDups.length < 63 ∧ PySem.W.AllAlike (ks.eraseDups.map NestedKey.data) ∧ PySem.W.Sortable (ks.eraseDups.map NestedKey.data) ∧ (∀ k ∈ ks.eraseDups, k.data.depth ≤ 60) ∧ (sortN ks).Pairwise fun a b => PySem.W.dataLt a b = true
def ssnV : PyData → Option PyData
  | .list xs => (keysD xs).bind fun ks => @ite _ (ssnOk ks) (Classical.propDecidable _) (some (.list (sortN ks))) none
  | _ => none
def ssetX (d : PyData) : Option PyData := match ssetV d with
  | some z => some z
  | none => ssnV d
def lsetV : PyData → Option PyData
  | .list xs => (keysD xs).bind fun ks => if ks.eraseDups.length < 63 then some (.int ks.eraseDups.length) else none
  | _ => none
def b2Val : B2 → PyData → PyData → Option PyData
  | .max, .int i, .int j => some (.int (if j > i then j else i))
  | .min, .int i, .int j => some (.int (if j < i then j else i))
  | _, _, _ => none
instance (i j : Int) : Decidable (L2.CMul i j) := by unfold L2.CMul; infer_instance
instance (i j : Int) : Decidable (L2.CPow i j) := by unfold L2.CPow; infer_instance
instance (i j : Int) : Decidable (L2.CDivW i j) := by unfold L2.CDivW; infer_instance
def binVal : BinO → PyData → PyData → Option PyData
  | .add, .int i, .int j => some (.int (i + j))
  | .add, .str x, .str y => @ite _ (x.length + y.length ≤ sizeLine) (Classical.propDecidable _) (some (.str (x ++ y))) none
  | .add, .list xs, .list ys => @ite _ (xs.length + ys.length ≤ sizeLine) (Classical.propDecidable _) (some (.list (xs ++ ys))) none
  | .add, .tuple xs, .tuple ys => @ite _ (xs.length + ys.length ≤ sizeLine) (Classical.propDecidable _) (some (.tuple (xs ++ ys))) none
  | .sub, .int i, .int j => some (.int (i - j))
  | .mul, .int i, .int j => @ite _ (L2.CMul i j) (Classical.propDecidable _) (some (.int (i * j))) none
  | .mul, .tuple xs, .int k => @ite _ (xs ≠ [] ∧ xs.length ≤ 1000 ∧ 0 ≤ k ∧ k ≤ 1000) (Classical.propDecidable _) (some (.tuple (List.replicate k.toNat xs).flatten)) none
  | .mod, .int i, .int j => @ite _ (0 < j) (Classical.propDecidable _) (some (.int (i % j))) none
  | .fdiv, .int i, .int j => @ite _ (L2.CDivW i j) (Classical.propDecidable _) (some (.int (i / j))) none
  | .pow, .int i, .int j => @ite _ (L2.CPow i j) (Classical.propDecidable _) (some (.int (i ^ j.toNat))) none
  | .shl, .int i, .int j => @ite _ (L2.CPow i j) (Classical.propDecidable _) (some (.int (i * 2 ^ j.toNat))) none
  | .bor, .int i, .int j => some (.int (Builtin.bitOr i j))
  | .band, .int i, .int j => some (.int (Builtin.bitAnd i j))
  | _, _, _ => none
def lmulV : PyData → PyData → Option PyData
  | .list xs, .int k => @ite _ (-(2 ^ 63) ≤ k ∧ k < 2 ^ 63 ∧ xs.length * k.toNat ≤ sizeLine) (Classical.propDecidable _) (some (.list (List.replicate k.toNat xs).flatten)) none
  | _, _ => none
def laddV : PyData → PyData → Option PyData
  | .list xs, .list ys => @ite _ (xs.length + ys.length ≤ sizeLine) (Classical.propDecidable _) (some (.list (xs ++ ys))) none
  | _, _ => none
def isNoneD : PyData → Bool
  | .none => true
  | _ => false
def cmpVal : CmpO → PyData → PyData → Option PyData
  | .eq, .int i, .int j => some (.bool (decide (i = j)))
  | .eq, .str x, .str y => some (.bool (decide (x = y)))
  | .ne, .int i, .int j => some (.bool (!decide (i = j)))
  | .ne, .str x, .str y => some (.bool (!decide (x = y)))
  | .eq, d, e => if SeqAt.shaped d = true ∧ SeqAt.shaped e = true then some (.bool (PyData.eqv d e)) else none
  | .ne, d, e => if SeqAt.shaped d = true ∧ SeqAt.shaped e = true then some (.bool (!PyData.eqv d e)) else none
  | .in_, d, .list ds => if d.canLay0 = true ∧ PyData.canLayAll0 ds = true ∧ d.depth ≤ 60 then some (.bool (ds.any fun z => PyData.eqv z d)) else none
  | .in_, d, .tuple ds => if d.canLay0 = true ∧ PyData.canLayAll0 ds = true ∧ d.depth ≤ 60 then some (.bool (ds.any fun z => PyData.eqv z d)) else none
  | .notin, d, .list ds => if d.canLay0 = true ∧ PyData.canLayAll0 ds = true ∧ d.depth ≤ 60 then some (.bool (!ds.any fun z => PyData.eqv z d)) else none
  | .notin, d, .tuple ds => if d.canLay0 = true ∧ PyData.canLayAll0 ds = true ∧ d.depth ≤ 60 then some (.bool (!ds.any fun z => PyData.eqv z d)) else none
  | .lt, .int i, .int j => some (.bool (decide (i < j)))
  | .le, .int i, .int j => some (.bool (decide (i ≤ j)))
  | .gt, .int i, .int j => some (.bool (decide (j < i)))
  | .ge, .int i, .int j => some (.bool (decide (j ≤ i)))
  | .is, d, .none => some (.bool (isNoneD d))
  | .isnot, d, .none => some (.bool (!isNoneD d))
  | .is, .bool a, .bool b => some (.bool (decide (a = b)))
  | .isnot, .bool a, .bool b => some (.bool (!decide (a = b)))
  | _, _, _ => none
def ixVal : PyData → PyData → Option PyData
  | .list xs, .int i => L2.atI xs i
  | .tuple xs, .int i => L2.atI xs i
  | _, _ => none
def cutD (xs : List PyData) (lo hi : Option Int) : List PyData := (xs.drop (HT.sIx xs.length 0 lo)).take (HT.sIx xs.length xs.length hi - HT.sIx xs.length 0 lo)
def slVal (d : PyData) (lo hi : Option Int) : Option PyData := match d with
  | .list xs => some (.list (cutD xs lo hi))
  | .tuple xs => some (.tuple (cutD xs lo hi))
  | _ => none
def revD : PyData → Option PyData
  | .list xs => some (.list xs.reverse)
  | .tuple xs => some (.tuple xs.reverse)
  | _ => none
/-- a dict of the module's own, whose keys are told: kvs are there, nks are not -/
def gdVal (o : GdO) (kvs : List (Str × Int)) (nks : List Str) : PyData → Option PyData
  | .str z => match o, kvs.lookup z with
    | .in_, some _ => some (.bool true)
    | .in_, none => if z ∈ nks then some (.bool false) else none
    | .notin, some _ => some (.bool false)
    | .notin, none => if z ∈ nks then some (.bool true) else none
    | .item, some i => some (.int i)
    | .item, none => none
  | _ => none
def clsVal : ClsT → PyData → Bool
  | .int, .int _ => true
  | .int, .bool _ => true
  | .bool, .bool _ => true
  | .str, .str _ => true
  | .list, .list _ => true
  | .tuple, .tuple _ => true
  | _, _ => false
def rngD (lo : Int) (n : Nat) : List PyData := (List.range n).map fun (i : Nat) => .int (lo + (i : Int))
def enumD (n : Nat) : List PyData → List PyData
  | [] => []
  | x :: r => .tuple [.int n, x] :: enumD (n + 1) r
def zipD : List PyData → List PyData → List PyData
  | x :: xs, y :: ys => .tuple [x, y] :: zipD xs ys
  | _, _ => []

def R.ofO {α : Type} (o : Option α) (m : Mem) : R α := match o with
  | some a => .ok a m
  | none => .bad
@[simp] theorem R.ofO_some {α : Type} (a : α) (m : Mem) : R.ofO (some a) m = .ok a m := rfl
@[simp] theorem R.ofO_none {α : Type} (m : Mem) : R.ofO (none : Option α) m = .bad := rfl
def R.dat (o : Option PyData) (m : Mem) : R U := match o with
  | some a => .ok (.dat a) m
  | none => .bad
@[simp] theorem R.dat_some (a : PyData) (m : Mem) : R.dat (some a) m = .ok (.dat a) m := rfl
@[simp] theorem R.dat_none (m : Mem) : R.dat none m = .bad := rfl

/-! ### targets -/
mutual
def asgTg : Tg → PyData → Env → Option Env
  | .nm i, d, σ => if i < σ.length then some (σ.set i (.v (.dat d))) else none
  | .tp ts, .tuple ds, σ => asgTgs ts ds σ
  | .tp _, _, _ => none
def asgTgs : List Tg → List PyData → Env → Option Env
  | [], [], σ => some σ
  | t :: ts, d :: ds, σ => (asgTg t d σ).bind fun σ' => asgTgs ts ds σ'
  | _, _, _ => none
end
mutual
def slotsTg : Tg → List Nat
  | .nm i => [i]
  | .tp ts => slotsTgs ts
def slotsTgs : List Tg → List Nat
  | [] => []
  | t :: ts => slotsTg t ++ slotsTgs ts
end
def wipeE (σ : Env) : List Nat → Env
  | [] => σ
  | v :: vs => (wipeE σ vs).set v .no

/-- a call by its number -/
abbrev Calls := Nat → List U → Mem → R U

def datL : List U → Option (List PyData)
  | [] => some []
  | .dat d :: r => (datL r).map (d :: ·)
  | .ref _ :: _ => none
/-- keyword arguments into the parameters' order -/
def permL (us : List U) (perm : List Nat) : Option (List U) := perm.mapM fun i => us[i]?

def condGo (cond : Option (Env → Mem → R U)) (σ : Env) (m : Mem) : R Bool := match cond with
  | none => .ok true m
  | some c => (c σ m).bind asB
def d1 (F : PyData → Option PyData) (x : U) (m : Mem) : R U := match x with
  | .dat d => R.dat (F d) m
  | _ => .bad
def d2 (F : PyData → PyData → Option PyData) (x y : U) (m : Mem) : R U := match x, y with
  | .dat d, .dat e => R.dat (F d e) m
  | _, _ => .bad
@[simp] theorem d1_dat (F : PyData → Option PyData) (d : PyData) (m : Mem) : d1 F (.dat d) m = R.dat (F d) m := rfl
@[simp] theorem d2_dat (F : PyData → PyData → Option PyData) (d e : PyData) (m : Mem) : d2 F (.dat d) (.dat e) m = R.dat (F d e) m := rfl
def asTup (us : List U) (m : Mem) : R U := R.dat ((datL us).map .tuple) m
def asLst (us : List U) (m : Mem) : R U := R.dat ((datL us).map .list) m
def asNew (us : List U) (m : Mem) : R U := match datL us with
  | some ds => .ok (.ref m.length) (m ++ [.lst ds])
  | none => .bad
def negD : PyData → Option PyData
  | .int i => some (.int (-i))
  | _ => none
def ixU (x y : U) (m : Mem) : R U := match x, y with
  | .dat d, .dat e => R.dat (ixVal d e) m
  | .ref k, .dat e => match m[k]? with
    | some (.lst xs) => match e with
      | .int j => R.dat (L2.atI xs j) m
      | _ => .bad
    | some (.dct kvs) => R.dat ((L2.keyOfD e).bind (L2.valN kvs)) m
    | some (.kd kvs) => match e with
      | .int j => R.dat (L2.valI kvs j) m
      | _ => .bad
    | some (.refs ks) => match e with
      | .int j => match L2.atI ks j with
        | some i => .ok (.ref i) m
        | none => .bad
      | _ => .bad
    | _ => .bad
  | _, _ => .bad
/-- x in y, x not in y: a dict of ours -/
def dinU (n : Bool) (x y : U) (m : Mem) : R U := match x, y with
  | .dat e, .ref k => match m[k]? with
    | some (.dct kvs) => R.dat ((L2.keyOfD e).map fun q => .bool (xor n (L2.valN kvs q).isSome)) m
    | some (.kd kvs) => match e with
      | .int j => R.dat (some (.bool (xor n (L2.valI kvs j).isSome))) m
      | _ => .bad
    | _ => .bad
  | _, _ => .bad
@[simp] theorem ixU_dat (d e : PyData) (m : Mem) : ixU (.dat d) (.dat e) m = R.dat (ixVal d e) m := rfl
/-- sorted(x): a dict of ours, its keys -/
def sortKOk (ds : List PyData) : Prop := PySem.W.AllAlike ds ∧ PySem.W.Sortable ds ∧ ∀ d ∈ ds, d.depth ≤ 60
def keysU (x : U) (m : Mem) : R U := match x with
  | .ref k => match m[k]? with
    | some (.dct kvs) => .ok (.dat (.list (kvs.map (·.1.data)))) m
    | _ => .bad
  | _ => .bad
/-- xs.index(d) -/
def lstU (x : U) (m : Mem) : R (List PyData) := match x with
  | .dat (.list ds) => .ok ds m
  | _ => .bad
def idxV (ds : List PyData) (d : PyData) : Option PyData := if SeqAt.shaped (.list ds) && SeqAt.shaped d then (ds.findIdx? fun z => PyData.eqv z d).map (fun j => .int (j : Nat)) else none
/-- a whole number as a test -/
def asNz (x : U) (m : Mem) : R Bool := match x with
  | .dat (.int i) => .ok (i != 0) m
  | _ => .bad
/-- dict(xs), xs a list of pairs (whole number, value), of unlike numbers -/
def asPairs : List PyData → Option (List (Int × PyData))
  | [] => some []
  | .tuple [.int i, d] :: r => (asPairs r).map ((i, d) :: ·)
  | _ => none
def dictPU (x : U) (m : Mem) : R U := match x with
  | .dat (.list ds) => match asPairs ds with
    | some kvs => @ite _ ((kvs.map (·.1)).Nodup ∧ kvs.length ≤ sizeLine) (Classical.propDecidable _) (.ok (.ref m.length) (m ++ [.kd kvs])) .bad
    | none => .bad
  | _ => .bad
/-- [[] for .. in ..]: lists that may change, held by one that stays -/
def rsGo (tg : Tg) (σ : Env) (ds : List PyData) (m : Mem) : R U := @ite _ (∀ d ∈ ds, ∃ σ', asgTg tg d σ = some σ') (Classical.propDecidable _)
  (.ok (.ref (m.length + ds.length)) ((m ++ List.replicate ds.length (.lst [])) ++ [.refs (List.range' m.length ds.length)])) .bad
/-- x.pop(), x a list that may change -/
def popMGo (σ : Env) (i : Nat) (m : Mem) : R U := match σ[i]? with
  | some (.v (.ref k)) => match m[k]? with
    | some (.lst xs) => match xs.getLast? with
      | some d => .ok (.dat d) (m.set k (.lst xs.dropLast))
      | none => .bad
    | _ => .bad
  | _ => .bad
/-- list(range(n)) -/
def lrngU (j : Int) (m : Mem) : R U := @ite _ (-(2 ^ 62) ≤ j ∧ j ≤ 2 ^ 24) (Classical.propDecidable _) (.ok (.dat (.list (rngD 0 j.toNat))) m) .bad
/-- len(x): a dict of ours -/
def dlenU (x : U) (m : Mem) : R U := match x with
  | .ref k => match m[k]? with
    | some (.dct kvs) => .ok (.dat (.int kvs.length)) m
    | _ => .bad
  | _ => .bad
def newD1U (q : Nat) (x y : U) (m : Mem) : R U := match x, y with
  | .dat kd, .dat d => match m[q]? with
    | some (.dct []) => match L2.keyOfD kd with
      | some k => .ok (.ref q) (m.set q (.dct [(k, d)]))
      | none => match kd with
        | .int i => .ok (.ref q) (m.set q (.kd [(i, d)]))
        | _ => .bad
    | _ => .bad
  | _, _ => .bad
/-- .. its key a tuple; a whole number -/
def newD1T (q : Nat) (x y : U) (m : Mem) : R U := match x, y with
  | .dat kd, .dat d => match m[q]? with
    | some (.dct []) => match L2.keyOfD kd with
      | some k => .ok (.ref q) (m.set q (.dct [(k, d)]))
      | none => .bad
    | _ => .bad
  | _, _ => .bad
def newD1K (q : Nat) (x y : U) (m : Mem) : R U := match x, y with
  | .dat kd, .dat d => match m[q]? with
    | some (.dct []) => match kd with
      | .int i => .ok (.ref q) (m.set q (.kd [(i, d)]))
      | _ => .bad
    | _ => .bad
  | _, _ => .bad
theorem newD1_or {q : Nat} {x y : U} {m : Mem} (h : ¬ newD1U q x y m = newD1T q x y m) : newD1U q x y m = newD1K q x y m := by
  unfold newD1U newD1T newD1K at *
  cases x with
  | ref i => rfl
  | dat kd =>
    cases y with
    | ref j => rfl
    | dat d =>
      simp only at h ⊢
      split
      · rename_i hm
        rw [hm] at h
        simp only at h
        cases hk : L2.keyOfD kd with
        | some k => rw [hk] at h; exact absurd rfl h
        | none => rfl
      · rfl
def sortKU (x : U) (m : Mem) : R U := match x with
  | .ref k => match m[k]? with
    | some (.dct kvs) => @ite _ (sortKOk (kvs.map (·.1.data))) (Classical.propDecidable _) (.ok (.dat (.list ((kvs.map (·.1.data)).mergeSort (PySem.W.dataLe false id)))) m) .bad
    | _ => .bad
  | _ => .bad
/-- x.get(k, y) -/
def dctU (x : U) (m : Mem) : R Nat := match x with
  | .ref k => match m[k]? with
    | some (.dct _) => .ok k m
    | _ => .bad
  | _ => .bad
def dgetU (k : Nat) (us : List U) (m : Mem) : R U := match us with
  | [.dat e, .dat z] => match m[k]? with
    | some (.dct kvs) => R.dat ((L2.keyOfD e).map fun q => (L2.valN kvs q).getD z) m
    | _ => .bad
  | _ => .bad
def boolOf : Option PyData → Mem → R Bool
  | some (.bool b), m => .ok b m
  | _, _ => .bad
def c2 (F : PyData → PyData → Option PyData) (x y : U) (m : Mem) : R Bool := match x, y with
  | .dat d, .dat e => boolOf (F d e) m
  | _, _ => .bad
@[simp] theorem c2_dat (F : PyData → PyData → Option PyData) (d e : PyData) (m : Mem) : c2 F (.dat d) (.dat e) m = boolOf (F d e) m := rfl
@[simp] theorem boolOf_some (b : Bool) (m : Mem) : boolOf (some (.bool b)) m = .ok b m := rfl
def asInt (x : U) (m : Mem) : R Int := match x with
  | .dat (.int i) => .ok i m
  | _ => .bad
@[simp] theorem asInt_int (i : Int) (m : Mem) : asInt (.dat (.int i)) m = .ok i m := rfl
def asD (x : U) (m : Mem) : R PyData := match x with
  | .dat d => .ok d m
  | _ => .bad
@[simp] theorem asD_dat (d : PyData) (m : Mem) : asD (.dat d) m = .ok d m := rfl
def seqU (x : U) (m : Mem) : R (List PyData) := match x with
  | .dat (.list xs) => .ok xs m
  | .dat (.tuple xs) => .ok xs m
  | _ => .bad
@[simp] theorem seqU_list (xs : List PyData) (m : Mem) : seqU (.dat (.list xs)) m = .ok xs m := rfl
@[simp] theorem seqU_tuple (xs : List PyData) (m : Mem) : seqU (.dat (.tuple xs)) m = .ok xs m := rfl
def rng1U (j : Int) (m : Mem) : R (List PyData) := @ite _ (-(2 ^ 62) ≤ j ∧ j < 2 ^ 62) (Classical.propDecidable _) (.ok (rngD 0 j.toNat) m) .bad
def rng2U (i j : Int) (m : Mem) : R (List PyData) := @ite _ (-(2 ^ 62) ≤ i ∧ i < 2 ^ 62 ∧ -(2 ^ 62) ≤ j ∧ j < 2 ^ 62) (Classical.propDecidable _) (.ok (rngD i (j - i).toNat) m) .bad
def enumU (xs : List PyData) (m : Mem) : R (List PyData) := .ok (enumD 0 xs) m
def zipU (x y : U) (m : Mem) : R (List PyData) := match x, y with
  | .dat (.list xs), .dat (.list ys) => .ok (zipD xs ys) m
  | .dat (.tuple xs), .dat (.tuple ys) => .ok (zipD xs ys) m
  | .dat (.list xs), .dat (.tuple ys) => .ok (zipD xs ys) m
  | .dat (.tuple xs), .dat (.list ys) => .ok (zipD xs ys) m
  | _, _ => .bad
@[simp] theorem zipU_list (xs ys : List PyData) (m : Mem) : zipU (.dat (.list xs)) (.dat (.list ys)) m = .ok (zipD xs ys) m := rfl
@[simp] theorem zipU_lt (xs ys : List PyData) (m : Mem) : zipU (.dat (.list xs)) (.dat (.tuple ys)) m = .ok (zipD xs ys) m := rfl
@[simp] theorem zipU_tl (xs ys : List PyData) (m : Mem) : zipU (.dat (.tuple xs)) (.dat (.list ys)) m = .ok (zipD xs ys) m := rfl
@[simp] theorem zipU_tuple (xs ys : List PyData) (m : Mem) : zipU (.dat (.tuple xs)) (.dat (.tuple ys)) m = .ok (zipD xs ys) m := rfl
/-- a list of a name's own is lent to a call: what comes back holds no list, nor does what is shared -/
def frzV (i : Nat) (σ : Env) : Option Env := match σ[i]? with
  | some (.own xs) => some (σ.set i (.v (.dat (.list xs))))
  | _ => none
mutual
def noL : PyData → Bool
  | .list _ => false
  | .dict _ => false
  | .tuple xs => noLs xs
  | .none => true
  | .bool _ => true
  | .int _ => true
  | .str _ => true
def noLs : List PyData → Bool
  | [] => true
  | x :: xs => noL x && noLs xs
end
def memL (m : Mem) : Bool := m.all fun
  | .lst xs => noLs xs
  | .refs _ => true
  | .tab _ => true
  | .dct kvs => kvs.all fun p => noL p.1.data && noL p.2
  | .kd kvs => kvs.all fun p => noL p.2
def borU (r : R U) : R U := match r with
  | .ok (.dat d) m => if (noL d && memL m) = true then .ok (.dat d) m else .bad
  | _ => .bad
def sizeU (xs : List PyData) (m : Mem) : R (List PyData) := @ite _ (xs.length ≤ sizeLine) (Classical.propDecidable _) (.ok xs m) .bad
def getV (σ : Env) (i : Nat) (m : Mem) : R U := match σ[i]? with
  | some (.v u) => .ok u m
  | _ => .bad
def getB (σ : Env) (i : Nat) (m : Mem) : R U := match σ[i]? with
  | some (.v u) => .ok u m
  | some (.own xs) => .ok (.dat (.list xs)) m
  | _ => .bad
/-- one list comprehension's loop -/
def compGo (elt : Env → Mem → R U) (cond : Option (Env → Mem → R U)) (tg : Tg) (σ : Env) : List PyData → Mem → R (List PyData)
  | [], m => .ok [] m
  | d :: ds, m =>
    match asgTg tg d σ with
    | none => .bad
    | some σ' => (condGo cond σ' m).bind fun b m1 => if b = true then (elt σ' m1).bind fun u m2 => (asD u m2).bind fun x m2 => (compGo elt cond tg σ ds m2).bind fun xs m3 => .ok (x :: xs) m3
        else compGo elt cond tg σ ds m1
/-- .. with a second loop in it -/
def comp2Go (elt : Env → Mem → R U) (cond : Option (Env → Mem → R U)) (tg : Tg) (it : Env → Mem → R (List PyData)) (tg' : Tg) (σ : Env) : List PyData → Mem → R (List PyData)
  | [], m => .ok [] m
  | d :: ds, m =>
    match asgTg tg d σ with
    | none => .bad
    | some σ' => (it σ' m).bind fun es m1 => (compGo elt cond tg' (wipeE σ' (slotsTg tg')) es m1).bind fun xs m2 => (comp2Go elt cond tg it tg' σ ds m2).bind fun ys m3 => .ok (xs ++ ys) m3
/-- where an object is only read: a name may hold a list of its own -/
def bA (a : E) (f : Env → Mem → R U) (σ : Env) (m : Mem) : R U := match a with
  | .bv i => getB σ i m
  | _ => f σ m
def oA (a : E) (f : Env → Mem → R U) (σ : Env) (m : Mem) : R (Option Int) := match a with
  | .no => .ok none m
  | _ => ((f σ m).bind asInt).bind fun i m1 => .ok (some i) m1
def cA (a : E) (f : Env → Mem → R U) : Option (Env → Mem → R U) := match a with
  | .no => none
  | _ => some fun σ m => (f σ m).quiet
inductive F where
  | nx | brk | cnt | ret (u : U)
mutual
def hE : HE → PyData → Env → Option PyData
  | .cst d, _, _ => some d
  | .fld, x, _ => some x
  | .var j, _, σ => match σ[j]? with
    | some (.v (.dat d)) => some d
    | _ => none
  | .rep e, x, σ => (hE e x σ).bind (b1Val .repr)
  | .isx _ b, _, _ => some (.bool b)
  | .tup es, x, σ => (hEs es x σ).map .tuple
  | .lst es, x, σ => (hEs es x σ).map .list
  | .cmp o a b, x, σ => (hE a x σ).bind fun d => (hE b x σ).bind fun e => cmpVal o d e
  | .and a b, x, σ => (hE a x σ).bind fun d => match d with
    | .bool true => hE b x σ
    | .bool false => some (.bool false)
    | _ => none
  | .nt a, x, σ => (hE a x σ).bind fun d => match d with
    | .bool c => some (.bool (!c))
    | _ => none
def hEs : HEs → PyData → Env → Option (List PyData)
  | .nil, _, _ => some []
  | .cons e es, x, σ => (hE e x σ).bind fun d => (hEs es x σ).map (d :: ·)
end
def boolD : PyData → Option Bool
  | .bool b => some b
  | _ => none
def hB : HB → PyData → Env → Option Bool
  | .ne a b, x, σ => (hE a x σ).bind fun d => (hE b x σ).bind fun e => (cmpVal .ne d e).bind boolD
  | .eq a b, x, σ => (hE a x σ).bind fun d => (hE b x σ).bind fun e => (cmpVal .eq d e).bind boolD
  | .not b, x, σ => (hB b x σ).map (!·)
  | .or a b, x, σ => (hB a x σ).bind fun c => if c = true then some true else hB b x σ
  | .isx _ b, _, _ => some b
def hSs : List HS → PyData → Env → Option F
  | [], _, _ => some .nx
  | .ife b e :: r, x, σ => (hB b x σ).bind fun c => if c = true then (hE e x σ).map fun d => F.ret (.dat d) else hSs r x σ
  | .ret e :: _, x, σ => (hE e x σ).map fun d => F.ret (.dat d)
/-- the tables of the defs that make lambdas stand first -/
def tabsOk (xs : List Str) (m : Mem) : Prop := ∀ (i : Nat) (x : Str), xs[i]? = some x → m[i]? = some (MObj.tab x)
def hearMd (md : HM) (aft : PyData) (u : U) (m : Mem) : R U := match md with
  | .ret => .ok u m
  | .exp => .ok (.dat aft) m
  | .exr d => .ok (.dat d) m
  | .tup z => match u with
    | .dat d => .ok (.dat (.tuple [.str z, d])) m
    | _ => .bad
  | .lst z => match u with
    | .dat d => .ok (.dat (.list [.str z, d])) m
    | _ => .bad
def hearHs (aft : PyData) : List (Nat × List HS) → Nat → U → Mem → R U
  | [], _, _, _ => .bad
  | (k, ss) :: r, c, x, m => if c = k then
      match x with
      | .dat d => match hSs ss d [] with
        | some (.ret u) => .ok u m
        | some .nx => .ok (.dat aft) m
        | _ => .bad
      | _ => .bad
    else hearHs aft r c x m
def hearGo (hd : HD) (r : R U) : R U := match r with
  | .ok u m => hearMd hd.md hd.aft u m
  | .exc c x m => hearHs hd.aft hd.hs c x m
  | .bad => .bad
mutual
def evE (C : Calls) : E → Env → Mem → R U
  | .cst d, _, m => .ok (.dat d) m
  | .glb _ d, _, m => .ok (.dat d) m
  | .var i, σ, m => getV σ i m
  | .bv _, _, _ => .bad
  | .tup es, σ, m => (evEs C es σ m).bind asTup
  | .lst es, σ, m => (evEs C es σ m).bind asLst
  | .newl es, σ, m => (evEs C es σ m).bind asNew
  | .lmul es k, σ, m => ((evEs C es σ m).bind asLst).bind fun x m1 => (evE C k σ m1).bind fun y m2 => d2 lmulV x y m2
  | .sortk a, σ, m => (evE C a σ m).bind sortKU
  | .sset a, σ, m => (evE C a σ m).bind (d1 ssetX)
  | .lset a, σ, m => (evE C a σ m).bind (d1 lsetV)
  | .bor i a, σ, m => match frzV i σ with
    | some σ1 => borU (evE C a σ1 m)
    | none => .bad
  | .dget i es, σ, m => ((getV σ i m).bind dctU).bind fun k m1 => (evEs C es σ m1).bind fun us m2 => dgetU k us m2
  | .newD, _, m => .ok (.ref m.length) (m ++ [.dct []])
  | .newD1 k v, σ, m => (evE C k σ (m ++ [.dct []])).bind fun x m1 => (evE C v σ m1).bind fun y m2 => newD1U m.length x y m2
  | .keysl a, σ, m => (evE C a σ m).bind keysU
  | .hear xs _ _ hd e, σ, m => @ite _ (tabsOk xs m) (Classical.propDecidable _) (hearGo hd (evE C e σ m)) .bad
  | .dlen a, σ, m => (evE C a σ m).bind dlenU
  | .dictP a, σ, m => (evE C a σ m).bind dictPU
  | .lrng a, σ, m => ((evE C a σ m).bind asInt).bind lrngU
  | .idx a b, σ, m => (evE C a σ m).bind fun x m1 => (lstU x m1).bind fun ds m2 => (evE C b σ m2).bind (d1 (idxV ds))
  | .din n a d, σ, m => (evE C a σ m).bind fun x m1 => (evE C d σ m1).bind fun y m2 => dinU n x y m2
  | .bin o a b, σ, m => (bA a (evE C a) σ m).bind fun x m1 => (bA b (evE C b) σ m1).bind fun y m2 => d2 (binVal o) x y m2
  | .ladd a b, σ, m => (bA a (evE C a) σ m).bind fun x m1 => (bA b (evE C b) σ m1).bind fun y m2 => d2 (laddV) x y m2
  | .neg a, σ, m => (evE C a σ m).bind (d1 negD)
  | .not a, σ, m => ((evE C a σ m).bind asB).bind fun b m1 => .ok (.dat (.bool (!b))) m1
  | .and a b, σ, m => ((evE C a σ m).bind asB).bind fun c m1 => if c = true then evE C b σ m1 else .ok (.dat (.bool false)) m1
  | .or a b, σ, m => ((evE C a σ m).bind asB).bind fun c m1 => if c = true then .ok (.dat (.bool true)) m1 else evE C b σ m1
  | .cmp o a b, σ, m => (bA a (evE C a) σ m).bind fun x m1 => (bA b (evE C b) σ m1).bind fun y m2 => d2 (cmpVal o) x y m2
  | .chain o o' a b c, σ, m => (bA a (evE C a) σ m).bind fun x m1 => (bA b (evE C b) σ m1).bind fun y m2 => (c2 (cmpVal o) x y m2).bind fun k m3 =>
      if k = true then (bA c (evE C c) σ m3).bind fun z m4 => d2 (cmpVal o') y z m4 else .ok (.dat (.bool false)) m3
  | .iteN t a b, σ, m => ((evE C t σ m).bind asNz).bind fun c m1 => if c = true then evE C a σ m1 else evE C b σ m1
  | .ite t a b, σ, m => ((evE C t σ m).bind asB).bind fun c m1 => if c = true then evE C a σ m1 else evE C b σ m1
  | .call f es, σ, m => (evEs C es σ m).bind fun us m1 => C f us m1
  | .callk f es ks perm, σ, m => (evEs C es σ m).bind fun us m1 => (evEs C ks σ m1).bind fun zs m2 => (R.ofO (permL (us ++ zs) perm) m2).bind fun ws m3 => C f ws m3
  | .b1 f a, σ, m => (bA a (evE C a) σ m).bind (d1 (b1Val f))
  | .b2 f a b, σ, m => (evE C a σ m).bind fun x m1 => (evE C b σ m1).bind fun y m2 => d2 (b2Val f) x y m2
  | .isi a c, σ, m => (evE C a σ m).bind (d1 fun d => some (.bool (clsVal c d)))
  | .isi2 a c c', σ, m => (evE C a σ m).bind (d1 fun d => some (.bool (clsVal c d || clsVal c' d)))
  | .ix a i, σ, m => (bA a (evE C a) σ m).bind fun x m1 => (evE C i σ m1).bind fun y m2 => ixU x y m2
  | .sl a lo hi, σ, m => (bA a (evE C a) σ m).bind fun x m1 => (oA lo (evE C lo) σ m1).bind fun l m2 => (oA hi (evE C hi) σ m2).bind fun h m3 => d1 (fun d => slVal d l h) x m3
  | .rev a, σ, m => (bA a (evE C a) σ m).bind (d1 revD)
  | .gd o _ kvs nks a, σ, m => (evE C a σ m).bind (d1 (gdVal o kvs nks))
  | .comp elt tg it cond own, σ, m => ((evI C it σ m).bind sizeU).bind fun ds m1 =>
      (compGo (fun σ m => (evE C elt σ m).quiet) (cA cond (evE C cond)) tg (wipeE σ (own.map (·.2))) ds m1).quiet.bind fun xs m2 => .ok (.dat (.list xs)) m2
  | .newRs tg it own, σ, m => ((evI C it σ m).bind sizeU).bind fun ds m1 => rsGo tg (wipeE σ (own.map (·.2))) ds m1
  | .popM i, σ, m => popMGo σ i m
  | .ssc elt tg it cond own, σ, m => (((evI C it σ m).bind sizeU).bind fun ds m1 =>
      (compGo (fun σ m => (evE C elt σ m).quiet) (cA cond (evE C cond)) tg (wipeE σ (own.map (·.2))) ds m1).quiet.bind fun xs m2 => .ok (.dat (.list xs)) m2).bind (d1 ssetV)
  | .comp2 elt tg it tg' it' cond own, σ, m => ((evI C it σ m).bind sizeU).bind fun ds m1 =>
      ((comp2Go (fun σ m => (evE C elt σ m).quiet) (cA cond (evE C cond)) tg (fun σ m => (evI C it' σ m).quiet) tg' (wipeE σ (own.map (·.2))) ds m1).quiet.bind sizeU).bind fun xs m2 => .ok (.dat (.list xs)) m2
  | .no, _, _ => .bad
def evEs (C : Calls) : Es → Env → Mem → R (List U)
  | .nil, _, m => .ok [] m
  | .cons e es, σ, m => (evE C e σ m).bind fun u m1 => (evEs C es σ m1).bind fun us m2 => .ok (u :: us) m2
def evI (C : Calls) : It → Env → Mem → R (List PyData)
  | .seq e, σ, m => (evE C e σ m).bind seqU
  | .rng1 a, σ, m => ((evE C a σ m).bind asInt).bind rng1U
  | .rng2 a b, σ, m => ((evE C a σ m).bind asInt).bind fun i m1 => ((evE C b σ m1).bind asInt).bind fun j m2 => rng2U i j m2
  | .enum e, σ, m => ((evE C e σ m).bind seqU).bind enumU
  | .zip2 a b, σ, m => (evE C a σ m).bind fun x m1 => (evE C b σ m1).bind fun y m2 => zipU x y m2
end
end
end Eng

set_option Elab.async false
set_option linter.all false
set_option maxRecDepth 100000
set_option maxHeartbeats 1000000
/-! An own error whose __init__ says super().__init__('..') and keeps its argument: made, raised. -/
namespace EngX
open PySem PySem.W PySem.Calls PyProof.Rows PySem.HandSPX
def iA (fld : Str) (p1 p2 : Pos) : Arguments := { posonlyargs := [], args := [{ arg := "self", annotation := none, pos := p1 }, { arg := fld, annotation := none, pos := p2 }], vararg := none, kwonlyargs := [], kw_defaults := [], kwarg := none, defaults := [] }
def iB (fld msg : Str) (p0 p1 p2 p3 p4 p5 q1 q2 q3 q4 : Pos) : List Stmt :=
  [.Expr (.Call (.Attribute (.Call (.Name "super" p0) [] [] p1) "__init__" p2) [.Constant (.str msg) 0 p3] [] p4) p5, .Assign [.Attribute (.Name "self" q1) fld q2] (.Name fld q3) q4]
def iS (fld : Str) : Scope := { kind := .function, names := [(PySem.Str.ofString "self", .local), (fld, .local), (PySem.Str.ofString "__class__", .free), (PySem.Str.ofString "super", .globalImplicit)], isGenerator := false, isCoroutine := false, more := [] }
/-- what the written part says of an own error's class, at C, and of its __init__, at fI -/
structure OwnTxt (P : Program) (K : Frag) (mg : Str → Option Value) (x fld : Str) (C fI : Addr) : Prop where
  gC : mg x = some (.ref C)
  nS : mg "super" = none
  nP : (P.main.scope.names.lookup ("super" : Str)).isSome = false
  cls : ∃ nm q N bs bm sn sub ab col dd k0 k1 k2 k3 k5, K.lookup C = some (excClassObj nm q C N bs bm true sn sub ab col dd k0 k1 k2 k3 k5 "ValueError.__new__") ∧ refsVE bm = true
  sa : findIn K (.ref C) "__setattr__" = some (some (.builtin "object.__setattr__"))
  noN : findIn K (.ref C) fld = some none
  iC : findIn K (.ref C) "__init__" = some (some (.ref fI))
  tC : typeIn K (.ref fI) = some (.type "function")
  kC : keepIn K (.ref C) = true
  exC : subIn K (.ref C) (.type "BaseException") = some true
  vaC : subIn K (.ref C) (.type "ValueError") = some true
  tyC : typeIn K (.ref C) = some (.type "type")
  slf : mroIn K C (.ref C) = some true
  sup : ks_superIn K C C "__init__" = some (some (.builtin "ValueError.__init__"))
  tp : nsIn K cStatics "thirdparty.any" = some none
  nf : fld = ("at" : Str) ∨ fld = ("value" : Str) ∨ fld = ("most" : Str)
  xf : L2.XfC K C
  fn : ∃ (oc : Value) (od : Option Addr) (q msg : Str) (doc pm : Value) (an : Option Addr) (ct : Value) (osl : Array (Option Value)) (p1 p2 q0 q1 q2 q3 q4 q5 r1 r2 r3 r4 : Pos) (cda cc : Addr) (ccl cl : Value) (cdd cld : Option Addr) (vs : Array Value) (ccs csl : Array (Option Value)) (file : Str) (tf : Tok),
    K.lookup fI = some ⟨oc, od, .func (ksFn "__init__" q (iA fld p1 p2) (iB fld msg q0 q1 q2 q3 q4 q5 r1 r2 r3 r4) (iS fld) .none .none doc pm an (.ref cda) ct cc), osl⟩ ∧ codeIn K (.ref cda) q = true ∧
    K.lookup cda = some ⟨ccl, cdd, .fields vs, ccs⟩ ∧ vs[2]? = some (.str file tf) ∧ ((P.main.file : Str) == file) = true ∧ K.lookup cc = some ⟨cl, cld, .cell (some (.ref C)), csl⟩ ∧ (q2.endLine == q4.line) = true
theorem one_size (v : Value) : [v].length ≤ sizeLine := by
  rw [sizeLine_eq]
  exact (by decide : 1 ≤ 16777216)
/-- what __init__ leaves of a fresh exception at x -/
structure InitEnd (h h' : Heap) (x C dx t1 : Addr) (fld : Str) (v : Value) : Prop where
  keep : ∀ b o, b ≠ x → h.get? b = some o → h'.get? b = some o
  obj : h'.get? x = some { cls := .ref C, dict := some dx, data := .fields #[.ref t1, .none, .none, .none, .bool false, .none] }
  dbig : h.objs.size ≤ dx
  dne : dx ≠ x
  ns : h'.Ns1 dx (fun y => if y = fld then some v else none)
/-- a made error -/
structure OwnMade (h h' : Heap) (e C d : Addr) (fld : Str) (v : Value) : Prop where
  keep : ∀ b o, h.get? b = some o → h'.get? b = some o
  new : h.objs.size ≤ e
  obj : ∃ oe vs, h'.get? e = some oe ∧ oe.cls = .ref C ∧ oe.dict = some d ∧ oe.data = .fields vs ∧ vs[1]? = some .none ∧ vs[2]? = some .none
  dbig : h.objs.size ≤ d
  dne : d ≠ e
  ns : h'.Ns1 d (fun y => if y = fld then some v else none)
section
variable {prog : Program} {w : World} {A : Around} {E : Value → Shared → Prop} {R : Result → Shared → Prop} {s : Shared} {K : Frag} {mg : Str → Option Value} {C fI : Addr} {nm fld : Str}
theorem kept_but {K : Frag} {h h' : Heap} {x : Addr} (X : K.In h) (hx : K.lookup x = none) (k : ∀ b o, b ≠ x → h.get? b = some o → h'.get? b = some o) : K.In h' := fun a o e =>
  k a o (fun z => by rw [z, hx] at e; cases e) (X a o e)
/-- the built-in __init__ bound to the error, called -/
theorem call_line {o : Expr} {name : Str} {apos pos : Pos} {c : Const} {n : Nat} {p : Pos} {env : Env} (hln : (apos.endLine == pos.line) = true) : eval (.Call (.Attribute o name apos) [.Constant c n p] [] pos) env = (do
      let ov ← attributeBase o name env (eval o env)
      standAt apos.atName
      let (f, first) ← holding [ov] (getMethod ov name (do return (← importBound o env).getD true))
      callWith pos f first (backTo pos (starEach [.Constant c n p] env)) []) := by
  rw [arm_eval_Call]
  have hform : methodCallForm ([Expr.Constant c n p].length + ([] : List Keyword).length) (backTo pos (starEach [.Constant c n p] env)) (backToKw pos (keywordEach [] env)) = true := rfl
  have hpos : methodCallPos true o env apos pos = pure pos := by unfold methodCallPos; simp [hln]
  unfold methodCall calleeOf
  rw [hform]
  simp only [hpos, pure_bind, if_true]
  rfl
theorem call_mw {h : Heap} {g : Array GenState} {d : Drawn} {t : Nat} {os : OsState} {u e t0 : Addr} {rest : List Value} {Q : Value → Shared → Prop} {nm q : Str} {N : Addr} {bs bm : List Value} {hdct : Bool} {sn : List Str} {sub : List Value} {ab : Bool} {col : Option Bool} {dd : Option Addr} {k0 k1 k2 k3 k5 : Option Value}
    (hC : h.get? C = some (excClassObj nm q C N bs bm hdct sn sub ab col dd k0 k1 k2 k3 k5 "ValueError.__new__")) (he : h.get? e = some (excO C t0)) (hu : h.get? u = some (kxs_mw "ValueError.__init__" e)) (hrest : rest.length ≤ sizeLine)
    (hq : ∀ h' t1, (∀ b o, b ≠ e → h.get? b = some o → h'.get? b = some o) → h'.get? e = some (excO C t1) → Q .none ⟨h', g, d, t, os⟩) :
    wpAny (model prog w) A (call (.ref u) rest) Q E ⟨h, g, d, t, os⟩ := by
  refine wpAny_call (codeAny_of_tree ?_)
  show wpAny _ A.in1 (callAny (.ref u) ⟨rest, []⟩) _ _ _
  simp only [callAny]
  refine wpAny_bind (wpAny_load hu ?_)
  simp only [kxs_mw, show (Value.type "method-wrapper" == Value.type "method" || Value.type "method-wrapper" == Value.type "builtin_function_or_method" || Value.type "method-wrapper" == Value.type "method-wrapper") = true by decide, if_true]
  refine W.KFB.if_so (by decide) ?_
  refine wpAny_bind (check_bound_init F.excBase_ValueError.toExcCallFacts hC he rfl ?_)
  refine wpAny_bind (wpAny_pure (wpAny_pure ?_))
  refine ⟨plainId_quiet F.excBase_ValueError.init.plain _, codeAny_builtin F.excBase_ValueError.initEntry ?_⟩
  exact exc_init_tree (cls := .ref C) (t0 := t0) (dv := none) (c2 := .none) (c3 := .none) (b4 := .bool false) he hrest fun h' k e' _ => hq h' _ k e'
theorem own_init_at (T : OwnTxt prog K mg nm ("at" : Str) C fI) {x t0 : Addr} {v : Value} (X : K.In s.heap) (G : s.heap.Ns mainGlobals mg) (B : ∃ mb, s.heap.Ns builtinsNs mb ∧ ∀ x : Str, x ≠ "__name__" → mb x = bootBuiltins x) (hlim : s.heap.NoLimit) (hx : s.heap.get? x = some (excO C t0)) (hnx : K.lookup x = none) (hroom : A.depth < recursionLimit)
    (hq : ∀ h' tk dx t1, InitEnd s.heap h' x C dx t1 ("at" : Str) v → R (.ok (.ret .none)) { s with heap := h', toks := tk }) :
    codeAny (model prog w) A (.call (.ref fI) ⟨[.ref x, v], []⟩) R s := by
  obtain ⟨oc, od, qn, msg, doc, pm, an, ct, osl, p1, p2, q0, q1, q2, q3, q4, q5, r1, r2, r3, r4, cda, cc, ccl, cl, cdd, cld, vs, ccs, csl, file, tf, ho, hcd, hca, hvs, hfile, hcc, hln⟩ := T.fn
  obtain ⟨nm', q', N, bs, bm, sn, sub, ab, col, dd, k0, k1, k2, k3, k5, hC, hbm⟩ := T.cls
  have hcl : clsIn K C = some { name := nm', bases := bs, mro := .ref C :: bm, ns := N, qualname := q', hasDict := true, slotNames := sn, subclasses := sub, abstract := ab, collection := col, hasDel := false } := by unfold clsIn; rw [hC] <;> rfl
  have hnn : ∀ x ∈ (iS ("at" : Str)).names, x.2 ≠ .cell := by decide
  have lS : (iS ("at" : Str)).names.lookup ("self" : Str) = some .local := rfl
  have lF : (iS ("at" : Str)).names.lookup ("at" : Str) = some .local := rfl
  have lC : (iS ("at" : Str)).names.lookup ("__class__" : Str) = some .free := rfl
  have lU : (iS ("at" : Str)).names.lookup ("super" : Str) = some .globalImplicit := rfl
  have hdb : (("at" : Str) == ("__debug__" : Str)) = false := by decide
  refine ks_codeAny_call_defAt (body := iB ("at" : Str) msg q0 q1 q2 q3 q4 q5 r1 r2 r3 r4) (binds := [("self", .ref x), (("at" : Str), v)]) hroom (X _ _ ho) rfl hlim (codeRec_of X hcd) rfl (BindsTo.of_eq (by first | rfl | with_unfolding_all rfl)) hnn ?_ (fun h₁ hns hk₁ => ?_) rfl rfl rfl
  · intro y hy
    simp only [List.mem_cons, List.not_mem_nil, or_false] at hy
    rcases hy with rfl | rfl
    · exact lS
    · exact lF
  obtain ⟨mb, hB, hBv⟩ := B
  have X₁ : K.In h₁ := X.keeps hk₁
  have hx₁ := hk₁ _ _ hx
  have hxL : s.heap.objs.size ≠ x := Nat.ne_of_gt (Heap.lt_size hx)
  have hvS : ([("self", .ref x), (("at" : Str), v)] : List (Str × Value)).reverse.lookup ("self" : Str) = some (.ref x) := rfl
  have hvF : ([("self", .ref x), (("at" : Str), v)] : List (Str × Value)).reverse.lookup ("at" : Str) = some v := rfl
  refine ks_wpAt_execs_cons (ks_wpAt_Expr_any (ks_wpAt_MethodCall ?_ (call_line hln)))
  refine ks_wpAt_super_base (env := ksEnv qn (iS ("at" : Str)) s.heap.objs.size fI (.ref cda) cc) lU lC rfl rfl (X₁ _ _ ho) rfl rfl rfl (X₁ _ _ hca) rfl hvs hfile T.nP ?_
  refine ks_loadName_global rfl lU (loadGlobal_builtin (env := ksEnv qn (iS ("at" : Str)) s.heap.objs.size fI (.ref cda) cc) (G.keeps hk₁) T.nS (hB.keeps hk₁) ((hBv _ (by decide)).trans rfl) ⟨rfl, ?_⟩)
  refine wpAny_loadName_free rfl lC rfl ⟨_, X₁ _ _ hcc, rfl⟩ ?_
  refine wpAny_loadName_local rfl lS hns hvS ?_
  have hC₁ := X₁ _ _ hC
  refine ks_wpAny_isType_cls hC₁ rfl ⟨rfl, ?_⟩
  refine ks_wpAny_call_super hC₁ rfl hx₁ rfl (fun c e => by cases e) (looks_mroIn X₁ T.slf) (fun h₂ e₂ k₂ => ?_)
  have X₂ : K.In h₂ := X₁.keeps k₂
  have I₂ : InstAt h₂ x (excO C t0) C none := ⟨k₂ _ _ hx₁, rfl, rfl, trivial⟩
  have hsup : alongIn K "__init__" (((.ref C :: bm).dropWhile (· != .ref C)).drop 1) = some (some (.builtin "ValueError.__init__")) := by
    have := T.sup
    unfold ks_superIn at this
    rw [hcl, Option.bind_some] at this
    exact this
  refine kxs_getMethod kxs_ValueError e₂ (looks_opaque X₂ T.tp) (l₀ := .ref C :: bm) ?_ rfl X₂ hsup (I₂.type.andThen (looks_subIn X₂ T.vaC)) (ks_ne X₂ I₂ hcl) (by decide) ?_
  · exact fun A Q E s k q => wpAny_bind ((looks_clsIn X₂ hcl) A _ E s k (wpAny_pure q))
  have hw : (h₂.push (kxs_mw "ValueError.__init__" x)).get? h₂.objs.size = some (kxs_mw "ValueError.__init__" x) := Heap.get?_push_at rfl rfl
  have k₃ : ∀ b o, h₂.get? b = some o → (h₂.push (kxs_mw "ValueError.__init__" x)).get? b = some o := fun b o e => Heap.get?_push_of_some _ e
  have X₃ : K.In (h₂.push (kxs_mw "ValueError.__init__" x)) := X₂.keeps k₃
  have hx₃ := k₃ _ _ (k₂ _ _ hx₁)
  refine kxs_callWith (i := "ValueError.__init__") (x := x) rfl (evalArgs_plain ?_)
  refine spliced_cons (Constant_str (k := 0) (pos := q3) ?_)
  refine spliced_nil ?_
  refine ⟨hw, ?_⟩
  refine call_mw (X₃ _ _ hC) hx₃ hw (one_size _) fun h₄ t1 k₄ hx₄ => ?_
  show _root_.PySem.wpAt _ _ _ (execs [.Assign [.Attribute (.Name "self" r1) ("at" : Str) r2] (.Name ("at" : Str) r3) r4] _) _ _ _
  have kk : ∀ b o, b ≠ x → h₁.get? b = some o → h₄.get? b = some o := fun b o hb e => k₄ b o hb (k₃ _ _ (k₂ _ _ e))
  have X₄ : K.In h₄ := kept_but X₁ hnx kk
  have hns₄ : h₄.Ns s.heap.objs.size (fun y => ([("self", .ref x), (("at" : Str), v)] : List (Str × Value)).reverse.lookup y) := hns.at fun o q => kk _ o hxL q
  refine wpAt_of_wpAny (wpAny_execs_cons (plainObj_wpAny_Assign_Attribute ?_))
  refine wpAny_Name (wpAny_loadName_local rfl lF hns₄ hvF ?_) hdb
  refine wpAny_Name (wpAny_loadName_local rfl lS hns₄ hvS ?_) (by decide)
  refine set_plain X₄ (ox := excO C t1) (od := none) ⟨hx₄, rfl, rfl, trivial⟩ T.sa ?_
  refine exc_osa X₄ hx₄ hcl (show refsVE (.ref C :: bm) = true from hbm) rfl T.noN (fun h₅ tk₅ dx k₅ dn dne hx₅ hn₅ => ?_)
  show wpAny _ _ (execs _ _) _ _ _
  have z : s.heap.objs.size < h₄.objs.size := hns₄.lt
  exact wpAny_execs_nil (hq h₅ tk₅ dx t1 ⟨fun b o hb e => k₅ b o hb (kk b o hb (hk₁ b o e)), hx₅, Nat.le_of_lt (Nat.lt_of_lt_of_le z dn), dne, hn₅⟩)
theorem own_init_most (T : OwnTxt prog K mg nm ("most" : Str) C fI) {x t0 : Addr} {v : Value} (X : K.In s.heap) (G : s.heap.Ns mainGlobals mg) (B : ∃ mb, s.heap.Ns builtinsNs mb ∧ ∀ x : Str, x ≠ "__name__" → mb x = bootBuiltins x) (hlim : s.heap.NoLimit) (hx : s.heap.get? x = some (excO C t0)) (hnx : K.lookup x = none) (hroom : A.depth < recursionLimit)
    (hq : ∀ h' tk dx t1, InitEnd s.heap h' x C dx t1 ("most" : Str) v → R (.ok (.ret .none)) { s with heap := h', toks := tk }) :
    codeAny (model prog w) A (.call (.ref fI) ⟨[.ref x, v], []⟩) R s := by
  obtain ⟨oc, od, qn, msg, doc, pm, an, ct, osl, p1, p2, q0, q1, q2, q3, q4, q5, r1, r2, r3, r4, cda, cc, ccl, cl, cdd, cld, vs, ccs, csl, file, tf, ho, hcd, hca, hvs, hfile, hcc, hln⟩ := T.fn
  obtain ⟨nm', q', N, bs, bm, sn, sub, ab, col, dd, k0, k1, k2, k3, k5, hC, hbm⟩ := T.cls
  have hcl : clsIn K C = some { name := nm', bases := bs, mro := .ref C :: bm, ns := N, qualname := q', hasDict := true, slotNames := sn, subclasses := sub, abstract := ab, collection := col, hasDel := false } := by unfold clsIn; rw [hC] <;> rfl
  have hnn : ∀ x ∈ (iS ("most" : Str)).names, x.2 ≠ .cell := by decide
  have lS : (iS ("most" : Str)).names.lookup ("self" : Str) = some .local := rfl
  have lF : (iS ("most" : Str)).names.lookup ("most" : Str) = some .local := rfl
  have lC : (iS ("most" : Str)).names.lookup ("__class__" : Str) = some .free := rfl
  have lU : (iS ("most" : Str)).names.lookup ("super" : Str) = some .globalImplicit := rfl
  have hdb : (("most" : Str) == ("__debug__" : Str)) = false := by decide
  refine ks_codeAny_call_defAt (body := iB ("most" : Str) msg q0 q1 q2 q3 q4 q5 r1 r2 r3 r4) (binds := [("self", .ref x), (("most" : Str), v)]) hroom (X _ _ ho) rfl hlim (codeRec_of X hcd) rfl (BindsTo.of_eq (by first | rfl | with_unfolding_all rfl)) hnn ?_ (fun h₁ hns hk₁ => ?_) rfl rfl rfl
  · intro y hy
    simp only [List.mem_cons, List.not_mem_nil, or_false] at hy
    rcases hy with rfl | rfl
    · exact lS
    · exact lF
  obtain ⟨mb, hB, hBv⟩ := B
  have X₁ : K.In h₁ := X.keeps hk₁
  have hx₁ := hk₁ _ _ hx
  have hxL : s.heap.objs.size ≠ x := Nat.ne_of_gt (Heap.lt_size hx)
  have hvS : ([("self", .ref x), (("most" : Str), v)] : List (Str × Value)).reverse.lookup ("self" : Str) = some (.ref x) := rfl
  have hvF : ([("self", .ref x), (("most" : Str), v)] : List (Str × Value)).reverse.lookup ("most" : Str) = some v := rfl
  refine ks_wpAt_execs_cons (ks_wpAt_Expr_any (ks_wpAt_MethodCall ?_ (call_line hln)))
  refine ks_wpAt_super_base (env := ksEnv qn (iS ("most" : Str)) s.heap.objs.size fI (.ref cda) cc) lU lC rfl rfl (X₁ _ _ ho) rfl rfl rfl (X₁ _ _ hca) rfl hvs hfile T.nP ?_
  refine ks_loadName_global rfl lU (loadGlobal_builtin (env := ksEnv qn (iS ("most" : Str)) s.heap.objs.size fI (.ref cda) cc) (G.keeps hk₁) T.nS (hB.keeps hk₁) ((hBv _ (by decide)).trans rfl) ⟨rfl, ?_⟩)
  refine wpAny_loadName_free rfl lC rfl ⟨_, X₁ _ _ hcc, rfl⟩ ?_
  refine wpAny_loadName_local rfl lS hns hvS ?_
  have hC₁ := X₁ _ _ hC
  refine ks_wpAny_isType_cls hC₁ rfl ⟨rfl, ?_⟩
  refine ks_wpAny_call_super hC₁ rfl hx₁ rfl (fun c e => by cases e) (looks_mroIn X₁ T.slf) (fun h₂ e₂ k₂ => ?_)
  have X₂ : K.In h₂ := X₁.keeps k₂
  have I₂ : InstAt h₂ x (excO C t0) C none := ⟨k₂ _ _ hx₁, rfl, rfl, trivial⟩
  have hsup : alongIn K "__init__" (((.ref C :: bm).dropWhile (· != .ref C)).drop 1) = some (some (.builtin "ValueError.__init__")) := by
    have := T.sup
    unfold ks_superIn at this
    rw [hcl, Option.bind_some] at this
    exact this
  refine kxs_getMethod kxs_ValueError e₂ (looks_opaque X₂ T.tp) (l₀ := .ref C :: bm) ?_ rfl X₂ hsup (I₂.type.andThen (looks_subIn X₂ T.vaC)) (ks_ne X₂ I₂ hcl) (by decide) ?_
  · exact fun A Q E s k q => wpAny_bind ((looks_clsIn X₂ hcl) A _ E s k (wpAny_pure q))
  have hw : (h₂.push (kxs_mw "ValueError.__init__" x)).get? h₂.objs.size = some (kxs_mw "ValueError.__init__" x) := Heap.get?_push_at rfl rfl
  have k₃ : ∀ b o, h₂.get? b = some o → (h₂.push (kxs_mw "ValueError.__init__" x)).get? b = some o := fun b o e => Heap.get?_push_of_some _ e
  have X₃ : K.In (h₂.push (kxs_mw "ValueError.__init__" x)) := X₂.keeps k₃
  have hx₃ := k₃ _ _ (k₂ _ _ hx₁)
  refine kxs_callWith (i := "ValueError.__init__") (x := x) rfl (evalArgs_plain ?_)
  refine spliced_cons (Constant_str (k := 0) (pos := q3) ?_)
  refine spliced_nil ?_
  refine ⟨hw, ?_⟩
  refine call_mw (X₃ _ _ hC) hx₃ hw (one_size _) fun h₄ t1 k₄ hx₄ => ?_
  show _root_.PySem.wpAt _ _ _ (execs [.Assign [.Attribute (.Name "self" r1) ("most" : Str) r2] (.Name ("most" : Str) r3) r4] _) _ _ _
  have kk : ∀ b o, b ≠ x → h₁.get? b = some o → h₄.get? b = some o := fun b o hb e => k₄ b o hb (k₃ _ _ (k₂ _ _ e))
  have X₄ : K.In h₄ := kept_but X₁ hnx kk
  have hns₄ : h₄.Ns s.heap.objs.size (fun y => ([("self", .ref x), (("most" : Str), v)] : List (Str × Value)).reverse.lookup y) := hns.at fun o q => kk _ o hxL q
  refine wpAt_of_wpAny (wpAny_execs_cons (plainObj_wpAny_Assign_Attribute ?_))
  refine wpAny_Name (wpAny_loadName_local rfl lF hns₄ hvF ?_) hdb
  refine wpAny_Name (wpAny_loadName_local rfl lS hns₄ hvS ?_) (by decide)
  refine set_plain X₄ (ox := excO C t1) (od := none) ⟨hx₄, rfl, rfl, trivial⟩ T.sa ?_
  refine exc_osa X₄ hx₄ hcl (show refsVE (.ref C :: bm) = true from hbm) rfl T.noN (fun h₅ tk₅ dx k₅ dn dne hx₅ hn₅ => ?_)
  show wpAny _ _ (execs _ _) _ _ _
  have z : s.heap.objs.size < h₄.objs.size := hns₄.lt
  exact wpAny_execs_nil (hq h₅ tk₅ dx t1 ⟨fun b o hb e => k₅ b o hb (kk b o hb (hk₁ b o e)), hx₅, Nat.le_of_lt (Nat.lt_of_lt_of_le z dn), dne, hn₅⟩)
theorem own_init_value (T : OwnTxt prog K mg nm ("value" : Str) C fI) {x t0 : Addr} {v : Value} (X : K.In s.heap) (G : s.heap.Ns mainGlobals mg) (B : ∃ mb, s.heap.Ns builtinsNs mb ∧ ∀ x : Str, x ≠ "__name__" → mb x = bootBuiltins x) (hlim : s.heap.NoLimit) (hx : s.heap.get? x = some (excO C t0)) (hnx : K.lookup x = none) (hroom : A.depth < recursionLimit)
    (hq : ∀ h' tk dx t1, InitEnd s.heap h' x C dx t1 ("value" : Str) v → R (.ok (.ret .none)) { s with heap := h', toks := tk }) :
    codeAny (model prog w) A (.call (.ref fI) ⟨[.ref x, v], []⟩) R s := by
  obtain ⟨oc, od, qn, msg, doc, pm, an, ct, osl, p1, p2, q0, q1, q2, q3, q4, q5, r1, r2, r3, r4, cda, cc, ccl, cl, cdd, cld, vs, ccs, csl, file, tf, ho, hcd, hca, hvs, hfile, hcc, hln⟩ := T.fn
  obtain ⟨nm', q', N, bs, bm, sn, sub, ab, col, dd, k0, k1, k2, k3, k5, hC, hbm⟩ := T.cls
  have hcl : clsIn K C = some { name := nm', bases := bs, mro := .ref C :: bm, ns := N, qualname := q', hasDict := true, slotNames := sn, subclasses := sub, abstract := ab, collection := col, hasDel := false } := by unfold clsIn; rw [hC] <;> rfl
  have hnn : ∀ x ∈ (iS ("value" : Str)).names, x.2 ≠ .cell := by decide
  have lS : (iS ("value" : Str)).names.lookup ("self" : Str) = some .local := rfl
  have lF : (iS ("value" : Str)).names.lookup ("value" : Str) = some .local := rfl
  have lC : (iS ("value" : Str)).names.lookup ("__class__" : Str) = some .free := rfl
  have lU : (iS ("value" : Str)).names.lookup ("super" : Str) = some .globalImplicit := rfl
  have hdb : (("value" : Str) == ("__debug__" : Str)) = false := by decide
  refine ks_codeAny_call_defAt (body := iB ("value" : Str) msg q0 q1 q2 q3 q4 q5 r1 r2 r3 r4) (binds := [("self", .ref x), (("value" : Str), v)]) hroom (X _ _ ho) rfl hlim (codeRec_of X hcd) rfl (BindsTo.of_eq (by first | rfl | with_unfolding_all rfl)) hnn ?_ (fun h₁ hns hk₁ => ?_) rfl rfl rfl
  · intro y hy
    simp only [List.mem_cons, List.not_mem_nil, or_false] at hy
    rcases hy with rfl | rfl
    · exact lS
    · exact lF
  obtain ⟨mb, hB, hBv⟩ := B
  have X₁ : K.In h₁ := X.keeps hk₁
  have hx₁ := hk₁ _ _ hx
  have hxL : s.heap.objs.size ≠ x := Nat.ne_of_gt (Heap.lt_size hx)
  have hvS : ([("self", .ref x), (("value" : Str), v)] : List (Str × Value)).reverse.lookup ("self" : Str) = some (.ref x) := rfl
  have hvF : ([("self", .ref x), (("value" : Str), v)] : List (Str × Value)).reverse.lookup ("value" : Str) = some v := rfl
  refine ks_wpAt_execs_cons (ks_wpAt_Expr_any (ks_wpAt_MethodCall ?_ (call_line hln)))
  refine ks_wpAt_super_base (env := ksEnv qn (iS ("value" : Str)) s.heap.objs.size fI (.ref cda) cc) lU lC rfl rfl (X₁ _ _ ho) rfl rfl rfl (X₁ _ _ hca) rfl hvs hfile T.nP ?_
  refine ks_loadName_global rfl lU (loadGlobal_builtin (env := ksEnv qn (iS ("value" : Str)) s.heap.objs.size fI (.ref cda) cc) (G.keeps hk₁) T.nS (hB.keeps hk₁) ((hBv _ (by decide)).trans rfl) ⟨rfl, ?_⟩)
  refine wpAny_loadName_free rfl lC rfl ⟨_, X₁ _ _ hcc, rfl⟩ ?_
  refine wpAny_loadName_local rfl lS hns hvS ?_
  have hC₁ := X₁ _ _ hC
  refine ks_wpAny_isType_cls hC₁ rfl ⟨rfl, ?_⟩
  refine ks_wpAny_call_super hC₁ rfl hx₁ rfl (fun c e => by cases e) (looks_mroIn X₁ T.slf) (fun h₂ e₂ k₂ => ?_)
  have X₂ : K.In h₂ := X₁.keeps k₂
  have I₂ : InstAt h₂ x (excO C t0) C none := ⟨k₂ _ _ hx₁, rfl, rfl, trivial⟩
  have hsup : alongIn K "__init__" (((.ref C :: bm).dropWhile (· != .ref C)).drop 1) = some (some (.builtin "ValueError.__init__")) := by
    have := T.sup
    unfold ks_superIn at this
    rw [hcl, Option.bind_some] at this
    exact this
  refine kxs_getMethod kxs_ValueError e₂ (looks_opaque X₂ T.tp) (l₀ := .ref C :: bm) ?_ rfl X₂ hsup (I₂.type.andThen (looks_subIn X₂ T.vaC)) (ks_ne X₂ I₂ hcl) (by decide) ?_
  · exact fun A Q E s k q => wpAny_bind ((looks_clsIn X₂ hcl) A _ E s k (wpAny_pure q))
  have hw : (h₂.push (kxs_mw "ValueError.__init__" x)).get? h₂.objs.size = some (kxs_mw "ValueError.__init__" x) := Heap.get?_push_at rfl rfl
  have k₃ : ∀ b o, h₂.get? b = some o → (h₂.push (kxs_mw "ValueError.__init__" x)).get? b = some o := fun b o e => Heap.get?_push_of_some _ e
  have X₃ : K.In (h₂.push (kxs_mw "ValueError.__init__" x)) := X₂.keeps k₃
  have hx₃ := k₃ _ _ (k₂ _ _ hx₁)
  refine kxs_callWith (i := "ValueError.__init__") (x := x) rfl (evalArgs_plain ?_)
  refine spliced_cons (Constant_str (k := 0) (pos := q3) ?_)
  refine spliced_nil ?_
  refine ⟨hw, ?_⟩
  refine call_mw (X₃ _ _ hC) hx₃ hw (one_size _) fun h₄ t1 k₄ hx₄ => ?_
  show _root_.PySem.wpAt _ _ _ (execs [.Assign [.Attribute (.Name "self" r1) ("value" : Str) r2] (.Name ("value" : Str) r3) r4] _) _ _ _
  have kk : ∀ b o, b ≠ x → h₁.get? b = some o → h₄.get? b = some o := fun b o hb e => k₄ b o hb (k₃ _ _ (k₂ _ _ e))
  have X₄ : K.In h₄ := kept_but X₁ hnx kk
  have hns₄ : h₄.Ns s.heap.objs.size (fun y => ([("self", .ref x), (("value" : Str), v)] : List (Str × Value)).reverse.lookup y) := hns.at fun o q => kk _ o hxL q
  refine wpAt_of_wpAny (wpAny_execs_cons (plainObj_wpAny_Assign_Attribute ?_))
  refine wpAny_Name (wpAny_loadName_local rfl lF hns₄ hvF ?_) hdb
  refine wpAny_Name (wpAny_loadName_local rfl lS hns₄ hvS ?_) (by decide)
  refine set_plain X₄ (ox := excO C t1) (od := none) ⟨hx₄, rfl, rfl, trivial⟩ T.sa ?_
  refine exc_osa X₄ hx₄ hcl (show refsVE (.ref C :: bm) = true from hbm) rfl T.noN (fun h₅ tk₅ dx k₅ dn dne hx₅ hn₅ => ?_)
  show wpAny _ _ (execs _ _) _ _ _
  have z : s.heap.objs.size < h₄.objs.size := hns₄.lt
  exact wpAny_execs_nil (hq h₅ tk₅ dx t1 ⟨fun b o hb e => k₅ b o hb (kk b o hb (hk₁ b o e)), hx₅, Nat.le_of_lt (Nat.lt_of_lt_of_le z dn), dne, hn₅⟩)
theorem own_init (T : OwnTxt prog K mg nm fld C fI) {x t0 : Addr} {v : Value} (X : K.In s.heap) (G : s.heap.Ns mainGlobals mg) (B : ∃ mb, s.heap.Ns builtinsNs mb ∧ ∀ x : Str, x ≠ "__name__" → mb x = bootBuiltins x) (hlim : s.heap.NoLimit) (hx : s.heap.get? x = some (excO C t0)) (hnx : K.lookup x = none) (hroom : A.depth < recursionLimit)
    (hq : ∀ h' tk dx t1, InitEnd s.heap h' x C dx t1 fld v → R (.ok (.ret .none)) { s with heap := h', toks := tk }) :
    codeAny (model prog w) A (.call (.ref fI) ⟨[.ref x, v], []⟩) R s := by
  rcases T.nf with rfl | rfl | rfl
  · exact own_init_at T X G B hlim hx hnx hroom hq
  · exact own_init_value T X G B hlim hx hnx hroom hq
  · exact own_init_most T X G B hlim hx hnx hroom hq
theorem own_made (T : OwnTxt prog K mg nm fld C fI) {v : Value} (X : K.In s.heap) (G : s.heap.Ns mainGlobals mg) (B : ∃ mb, s.heap.Ns builtinsNs mb ∧ ∀ x : Str, x ≠ "__name__" → mb x = bootBuiltins x) (hlim : s.heap.NoLimit) (hroom : A.depth + 1 < recursionLimit)
    (hq : ∀ h' tk e d, OwnMade s.heap h' e C d fld v → R (.ok (.ret (.ref e))) { s with heap := h', toks := tk }) :
    codeAny (model prog w) A (.call (.ref C) ⟨[v], []⟩) R s := by
  obtain ⟨nm', q, N, bs, bm, sn, sub, ab, col, dd, k0, k1, k2, k3, k5, hC, hbm⟩ := T.cls
  obtain ⟨hp, g, dr, tk, os⟩ := s
  have k : ∀ b o, hp.get? b = some o → ((hp.push (kdv_tup [v])).push (excO C hp.objs.size)).get? b = some o := fun b o e => Heap.get?_push_of_some _ (Heap.get?_push_of_some _ e)
  have hget : ((hp.push (kdv_tup [v])).push (excO C hp.objs.size)).get? (hp.objs.size + 1) = some (excO C hp.objs.size) := by heap_get
  have hnx : K.lookup (hp.objs.size + 1) = none := by
    cases e : K.lookup (hp.objs.size + 1) with
    | none => rfl
    | some o =>
      have z : hp.get? (hp.objs.size + 1) = some o := X _ _ e
      exact absurd (Nat.lt_of_succ_lt (Heap.lt_size z)) (Nat.lt_irrefl _)
  obtain ⟨mb, hB, hBv⟩ := B
  refine call_own F.excBase_ValueError (fun X => refsVE_contains X bm hbm) (X _ _ hC) (looks_findIn X T.iC) (fun self => bind_fn X self T.tC) (one_size v) ?_
  refine own_init (s := ⟨(hp.push (kdv_tup [v])).push (excO C hp.objs.size), g, dr, tk, os⟩) T (X.keeps k) (G.keeps k) ⟨mb, hB.keeps k, hBv⟩ (hlim.keeps k) hget hnx ?_ fun h' tk' dx t1 ⟨k', hx, dn, dne, hns⟩ => ?_
  · show A.depth + 1 < recursionLimit
    exact hroom
  · have old : ∀ b o, hp.get? b = some o → h'.get? b = some o := fun b o e => k' b o (Nat.ne_of_lt (Nat.lt_succ_of_lt (Heap.lt_size e))) (k b o e)
    have z : hp.objs.size + 1 + 1 ≤ dx := by
      first
        | (simpa only [Heap.size_push] using dn)
        | exact dn
        | (have q := dn; rw [Heap.size_push, Heap.size_push] at q; exact q)
    exact ⟨rfl, hq h' tk' (hp.objs.size + 1) dx ⟨old, Nat.le_succ _, ⟨_, _, hx, rfl, rfl, rfl, rfl, rfl⟩, Nat.le_trans (Nat.le_trans (Nat.le_succ _) (Nat.le_succ _)) z, dne, hns⟩⟩
end
end EngX
namespace L2
open PySem PySem.Spec PyProof.Rows EngX
theorem relO_own {v : V} {v' : Value} {fld : Str} (r : RelV v v') (f : Str) : RelO (List.lookup f [(fld, v)]) (if f = fld then some v' else none) := by
  by_cases hw : f = fld
  · subst hw
    rw [if_pos rfl]
    have q : List.lookup f [(f, v)] = some v := by simp [List.lookup]
    rw [q]
    exact r
  · rw [if_neg hw]
    have qw : (f == fld) = false := by simpa using hw
    have q2 : List.lookup f [(fld, v)] = none := by simp [List.lookup, qw]
    rw [q2]
    trivial
section
variable {X : Cx} {C fI : Addr} {fld nm : Str}
/-- NAME(e), NAME an own error -/
def tMkOwn (C : Addr) (fld : Str) (ta : TA) : St → Hp → XK → Prop := fun σ H Q => ta σ H fun vs H1 => ∃ v, vs = [v] ∧ ∀ d, H1 d = none → Q (.ref C) (some d) (upd H1 d (.xd [(fld, v)]))
theorem pmk_ownX {a : Expr} {ta : TA} {p pos : Pos} {k : Nat} (T : OwnTxt X.prog X.K X.mg nm fld C fI) (hr : Room k X.A) (ha : PA X [a] ta) (hg : Gl X nm) (hdb : (nm == ("__debug__" : Str)) = false)
    (he : starEach (a :: []) X.env = (false, eval a X.env) :: starEach [] X.env) (hpl : (backTo pos (starEach [] X.env)).any (·.1) = false := by rfl) :
    PMk X (.Call (.Name nm p) [a] [] pos) (tMkOwn C fld ta) := by
  intro pins s σ H Q I h
  refine wpAny_Call_Name_kw (ld_glob I hg T.gC ?_ hdb)
  refine PySem.W.callWith_K (h₀ := X.base) I.ok.mod.kin T.kC (thn (ha.run pos pins s σ H _ I h) fun us s1 hh => ?_) he hpl
  obtain ⟨vs, H1, I1, r1, v, ev, q1⟩ := hh
  subst ev
  refine ⟨I1.kIn, ?_⟩
  cases r1 with
  | cons rv rn =>
    rename_i v' us'
    cases rn
    show wpAny _ _ (call (.ref C) [v']) _ _ _
    have hlim := I1.nolimit
    have hG := I1.ok.mod.glob.keeps I1.bk
    obtain ⟨mb, hB, hBv⟩ := I1.ok.mod.blt
    have hB1 := hB.keeps I1.bk
    obtain ⟨hp, g, dr, tk, os⟩ := s1
    refine wpAny_call (own_made T I1.kIn hG ⟨mb, hB1, hBv⟩ hlim (by have := hr.dp; omega) fun h' tk' e d M => ?_)
    show MkP X pins σ Q (.ref e) ⟨h', g, dr, tk', os⟩
    obtain ⟨oe, fv, hoe, hc, hd, hdat, h1, h2⟩ := M.obj
    have hns := M.ns
    obtain ⟨G', g1, g2⟩ := restrict h' fun b => decide (b ≠ e)
    have gk : ∀ b, b ≠ e → G'.get? b = h'.get? b := fun b hb => g1 b (decide_eq_true hb)
    have ge : G'.get? e = none := g2 e (by simp)
    have old : ∀ b o, hp.get? b = some o → G'.get? b = some o := fun b o q => (gk b (Nat.ne_of_lt (Nat.lt_of_lt_of_le (Heap.lt_size q) M.new))).trans (M.keep b o q)
    have ob : ObjOk X.prog X.w (upd H1 d (.xd [(fld, v)])) G' d (.xd [(fld, v)]) :=
      ⟨_, hns.at (fun o q => (gk d M.dne).trans q), fun f => relO_own rv f⟩
    have J : Inv X pins σ (upd H1 d (.xd [(fld, v)])) ⟨G', g, dr, tk', os⟩ := I1.laid (t' := tk') old M.dbig ob
    refine ⟨e, oe, fv, ⟨G', g, dr, tk', os⟩, _, .ref C, some d, rfl, J, fun b o q => ?_, ge, hoe, ⟨hc, hd⟩, hdat, h1, ?_, rfl, I1.bare, raises_own T.exC T.tyC, q1 d (I1.hok.fresh M.dbig)⟩
    · by_cases hb : b = e
      · have q' : G'.get? b = some o := q
        rw [hb, ge] at q'; cases q'
      · exact (gk b hb).symm.trans q
    · rw [upd_ne (Ne.symm M.dne)]
      exact I1.hok.fresh M.new
/-- raise NAME(e) -/
def tRaiseOwn (C : Addr) (fld : Str) (W : WX) (ta : TA) : TS := fun _ σ H => tMkOwn C fld ta σ H fun cls d H' => W cls d σ H'
theorem ps_raiseOwn {a : Expr} {ta : TA} {W : WX} {p pos pos2 : Pos} {k : Nat} (hc : X.calm = true) (T : OwnTxt X.prog X.K X.mg nm fld C fI) (hr : Room k X.A) (tk : Takes X W) (ha : PA X [a] ta) (hg : Gl X nm) (hdb : (nm == ("__debug__" : Str)) = false)
    (he : starEach (a :: []) X.env = (false, eval a X.env) :: starEach [] X.env) (hpl : (backTo pos (starEach [] X.env)).any (·.1) = false := by rfl) :
    PS X (.Raise (some (.Call (.Name nm p) [a] [] pos)) none pos2) (tRaiseOwn C fld W ta) := ps_raise hc tk (pmk_ownX T hr ha hg hdb he hpl)
end
end L2

set_option Elab.async false
set_option linter.all false
set_option maxRecDepth 100000
set_option maxHeartbeats 1000000
/-! isinstance of a caught error that has a field. -/
namespace L2
open PySem PySem.Spec PyProof.Rows
structure IsxC (K : PySem.W.Frag) (D : Addr) : Prop where
  cl : (PySem.W.clsIn K D).isSome = true
  hg : PySem.W.findIn K (.ref D) "__getattribute__" = some (some (.builtin "BaseException.__getattribute__"))
  hk : PySem.W.findIn K (.ref D) "__getattr__" = some none
  hs : PySem.W.subIn K (.ref D) (.type "BaseException") = some true
  ha : PySem.W.findIn K (.ref D) "__class__" = some (some (.builtin "object.__class__"))
  hn : PySem.W.specialIn K (.builtin "object.__class__") "__get__" = some (some (.builtin "getset_descriptor.__get__"))
  ht : PySem.W.takesIn K (.builtin "object.__class__") = some true
  hm : PySem.W.mroIn K D (.type "object") = some true
/-- isinstance(e, c), e the error that the suite holds, with a dict of its own -/
def rIsX (K : PySem.W.Frag) (D a : Addr) (d : Option Addr) : List V → Hp → VK → Prop := fun xs H Q => ∃ (c : V) (cv : Value) (b : Bool) (dd : Addr) (fs : List (Str × V)), xs = [.ref a, c] ∧ d = some dd ∧ H dd = some (.xd fs) ∧ (∀ u, RelV c u → u = cv) ∧ PySem.W.kitOne K (.ref D) cv = some b ∧ Q (.bl b) H
theorem call_isX {X : Cx} {a D : Addr} {d : Option Addr} {oe : Obj} {pn : List (Addr × Obj)} (C : IsxC X.K D) (hz : Zc (.ref D) d oe) (hf : ∃ vs, oe.data = .fields vs) : CallR (X.suite a ((a, oe) :: pn)) (.builtin "isinstance") (rIsX X.K D a d) := by
  intro pins s σ H xs us Q I r h
  obtain ⟨c, cv, b, dd, fs, rfl, rfl, hx, hcv, e, q⟩ := h
  cases r with
  | cons rx rr =>
    cases rr with
    | cons rt rr =>
      cases rr
      cases rx
      have ec := hcv _ rt
      subst ec
      obtain ⟨hget, _⟩ := I.pin (a, oe) (List.mem_append.mpr (.inl List.mem_cons_self))
      obtain ⟨vs, hv⟩ := hf
      obtain ⟨mA, hns, hr⟩ := I.hok dd _ hx
      obtain ⟨od, ho, hl⟩ := lookIn_ns hns
      have J : PySem.W.InstAt s.heap a oe D (some od) := ⟨hget, hz.1, by unfold PySem.W.notCls; rw [hv] <;> rfl, by rw [hz.2]; exact ho⟩
      exact PySem.W.kia_one (PySem.W.kitx_exc C.cl C.hg C.hk C.hs C.ha C.hn C.ht C.hm) I.kIn J e (fun z => nomatch z) fun tk => ⟨.bl b, H, I.kept (t' := tk) fun _ _ z => z, rfl, q⟩
end L2

set_option Elab.async false
set_option linter.all false
set_option maxRecDepth 100000
/-! The evaluator: statements, defs, a program. -/
namespace Eng
open PySem
noncomputable section

def augVal : BinO → PyData → PyData → Option PyData
  | .add, .int i, .int j => some (.int (i + j))
  | .sub, .int i, .int j => some (.int (i - j))
  | .mul, .int i, .int j => @ite _ (L2.CMul i j) (Classical.propDecidable _) (some (.int (i * j))) none
  | .fdiv, .int i, .int j => @ite _ (L2.CDivW i j) (Classical.propDecidable _) (some (.int (i / j))) none
  | _, _, _ => none
/-- a try's body: e; e, then return d; return e -/
inductive TM where
  | ex | exr (d : PyData) | rt
mutual
inductive S where
  | asg (i : Nat) (e : E)
  | own (i : Nat) (e : E)
  | frz (i : Nat)
  | asgT (ts : List Tg) (e : E)
  | par2 (i j : Nat) (a b : E)
  | par2o (i j : Nat) (a b : E)
  | par1o (i j : Nat) (a b : E)
  | par2oo (i j : Nat) (a b : E)
  | asgTo (i j : Nat) (a b : E)
  | par3o (i j l : Nat) (a b c : E)
  | par3m (i j l : Nat) (a b c : E)
  | par3z (i j l : Nat) (a b c : E)
  | augO (i : Nat) (ix : E) (o : BinO) (e : E)
  | setO (i : Nat) (ix e : E)
  | setOP (i : Nat) (ix : E) (j : Nat) (e : E)
  | setM (r ix e : E)
  | app (i : Nat) (e : E)
  | ext (i : Nat) (e : E)
  | setO2 (i : Nat) (ix ix2 e : E)
  | popO (i j : Nat)
  | appM (i : Nat) (e : E)
  | aug (i : Nat) (o : BinO) (e : E)
  | expr (e : E)
  | ife (c : E) (t f : Ss)
  | for_ (tg : Tg) (it : It) (body : Ss)
  | whl (c : E) (body : Ss)
  | ret (e : E)
  | retN
  | brk | cnt | pass
  | raise (c : Nat) (e : E)
  | tryO (md : TM) (e : E) (k : Nat) (d : PyData)
  | tryX (md : TM) (e : E) (i k : Nat) (hs : List HS)
inductive Ss where
  | nil | cons (s : S) (ss : Ss)
end

/-- the name of the error is forgotten -/
def clrS (σ : Env) (i : Nat) : Option Env := match σ[i]? with
  | some (.own _) => none
  | some _ => some (σ.set i .no)
  | none => none
def tryGo (md : TM) (i k : Nat) (hs : List HS) (σ : Env) (r : R U) : R (F × Env) := match r with
  | .ok u m => match md with
    | .ex => .ok (.nx, σ) m
    | .exr d => .ok (.ret (.dat d), σ) m
    | .rt => .ok (.ret u, σ) m
  | .exc c x m => if c = k then
      match x with
      | .dat d => match clrS σ i with
        | some σ' => match hSs hs d σ' with
          | some fl => .ok (fl, σ') m
          | none => .bad
        | none => .bad
      | _ => .bad
    else .exc c x m
  | .bad => .bad
def tryOGo (md : TM) (k : Nat) (dv : PyData) (σ : Env) (r : R U) : R (F × Env) := match r with
  | .ok u m => match md with
    | .ex => .ok (.nx, σ) m
    | .exr d => .ok (.ret (.dat d), σ) m
    | .rt => .ok (.ret u, σ) m
  | .exc c x m => if c = k then .ok (.ret (.dat dv), σ) m else .exc c x m
  | .bad => .bad
def forGo (body : Env → Mem → R (F × Env)) (tg : Tg) : List PyData → Env → Mem → R (F × Env)
  | [], σ, m => .ok (.nx, σ) m
  | d :: ds, σ, m =>
    match asgTg tg d σ with
    | none => .bad
    | some σ' => (body σ' m).bind fun x m1 => match x.1 with
      | .nx => forGo body tg ds x.2 m1
      | .cnt => forGo body tg ds x.2 m1
      | .brk => .ok (.nx, x.2) m1
      | .ret u => .ok (.ret u, x.2) m1
def whlGo (c : Env → Mem → R U) (body : Env → Mem → R (F × Env)) : Nat → Env → Mem → R (F × Env)
  | 0, _, _ => .bad
  | n + 1, σ, m => ((c σ m).bind asB).bind fun b m1 => if b = true then (body σ m1).bind fun x m2 => match x.1 with
        | .nx => whlGo c body n x.2 m2
        | .cnt => whlGo c body n x.2 m2
        | .brk => .ok (.nx, x.2) m2
        | .ret u => .ok (.ret u, x.2) m2
      else .ok (.nx, σ) m1
def setE (σ : Env) (i : Nat) (s : Sl) : Option Env := if i < σ.length then some (σ.set i s) else none

def setOGo (σ : Env) (i : Nat) (xs : List PyData) (u y : U) (m : Mem) : R (F × Env) := match u, y with
  | .dat d, .dat (.int k) => match L2.ixN xs.length k with
    | some j => .ok (.nx, σ.set i (.own (xs.set j d))) m
    | none => .bad
  | _, _ => .bad
def appGo (σ : Env) (i : Nat) (xs : List PyData) (u : U) (m : Mem) : R (F × Env) := match u with
  | .dat d => @ite _ (xs.length < sizeLine) (Classical.propDecidable _) (.ok (.nx, σ.set i (.own (xs ++ [d]))) m) .bad
  | _ => .bad
def appMGo (σ : Env) (k : Nat) (u : U) (m : Mem) : R (F × Env) := match u with
  | .dat d => match m[k]? with
    | some (.lst xs) => @ite _ (xs.length < sizeLine) (Classical.propDecidable _) (.ok (.nx, σ) (m.set k (.lst (xs ++ [d])))) .bad
    | _ => .bad
  | _ => .bad
def extGo (σ : Env) (i : Nat) (xs : List PyData) (u : U) (m : Mem) : R (F × Env) := match u with
  | .dat (.list ys) => @ite _ (xs.length + ys.length ≤ sizeLine) (Classical.propDecidable _) (.ok (.nx, σ.set i (.own (xs ++ ys))) m) .bad
  | _ => .bad
def setO2Go (σ : Env) (i : Nat) (d2 : PyData) (f : Env → Mem → R U) (x : F × Env) (m : Mem) : R (F × Env) := match x.2[i]? with
  | some (.own ys) => (f x.2 m).bind fun y m1 => setOGo x.2 i ys (.dat d2) y m1
  | _ => .bad
def popGo (σ : Env) (i j : Nat) (xs : List PyData) (m : Mem) : R (F × Env) := match xs.getLast? with
  | some d => if i = j then .bad else match setE (σ.set j (.own xs.dropLast)) i (.v (.dat d)) with
    | some σ' => .ok (.nx, σ') m
    | none => .bad
  | none => .bad
def augGo (σ : Env) (i : Nat) (o : BinO) (d : PyData) (u : U) (m : Mem) : R (F × Env) := match u with
  | .dat d' => match augVal o d d' with
    | some z => .ok (.nx, σ.set i (.v (.dat z))) m
    | none => .bad
  | _ => .bad
def ixO (xs : List PyData) (y : U) : Option (Nat × PyData) := match y with
  | .dat (.int k) => (L2.ixN xs.length k).bind fun j => (xs[j]?).map fun d => (j, d)
  | _ => none
def augOGo (σ : Env) (i : Nat) (o : BinO) (xs : List PyData) (p : Nat × PyData) (u : U) (m : Mem) : R (F × Env) := match u with
  | .dat d' => match augVal o p.2 d' with
    | some z => .ok (.nx, σ.set i (.own (xs.set p.1 z))) m
    | none => .bad
  | _ => .bad
def setMGo (σ : Env) (u x y : U) (m : Mem) : R (F × Env) := match u, x, y with
  | .dat d, .ref q, .dat e => match m[q]? with
    | some (.lst xs) => match e with
      | .int k => match L2.ixN xs.length k with
        | some j => .ok (.nx, σ) (m.set q (.lst (xs.set j d)))
        | none => .bad
      | _ => .bad
    | some (.dct kvs) => match L2.keyOfD e with
      | some k => @ite _ (kvs.length < sizeLine) (Classical.propDecidable _) (.ok (.nx, σ) (m.set q (.dct (L2.putN kvs k d)))) .bad
      | none => .bad
    | some (.kd kvs) => match e with
      | .int i => @ite _ (kvs.length < sizeLine) (Classical.propDecidable _) (.ok (.nx, σ) (m.set q (.kd (L2.putI kvs i d)))) .bad
      | _ => .bad
    | _ => .bad
  | _, _, _ => .bad
def setOPGo (σ : Env) (i j : Nat) (xs : List PyData) (d d2 : PyData) (y : U) (m : Mem) : R (F × Env) := match y with
  | .dat (.int k) => match L2.ixN xs.length k with
    | some q => match setE (σ.set i (.own (xs.set q d))) j (.v (.dat d2)) with
      | some σ' => .ok (.nx, σ') m
      | none => .bad
    | none => .bad
  | _ => .bad
mutual
def evS (L : Nat) (C : Calls) : S → Env → Mem → R (F × Env)
  | .asg i e, σ, m => (evE C e σ m).bind fun u m1 => match setE σ i (.v u) with
    | some σ' => .ok (.nx, σ') m1
    | none => .bad
  | .own i e, σ, m => (evE C e σ m).bind fun u m1 => match u with
    | .dat (.list xs) => match setE σ i (.own xs) with
      | some σ' => .ok (.nx, σ') m1
      | none => .bad
    | _ => .bad
  | .frz i, σ, m => match σ[i]? with
    | some (.own xs) => .ok (.nx, σ.set i (.v (.dat (.list xs)))) m
    | some (.v u) => .ok (.nx, σ) m
    | _ => .bad
  | .asgT ts e, σ, m => (evE C e σ m).bind fun u m1 => match u with
    | .dat (.tuple ds) => match asgTgs ts ds σ with
      | some σ' => .ok (.nx, σ') m1
      | none => .bad
    | .dat (.list ds) => match asgTgs ts ds σ with
      | some σ' => .ok (.nx, σ') m1
      | none => .bad
    | _ => .bad
  | .par2 i j a b, σ, m => (evE C a σ m).bind fun x m1 => (evE C b σ m1).bind fun y m2 => match (setE σ i (.v x)).bind fun σ' => setE σ' j (.v y) with
    | some σ' => .ok (.nx, σ') m2
    | none => .bad
  | .par2o i j a b, σ, m => (evE C a σ m).bind fun x m1 => (evE C b σ m1).bind fun y m2 => match y with
    | .dat (.list xs) => match (setE σ i (.v x)).bind fun σ' => setE σ' j (.own xs) with
      | some σ' => .ok (.nx, σ') m2
      | none => .bad
    | _ => .bad
  | .par1o i j a b, σ, m => (evE C a σ m).bind fun x m1 => match x with
    | .dat (.list xs) => (evE C b σ m1).bind fun y m2 => match (setE σ i (.own xs)).bind fun σ' => setE σ' j (.v y) with
      | some σ' => .ok (.nx, σ') m2
      | none => .bad
    | _ => .bad
  | .asgTo i j a b, σ, m => (evE C a σ m).bind fun x m1 => match x with
    | .dat (.list xs) => (evE C b σ m1).bind fun y m2 => match (setE σ i (.own xs)).bind fun σ' => setE σ' j (.v y) with
      | some σ' => .ok (.nx, σ') m2
      | none => .bad
    | _ => .bad
  | .par2oo i j a b, σ, m => (evE C a σ m).bind fun x m1 => match x with
    | .dat (.list xs) => (evE C b σ m1).bind fun y m2 => match y with
      | .dat (.list ys) => match (setE σ i (.own xs)).bind fun σ' => setE σ' j (.own ys) with
        | some σ' => .ok (.nx, σ') m2
        | none => .bad
      | _ => .bad
    | _ => .bad
  | .par3o i j l a b c, σ, m => (evE C a σ m).bind fun x m1 => match x with
    | .dat (.list xs) => (evE C b σ m1).bind fun y m2 => (evE C c σ m2).bind fun z m3 => match ((setE σ i (.own xs)).bind fun σ' => setE σ' j (.v y)).bind fun σ' => setE σ' l (.v z) with
      | some σ' => .ok (.nx, σ') m3
      | none => .bad
    | _ => .bad
  | .par3z i j l a b c, σ, m => (evE C a σ m).bind fun x m1 => (evE C b σ m1).bind fun y m2 => (evE C c σ m2).bind fun z m3 => match z with
    | .dat (.list xs) => match ((setE σ i (.v x)).bind fun σ' => setE σ' j (.v y)).bind fun σ' => setE σ' l (.own xs) with
      | some σ' => .ok (.nx, σ') m3
      | none => .bad
    | _ => .bad
  | .par3m i j l a b c, σ, m => (evE C a σ m).bind fun x m1 => (evE C b σ m1).bind fun y m2 => match y with
    | .dat (.list xs) => (evE C c σ m2).bind fun z m3 => match ((setE σ i (.v x)).bind fun σ' => setE σ' j (.own xs)).bind fun σ' => setE σ' l (.v z) with
      | some σ' => .ok (.nx, σ') m3
      | none => .bad
    | _ => .bad
  | .augO i ix o e, σ, m => match σ[i]? with
    | some (.own xs) => (evE C ix σ m).bind fun y m1 => match ixO xs y with
      | some p => (evE C e σ m1).bind fun u m2 => augOGo σ i o xs p u m2
      | none => .bad
    | _ => .bad
  | .setOP i ix j e, σ, m => (evE C e σ m).bind fun u m1 => match u with
    | .dat (.tuple [d, d2]) => match σ[i]? with
      | some (.own xs) => (evE C ix σ m1).bind fun y m2 => setOPGo σ i j xs d d2 y m2
      | _ => .bad
    | _ => .bad
  | .setO i ix e, σ, m => (evE C e σ m).bind fun u m1 => match σ[i]? with
    | some (.own xs) => (evE C ix σ m1).bind fun y m2 => setOGo σ i xs u y m2
    | _ => .bad
  | .setM r ix e, σ, m => (evE C e σ m).bind fun u m1 => (evE C r σ m1).bind fun x m2 => (evE C ix σ m2).bind fun y m3 => setMGo σ u x y m3
  | .app i e, σ, m => match σ[i]? with
    | some (.own xs) => (evE C e σ m).bind fun u m1 => appGo σ i xs u m1
    | _ => .bad
  | .ext i e, σ, m => match σ[i]? with
    | some (.own xs) => (evE C e σ m).bind fun u m1 => extGo σ i xs u m1
    | _ => .bad
  | .setO2 i ix ix2 e, σ, m => (evE C e σ m).bind fun u m1 => match u with
    | .dat (.tuple [d, d2]) => match σ[i]? with
      | some (.own xs) => ((evE C ix σ m1).bind fun y m2 => setOGo σ i xs (.dat d) y m2).bind (setO2Go σ i d2 (evE C ix2))
      | _ => .bad
    | _ => .bad
  | .appM i e, σ, m => match σ[i]? with
    | some (.v (.ref k)) => match m[k]? with
      | some (.lst _) => (evE C e σ m).bind fun u m1 => appMGo σ k u m1
      | _ => .bad
    | _ => .bad
  | .popO i j, σ, m => match σ[j]? with
    | some (.own xs) => popGo σ i j xs m
    | _ => .bad
  | .aug i o e, σ, m => match σ[i]? with
    | some (.v (.dat d)) => (evE C e σ m).bind fun u m1 => augGo σ i o d u m1
    | _ => .bad
  | .expr e, σ, m => (evE C e σ m).bind fun _ m1 => .ok (.nx, σ) m1
  | .ife c t f, σ, m => ((evE C c σ m).bind asB).bind fun b m1 => if b = true then evSs L C t σ m1 else evSs L C f σ m1
  | .for_ tg it body, σ, m => (evI C it σ m).bind fun ds m1 => forGo (fun σ m => evSs L C body σ m) tg ds σ m1
  | .whl c body, σ, m => whlGo (fun σ m => evE C c σ m) (fun σ m => evSs L C body σ m) L σ m
  | .ret e, σ, m => (evE C e σ m).bind fun u m1 => .ok (.ret u, σ) m1
  | .retN, σ, m => .ok (.ret (.dat .none), σ) m
  | .brk, σ, m => .ok (.brk, σ) m
  | .cnt, σ, m => .ok (.cnt, σ) m
  | .pass, σ, m => .ok (.nx, σ) m
  | .raise c e, σ, m => (evE C e σ m).bind fun u m1 => .exc c u m1
  | .tryO md e k d, σ, m => tryOGo md k d σ (evE C e σ m)
  | .tryX md e i k hs, σ, m => tryGo md i k hs σ (evE C e σ m)
def evSs (L : Nat) (C : Calls) : Ss → Env → Mem → R (F × Env)
  | .nil, σ, m => .ok (.nx, σ) m
  | .cons s ss, σ, m => (evS L C s σ m).bind fun x m1 => match x.1 with
    | .nx => evSs L C ss x.2 m1
    | _ => .ok x m1
end

/-- a def: its name, how many parameters, its names by slot (parameters first), its body -/
structure FD where
  name : Str
  np : Nat
  N : List Str
  body : Ss
abbrev Prog := Nat → Option FD

def runFD (L : Nat) (C : Calls) (fd : FD) (us : List U) (m : Mem) : R U :=
  if us.length = fd.np then
    (evSs L C fd.body (us.map Sl.v ++ List.replicate (fd.N.length - us.length) .no) m).bind fun x m1 => match x.1 with
      | .ret u => .ok u m1
      | .nx => .ok (.dat .none) m1
      | _ => .bad
  else .bad
def callN (L : Nat) (P : Prog) : Nat → Calls
  | 0 => fun _ _ _ => .bad
  | n + 1 => fun f us m => match P f with
    | some fd => runFD L (callN L P n) fd us m
    | none => .bad
theorem callN_succ {L : Nat} {P : Prog} {n f : Nat} {fd : FD} {us : List U} {m : Mem} (h : P f = some fd) : callN L P (n + 1) f us m = runFD L (callN L P n) fd us m := by
  show (match P f with | some fd => runFD L (callN L P n) fd us m | none => .bad) = _
  rw [h]
end
end Eng

set_option Elab.async false
set_option linter.all false
set_option maxRecDepth 100000
/-! What the evaluator's state is in the abstract heap; how outcomes are handed on. -/
namespace Eng
open PySem PySem.Spec PyProof.Rows L2

def Sub (H H' : Hp) : Prop := ∀ a o, H a = some o → H' a = some o
theorem Sub.refl (H : Hp) : Sub H H := fun _ _ h => h
theorem Sub.trans {H H' H'' : Hp} (a : Sub H H') (b : Sub H' H'') : Sub H H'' := fun x o h => b x o (a x o h)
theorem Sub.new {H : Hp} {p : Addr} {o : HO} (h : H p = none) : Sub H (upd H p o) := fun b x e => by
  rw [upd_ne (ne_of_none e h)]; exact e
theorem Sub.none {H H' : Hp} (s : Sub H H') {p : Addr} (h : H' p = none) : H p = none := by
  cases e : H p with
  | none => rfl
  | some o => rw [s p o e] at h; cases h
end Eng
namespace L2
open PySem PySem.Spec PyProof.Rows Eng
section
variable {K : PySem.W.Frag} {H H' : Hp}
theorem SqL.mono (s : Sub H H') {a : Addr} {xs : List V} (h : SqL K H a xs) : SqL K H' a xs := by
  rcases h with (h | ⟨o, h⟩) | h
  · exact .inl (.inl (s _ _ h))
  · exact .inl (.inr ⟨o, s _ _ h⟩)
  · exact .inr h
theorem SqT.mono (s : Sub H H') {a : Addr} {xs : List V} (h : SqT K H a xs) : SqT K H' a xs := by
  rcases h with (h | ⟨o, h⟩) | h
  · exact .inl (.inl (s _ _ h))
  · exact .inl (.inr ⟨o, s _ _ h⟩)
  · exact .inr h
mutual
theorem Dp.mono (s : Sub H H') : ∀ (d : PyData) (v : V), Dp K H v d → Dp K H' v d
  | .none, _, h => by cases h; exact .non
  | .bool b, _, h => by cases h; exact .bl b
  | .int i, _, h => by cases h; exact .int i
  | .str x, _, h => by cases h; exact .str x
  | .list ds, _, h => by
    cases h with
    | lst hs ha => exact .lst (SqL.mono s hs) (DpAll.mono s ds _ ha)
  | .tuple ds, _, h => by
    cases h with
    | tup hs ha => exact .tup (SqT.mono s hs) (DpAll.mono s ds _ ha)
  | .dict _, _, h => by cases h
theorem DpAll.mono (s : Sub H H') : ∀ (ds : List PyData) (vs : List V), DpAll K H vs ds → DpAll K H' vs ds
  | [], _, h => by cases h; exact .nil
  | d :: ds, _, h => by
    cases h with
    | cons h1 h2 => exact .cons (Dp.mono s d _ h1) (DpAll.mono s ds _ h2)
end
theorem DicAt.mono (s : Sub H H') {es : List (NestedKey × Addr × Value)} {kvs : List (NestedKey × PyData)} (h : DicAt K H es kvs) : DicAt K H' es kvs :=
  Paired.mapP h fun _ _ ⟨h1, h2, h3, h4, h5, v, h6, h7⟩ => ⟨h1, h2, h3, h4, Dp.mono s _ _ h5, v, h6, Dp.mono s _ _ h7⟩
theorem DpAll.len : ∀ {ds : List PyData} {vs : List V}, DpAll K H vs ds → vs.length = ds.length
  | [], _, h => by cases h; rfl
  | d :: ds, _, h => by
    cases h with
    | cons h1 h2 => rw [List.length_cons, List.length_cons, DpAll.len h2]
theorem DpAll.get : ∀ {ds : List PyData} {vs : List V}, DpAll K H vs ds → ∀ {i : Nat} {d : PyData}, ds[i]? = some d → ∃ v, vs[i]? = some v ∧ Dp K H v d
  | [], _, h, i, d, e => by simp at e
  | x :: ds, _, h, i, d, e => by
    cases h with
    | cons h1 h2 =>
      cases i with
      | zero => simp at e; subst e; exact ⟨_, rfl, h1⟩
      | succ i => simp at e; obtain ⟨v, e', h'⟩ := DpAll.get h2 e; exact ⟨v, by simpa using e', h'⟩
theorem DpAll.app : ∀ {ds es : List PyData} {vs ws : List V}, DpAll K H vs ds → DpAll K H ws es → DpAll K H (vs ++ ws) (ds ++ es)
  | [], _, _, _, h, h' => by cases h; exact h'
  | _ :: _, _, _, _, h, h' => by
    cases h with
    | cons h1 h2 => exact .cons h1 (DpAll.app h2 h')
theorem DpAll.drop : ∀ {ds : List PyData} {vs : List V} (n : Nat), DpAll K H vs ds → DpAll K H (vs.drop n) (ds.drop n)
  | _, _, 0, h => h
  | [], _, n + 1, h => by cases h; exact .nil
  | _ :: _, _, n + 1, h => by
    cases h with
    | cons h1 h2 => exact DpAll.drop n h2
theorem DpAll.take : ∀ {ds : List PyData} {vs : List V} (n : Nat), DpAll K H vs ds → DpAll K H (vs.take n) (ds.take n)
  | _, _, 0, h => .nil
  | [], _, n + 1, h => by cases h; exact .nil
  | _ :: _, _, n + 1, h => by
    cases h with
    | cons h1 h2 => exact .cons h1 (DpAll.take n h2)
theorem DpAll.set : ∀ {ds : List PyData} {vs : List V} {d : PyData} {v : V} (n : Nat), DpAll K H vs ds → Dp K H v d → DpAll K H (vs.set n v) (ds.set n d)
  | [], _, _, _, n, h, _ => by cases h; exact .nil
  | _ :: _, _, _, _, 0, h, h' => by
    cases h with
    | cons h1 h2 => exact .cons h' h2
  | _ :: _, _, _, _, n + 1, h, h' => by
    cases h with
    | cons h1 h2 => exact .cons h1 (DpAll.set n h2 h')
theorem DpAll.ints : ∀ {ns : List Int} {ds : List PyData} {vs : List V}, DpAll K H vs ds → asInts ds = some ns → vs = ns.map V.int
  | ns, [], _, h, e => by cases h; simp [asInts] at e; subst e; rfl
  | ns, d :: ds, _, h, e => by
    cases h with
    | cons h1 h2 =>
      cases d with
      | int i =>
        cases h1
        simp only [asInts, Option.map_eq_some_iff] at e
        obtain ⟨r, e, rfl⟩ := e
        rw [DpAll.ints h2 e]; rfl
      | _ => simp [asInts] at e
theorem DpAll.bools : ∀ {ns : List Bool} {ds : List PyData} {vs : List V}, DpAll K H vs ds → asBools ds = some ns → vs = ns.map V.bl
  | ns, [], _, h, e => by cases h; simp [asBools] at e; subst e; rfl
  | ns, d :: ds, _, h, e => by
    cases h with
    | cons h1 h2 =>
      cases d with
      | bool i =>
        cases h1
        simp only [asBools, Option.map_eq_some_iff] at e
        obtain ⟨r, e, rfl⟩ := e
        rw [DpAll.bools h2 e]; rfl
      | _ => simp [asBools] at e
end

end L2
namespace Eng
open PySem PySem.Spec PyProof.Rows L2
/-! ### sizes -/
theorem szAll_iff {ds : List PyData} : szAll ds = true ↔ ∀ d ∈ ds, szOk d = true := by
  induction ds with
  | nil => simp [szAll]
  | cons d ds ih => simp [szAll, ih]
theorem sz_list {ds : List PyData} : szOk (.list ds) = true ↔ ds.length ≤ sizeLine ∧ szAll ds = true := by simp [szOk]
theorem sz_tuple {ds : List PyData} : szOk (.tuple ds) = true ↔ ds.length ≤ sizeLine ∧ szAll ds = true := by simp [szOk]
mutual
theorem noDict_of_sz : ∀ d : PyData, szOk d = true → d.hasDict = false
  | .none, _ => by simp only [PyData.hasDict]
  | .bool _, _ => by simp only [PyData.hasDict]
  | .int _, _ => by simp only [PyData.hasDict]
  | .str x, h => by simp only [PyData.hasDict]
  | .list xs, h => by simp only [szOk, Bool.and_eq_true] at h; simp only [PyData.hasDict]; exact noDictAll_of_sz xs h.2
  | .tuple xs, h => by simp only [szOk, Bool.and_eq_true] at h; simp only [PyData.hasDict]; exact noDictAll_of_sz xs h.2
  | .dict _, h => by simp [szOk] at h
theorem noDictAll_of_sz : ∀ ds : List PyData, szAll ds = true → PyData.hasDictAll ds = false
  | [], _ => by simp only [PyData.hasDictAll]
  | d :: ds, h => by
    simp only [szAll, Bool.and_eq_true] at h
    simp only [PyData.hasDictAll, Bool.or_eq_false_iff]
    exact ⟨noDict_of_sz d h.1, noDictAll_of_sz ds h.2⟩
end

/-! ### the state -/
/-- a value of ours, in the abstract heap: data in the part that stays -/
def RepU (K : PySem.W.Frag) (Hf : Hp) (ρ : List Addr) (v : V) : U → Prop
  | .dat d => Dp K Hf v d ∧ szOk d = true
  | .ref i => ∃ a, ρ[i]? = some a ∧ v = .ref a
/-- .. that is only read: perhaps a list of a name's own -/
def RepB (K : PySem.W.Frag) (H Hf : Hp) (ρ : List Addr) (v : V) (u : U) : Prop :=
  RepU K Hf ρ v u ∨ ∃ p vs xs, u = .dat (.list xs) ∧ v = .ref p ∧ H p = some (.lst vs) ∧ Hf p = none ∧ p ∉ ρ ∧ DpAll K Hf vs xs ∧ szOk (.list xs) = true
/-- the name of a lambda that the def x makes -/
def lamQ (x : Str) : Str := (envOfC x default 0 0 .none).qual ++ "<lambda>"
def MAt (K : PySem.W.Frag) (H Hf : Hp) (ρ : List Addr) (a : Addr) : MObj → Prop
  | .lst xs => ∃ vs, H a = some (.lst vs) ∧ DpAll K Hf vs xs ∧ szOk (.list xs) = true
  | .dct kvs => ∃ es, H a = some (.ext (DicPhi a es)) ∧ DicAt K Hf es kvs ∧ (es.map (·.1)).Nodup ∧ kvs.length ≤ sizeLine ∧ (∀ p ∈ kvs, szOk p.2 = true ∧ szOk p.1.data = true) ∧ (a == sysModules) = false
  | .kd kvs => ∃ ws, H a = some (.dK ws) ∧ KdAt K Hf ws kvs ∧ ∀ p ∈ kvs, szOk p.2 = true
  | .refs ks => ∃ as : List Addr, H a = some (.lst (as.map V.ref)) ∧ (∀ (j k : Nat), ks[j]? = some k → ∃ b, as[j]? = some b ∧ ρ[k]? = some b) ∧ as.length = ks.length
  | .tab x => (∃ c, PySem.W.tabIn K x = some (c, a)) ∧ ∃ ps : Array Value, H a = some (.tbl ps) ∧ TriplesOk ps.toList ∧ ∀ (pos : Pos) (cv : Value), codeAmong pos ps.toList = some cv → ∃ c, cv = .ref c ∧ Hf c = some (LamX.CodeO c (lamQ x))
structure Fine (K : PySem.W.Frag) (H Hf : Hp) (ρ : List Addr) (m : Mem) : Prop where
  sub : Sub Hf H
  nd : ρ.Nodup
  un : ∀ a ∈ ρ, Hf a = none
  len : ρ.length = m.length
  at_ : ∀ (i : Nat) (a : Addr) (o : MObj), ρ[i]? = some a → m[i]? = some o → MAt K H Hf ρ a o
structure Slots (K : PySem.W.Frag) (H Hf : Hp) (ρ : List Addr) (ω : Nat → Addr) (σ : L2.St) (env : Env) : Prop where
  len : σ.length = env.length
  val : ∀ (i : Nat) (u : U), env[i]? = some (.v u) → ∃ v, σ[i]? = some (some v) ∧ RepU K Hf ρ v u
  own : ∀ (i : Nat) (xs : List PyData), env[i]? = some (.own xs) → σ[i]? = some (some (.ref (ω i))) ∧ Hf (ω i) = none ∧ ω i ∉ ρ ∧ (∃ vs, H (ω i) = some (.lst vs) ∧ DpAll K Hf vs xs) ∧ szOk (.list xs) = true
  inj : ∀ (i j : Nat) (xs ys : List PyData), env[i]? = some (.own xs) → env[j]? = some (.own ys) → ω i = ω j → i = j
/-- what an evaluation leaves as it was -/
structure Pres (H Hf : Hp) (ρ : List Addr) (H' Hf' : Hp) (ρ' : List Addr) : Prop where
  fz : Sub Hf Hf'
  pre : ∃ t, ρ' = ρ ++ t
  kp : ∀ a o, H a = some o → Hf a = none → a ∉ ρ → H' a = some o ∧ Hf' a = none ∧ a ∉ ρ'
theorem Pres.refl (H Hf : Hp) (ρ : List Addr) : Pres H Hf ρ H Hf ρ := ⟨Sub.refl _, ⟨[], by simp⟩, fun _ _ h h1 h2 => ⟨h, h1, h2⟩⟩
theorem Pres.trans {H Hf H1 Hf1 H2 Hf2 : Hp} {ρ ρ1 ρ2 : List Addr} (a : Pres H Hf ρ H1 Hf1 ρ1) (b : Pres H1 Hf1 ρ1 H2 Hf2 ρ2) : Pres H Hf ρ H2 Hf2 ρ2 := by
  refine ⟨a.fz.trans b.fz, ?_, fun x o h h1 h2 => ?_⟩
  · obtain ⟨t, e⟩ := a.pre
    obtain ⟨t', e'⟩ := b.pre
    exact ⟨t ++ t', by rw [e', e, List.append_assoc]⟩
  · obtain ⟨q, q1, q2⟩ := a.kp x o h h1 h2
    exact b.kp x o q q1 q2
section
variable {K : PySem.W.Frag} {H Hf H' Hf' : Hp} {ρ ρ' : List Addr} {m m' : Mem} {ω : Nat → Addr} {σ : L2.St} {env : Env}
theorem RepU.pres {v : V} {u : U} (p : Pres H Hf ρ H' Hf' ρ') (r : RepU K Hf ρ v u) : RepU K Hf' ρ' v u := by
  cases u with
  | dat d => exact ⟨Dp.mono p.fz _ _ r.1, r.2⟩
  | ref i =>
    obtain ⟨a, e, rfl⟩ := r
    obtain ⟨t, e'⟩ := p.pre
    refine ⟨a, ?_, rfl⟩
    rw [e', List.getElem?_append_left (List.getElem?_eq_some_iff.mp e).1]; exact e
theorem RepB.pres {v : V} {u : U} (p : Pres H Hf ρ H' Hf' ρ') (r : RepB K H Hf ρ v u) : RepB K H' Hf' ρ' v u := by
  rcases r with r | ⟨q, vs, xs, rfl, rfl, h, h1, h2, ha, hz⟩
  · exact .inl (r.pres p)
  · obtain ⟨e, e1, e2⟩ := p.kp _ _ h h1 h2
    exact .inr ⟨q, vs, xs, rfl, rfl, e, e1, e2, DpAll.mono p.fz _ _ ha, hz⟩
theorem Slots.pres (p : Pres H Hf ρ H' Hf' ρ') (s : Slots K H Hf ρ ω σ env) : Slots K H' Hf' ρ' ω σ env := by
  refine ⟨s.len, fun i u e => ?_, fun i xs e => ?_, s.inj⟩
  · obtain ⟨v, h, r⟩ := s.val i u e
    exact ⟨v, h, r.pres p⟩
  · obtain ⟨h, h1, h2, ⟨vs, h3, h4⟩, h5⟩ := s.own i xs e
    obtain ⟨e, e1, e2⟩ := p.kp _ _ h3 h1 h2
    exact ⟨h, e1, e2, ⟨vs, e, DpAll.mono p.fz _ _ h4⟩, h5⟩
/-- a new object that stays -/
theorem Pres.new {p : Addr} {o : HO} (h : H p = none) (hs : Sub Hf H) : Pres H Hf ρ (upd H p o) (upd Hf p o) ρ :=
  ⟨Sub.new (hs.none h), ⟨[], by simp⟩, fun a x e e1 e2 => ⟨Sub.new h _ _ e, by rw [upd_ne (ne_of_none e h)]; exact e1, e2⟩⟩
/-- a new object that is free -/
theorem Pres.fresh {p : Addr} {o : HO} (h : H p = none) : Pres H Hf ρ (upd H p o) Hf ρ :=
  ⟨Sub.refl _, ⟨[], by simp⟩, fun a x e e1 e2 => ⟨Sub.new h _ _ e, e1, e2⟩⟩
theorem KdAt.mono {K : PySem.W.Frag} {H H' : Hp} (s : Sub H H') : ∀ {ws : List (Key × V)} {kvs : List (Int × PyData)}, KdAt K H ws kvs → KdAt K H' ws kvs
  | [], [], h => h
  | p :: ws, q :: kvs, h => ⟨h.1, Dp.mono s _ _ h.2.1, KdAt.mono s h.2.2⟩
  | [], _ :: _, h => h.elim
  | _ :: _, [], h => h.elim
theorem MAt.grow {a : Addr} {o : MObj} (hs : ∀ x, H a = some x → H' a = some x) (hf : Sub Hf Hf') (h : MAt K H Hf ρ a o) (hp : ∃ t, ρ' = ρ ++ t := by exact ⟨[], (List.append_nil _).symm⟩) : MAt K H' Hf' ρ' a o := by
  cases o with
  | refs ks =>
    obtain ⟨as, e, h1, h2⟩ := h
    obtain ⟨t, rfl⟩ := hp
    exact ⟨as, hs _ e, fun j k q => let ⟨b, e1, e2⟩ := h1 j k q; ⟨b, e1, by rw [List.getElem?_append_left (List.getElem?_eq_some_iff.mp e2).1]; exact e2⟩, h2⟩
  | lst xs => obtain ⟨vs, e, ha, hz⟩ := h; exact ⟨vs, hs _ e, DpAll.mono hf _ _ ha, hz⟩
  | dct kvs => obtain ⟨es, e, ha, hz⟩ := h; exact ⟨es, hs _ e, DicAt.mono hf ha, hz⟩
  | kd kvs => obtain ⟨es, e, ha, hz⟩ := h; exact ⟨es, hs _ e, KdAt.mono hf ha, hz⟩
  | tab x => obtain ⟨h0, ps, e, ht, hc⟩ := h; exact ⟨h0, ps, hs _ e, ht, fun pos cv q => let ⟨c, e1, e2⟩ := hc pos cv q; ⟨c, e1, hf _ _ e2⟩⟩
theorem Fine.tracked (f : Fine K H Hf ρ m) {a : Addr} (h : a ∈ ρ) : ∃ o, H a = some o := by
  obtain ⟨i, hi, e⟩ := List.mem_iff_getElem.mp h
  have hm : i < m.length := by rw [← f.len]; exact hi
  have q := f.at_ i a m[i] (by rw [List.getElem?_eq_getElem hi, e]) (List.getElem?_eq_getElem hm)
  cases ho : m[i] with
  | lst xs => rw [ho] at q; obtain ⟨vs, e, _⟩ := q; exact ⟨_, e⟩
  | dct kvs => rw [ho] at q; obtain ⟨vs, e, _⟩ := q; exact ⟨_, e⟩
  | kd kvs => rw [ho] at q; obtain ⟨vs, e, _⟩ := q; exact ⟨_, e⟩
  | refs ks => rw [ho] at q; obtain ⟨vs, e, _⟩ := q; exact ⟨_, e⟩
  | tab x => rw [ho] at q; obtain ⟨_, ps, e, _⟩ := q; exact ⟨_, e⟩
theorem Fine.new {p : Addr} {o : HO} (f : Fine K H Hf ρ m) (h : H p = none) : Fine K (upd H p o) (upd Hf p o) ρ m := by
  refine ⟨fun b x e => ?_, f.nd, fun a ha => ?_, f.len, fun i a ob e1 e2 => (f.at_ i a ob e1 e2).grow (fun x e => Sub.new h _ _ e) (Sub.new (f.sub.none h))⟩
  · by_cases hb : b = p
    · subst hb; rw [upd_same] at e ⊢; exact e
    · rw [upd_ne hb] at e ⊢; exact f.sub _ _ e
  · obtain ⟨x, e⟩ := f.tracked ha
    rw [upd_ne (ne_of_none e h)]; exact f.un a ha
theorem Fine.fresh {p : Addr} {o : HO} (f : Fine K H Hf ρ m) (h : H p = none) : Fine K (upd H p o) Hf ρ m :=
  ⟨fun b x e => Sub.new h _ _ (f.sub _ _ e), f.nd, f.un, f.len, fun i a ob e1 e2 => (f.at_ i a ob e1 e2).grow (fun x e => Sub.new h _ _ e) (Sub.refl _)⟩
/-- a free object is frozen -/
theorem Fine.freeze {p : Addr} {o : HO} (f : Fine K H Hf ρ m) (h : H p = some o) (h1 : Hf p = none) (h2 : p ∉ ρ) : Fine K H (upd Hf p o) ρ m := by
  refine ⟨fun b x e => ?_, f.nd, fun a ha => ?_, f.len, fun i a ob e1 e2 => (f.at_ i a ob e1 e2).grow (fun x e => e) (Sub.new h1)⟩
  · by_cases hb : b = p
    · subst hb; rw [upd_same] at e; rw [h]; exact e
    · rw [upd_ne hb] at e; exact f.sub _ _ e
  · rw [upd_ne (fun (z : a = p) => h2 (by rw [← z]; exact ha))]; exact f.un a ha
/-- .. a new object, free in the middle, frozen at the end -/
theorem Pres.frozen {p : Addr} {o : HO} (P : Pres H Hf ρ H' Hf' ρ') (hn : H p = none) (h1 : Hf' p = none) : Pres H Hf ρ H' (upd Hf' p o) ρ' :=
  ⟨P.fz.trans (Sub.new h1), P.pre, fun a x e e1 e2 => by
    obtain ⟨q, q1, q2⟩ := P.kp a x e e1 e2
    exact ⟨q, by rw [upd_ne (ne_of_none e hn)]; exact q1, q2⟩⟩
end

/-! ### outcomes -/
abbrev XRel := Hp → Hp → List Addr → Nat → U → Value → Option Addr → Prop
/-- how an outcome of ours is met: β the machine's, α ours -/
def OutE {α β : Type} (K : PySem.W.Frag) (XR : XRel) (W : WX) (σ : L2.St) (H Hf : Hp) (ρ : List Addr) (Rp : Hp → Hp → List Addr → β → α → Prop) (r : R α) (Q : β → Hp → Prop) : Prop :=
  match r with
  | .ok u m' => ∀ v H' Hf' ρ', Pres H Hf ρ H' Hf' ρ' → Fine K H' Hf' ρ' m' → Rp H' Hf' ρ' v u → Q v H'
  | .exc c x m' => ∀ cls d H' Hf' ρ', Pres H Hf ρ H' Hf' ρ' → Fine K H' Hf' ρ' m' → XR H' Hf' ρ' c x cls d → W cls d σ H'
  | .bad => False
structure At (K : PySem.W.Frag) (H : Hp) (σ : L2.St) (Hf : Hp) (ρ : List Addr) (ω : Nat → Addr) (env : Env) (m : Mem) : Prop where
  fine : Fine K H Hf ρ m
  slots : Slots K H Hf ρ ω σ env
section
variable {α α' β β' : Type} {K : PySem.W.Frag} {XR : XRel} {W : WX} {σ : L2.St} {H Hf : Hp} {ρ : List Addr} {Rp : Hp → Hp → List Addr → β → α → Prop} {Rp' : Hp → Hp → List Addr → β' → α' → Prop} {Q : β → Hp → Prop} {Q' : β' → Hp → Prop}
theorem OutE.mono {r : R α} {Q2 : β → Hp → Prop} (h : OutE K XR W σ H Hf ρ Rp r Q) (hq : ∀ v H', Q v H' → Q2 v H') : OutE K XR W σ H Hf ρ Rp r Q2 := by
  cases r with
  | ok u m' => exact fun v H' Hf' ρ' p f r => hq _ _ (h v H' Hf' ρ' p f r)
  | exc c x m' => exact h
  | bad => exact h
theorem OutE.rel {r : R α} {Rp2 : Hp → Hp → List Addr → β → α → Prop} (h : OutE K XR W σ H Hf ρ Rp r Q) (hr : ∀ H' Hf' ρ' v u, Rp2 H' Hf' ρ' v u → Rp H' Hf' ρ' v u) : OutE K XR W σ H Hf ρ Rp2 r Q := by
  cases r with
  | ok u m' => exact fun v H' Hf' ρ' p f r => h v H' Hf' ρ' p f (hr _ _ _ _ _ r)
  | exc c x m' => exact h
  | bad => exact h
theorem OutE.pres {r : R α} {H1 Hf1 : Hp} {ρ1 : List Addr} (p : Pres H Hf ρ H1 Hf1 ρ1) (h : OutE K XR W σ H Hf ρ Rp r Q) : OutE K XR W σ H1 Hf1 ρ1 Rp r Q := by
  cases r with
  | ok u m' => exact fun v H' Hf' ρ' p' f r => h v H' Hf' ρ' (p.trans p') f r
  | exc c x m' => exact fun cls d H' Hf' ρ' p' f r => h cls d H' Hf' ρ' (p.trans p') f r
  | bad => exact h
/-- THE STEP: the first part's outcome, then the rest's -/
theorem OutE.bind {r : R α'} {k : α' → Mem → R α} (h : OutE K XR W σ H Hf ρ Rp (r.bind k) Q) :
    OutE K XR W σ H Hf ρ Rp' r fun v H1 => ∃ u Hf1 ρ1 m1, Pres H Hf ρ H1 Hf1 ρ1 ∧ Fine K H1 Hf1 ρ1 m1 ∧ Rp' H1 Hf1 ρ1 v u ∧ OutE K XR W σ H1 Hf1 ρ1 Rp (k u m1) Q := by
  cases r with
  | ok u m' => exact fun v H' Hf' ρ' p f r => ⟨u, Hf', ρ', m', p, f, r, OutE.pres p h⟩
  | exc c x m' => exact h
  | bad => exact h
theorem At.pres {H1 Hf1 : Hp} {ρ1 : List Addr} {ω : Nat → Addr} {env : Env} {m m1 : Mem} (a : At K H σ Hf ρ ω env m) (p : Pres H Hf ρ H1 Hf1 ρ1) (f : Fine K H1 Hf1 ρ1 m1) : At K H1 σ Hf1 ρ1 ω env m1 :=
  ⟨f, a.slots.pres p⟩
end
/-- the reading of a part that is evaluated to an α -/
def tR {α β : Type} (K : PySem.W.Frag) (XR : XRel) (W : WX) (Rp : Hp → Hp → List Addr → β → α → Prop) (f : Env → Mem → R α) : L2.St → Hp → (β → Hp → Prop) → Prop :=
  fun σ H Q => ∃ Hf ρ ω env m, At K H σ Hf ρ ω env m ∧ OutE K XR W σ H Hf ρ Rp (f env m) Q
abbrev RU (K : PySem.W.Frag) : Hp → Hp → List Addr → V → U → Prop := fun _ Hf ρ v u => RepU K Hf ρ v u
abbrev RB (K : PySem.W.Frag) : Hp → Hp → List Addr → V → U → Prop := fun H Hf ρ v u => RepB K H Hf ρ v u
abbrev RBool : Hp → Hp → List Addr → Bool → U → Prop := fun _ _ _ b u => u = .dat (.bool b)
def RUs (K : PySem.W.Frag) (Hf : Hp) (ρ : List Addr) : List V → List U → Prop
  | [], [] => True
  | v :: vs, u :: us => RepU K Hf ρ v u ∧ RUs K Hf ρ vs us
  | _, _ => False
theorem RUs.pres {K : PySem.W.Frag} {H Hf H' Hf' : Hp} {ρ ρ' : List Addr} (p : Pres H Hf ρ H' Hf' ρ') : ∀ {vs : List V} {us : List U}, RUs K Hf ρ vs us → RUs K Hf' ρ' vs us
  | [], [], _ => trivial
  | _ :: _, _ :: _, h => ⟨h.1.pres p, RUs.pres p h.2⟩
  | [], _ :: _, h => h.elim
  | _ :: _, [], h => h.elim
theorem RUs.len {K : PySem.W.Frag} {Hf : Hp} {ρ : List Addr} : ∀ {vs : List V} {us : List U}, RUs K Hf ρ vs us → vs.length = us.length
  | [], [], _ => rfl
  | _ :: _, _ :: _, h => by rw [List.length_cons, List.length_cons, RUs.len h.2]
  | [], _ :: _, h => h.elim
  | _ :: _, [], h => h.elim
theorem RUs.dats {K : PySem.W.Frag} {Hf : Hp} {ρ : List Addr} : ∀ {vs : List V} {us : List U} {ds : List PyData}, RUs K Hf ρ vs us → datL us = some ds → DpAll K Hf vs ds ∧ szAll ds = true
  | [], [], ds, _, e => by simp [datL] at e; subst e; exact ⟨.nil, rfl⟩
  | v :: vs, .dat d :: us, ds, h, e => by
    simp only [datL, Option.map_eq_some_iff] at e
    obtain ⟨r, e, rfl⟩ := e
    obtain ⟨h1, h2⟩ := RUs.dats h.2 e
    exact ⟨.cons h.1.1 h1, by simp only [szAll, Bool.and_eq_true]; exact ⟨h.1.2, h2⟩⟩
  | v :: vs, .ref d :: us, ds, h, e => by simp [datL] at e
  | [], _ :: _, _, h, _ => h.elim
  | _ :: _, [], _, h, _ => h.elim
abbrev RL (K : PySem.W.Frag) : Hp → Hp → List Addr → List V → List U → Prop := fun _ Hf ρ v u => RUs K Hf ρ v u
end Eng

set_option Elab.async false
set_option linter.all false
set_option maxRecDepth 100000
/-! Calls with the guards known; the check of a text against the small language. -/
namespace Eng
open PySem PySem.Spec PyProof.Rows L2

/-! ### defs, called where no repr is under way -/
structure FnG (P : Program) (w : World) (K : PySem.W.Frag) (mg : Str → Option Value) (base : Heap) (k : Nat) (f : Addr) (fd : FuncData) (ps : List Str) (sp : Sp) : Prop where
  len : ∀ vs H Q E, sp vs H Q E → vs.length = ps.length
  run : ∀ (A : Around) (outer : List PySem.Env) (s : Shared) (H : Hp) (args : Args) (us : List Value) (vs : List V) (Q : VK) (E : XK), Room k A → A.guards = some [] → Env0 P w K mg base A outer s H → BindsTo s fd args (ps.zip us) → Vals vs us → sp vs H Q E →
    codeAny (model P w) A (.call (.ref f) args) (CR (L2.CX P w) outer P w H s Q E) s
theorem fnG_of {P : Program} {w : World} {K : PySem.W.Frag} {mg : Str → Option Value} {base : Heap} {k : Nat} {f : Addr} {name qual : Str} {params : Arguments} {body : List Stmt} {scope : Scope} {dV kV doc pm cdv ct oc : Value} {an od : Option Addr}
    {osl : Array (Option Value)} {N ps : List Str} {sp : Sp} (lk : K.lookup f = some ⟨oc, od, .func (PySem.W.fnOf name qual params body scope dV kV doc pm an cdv ct), osl⟩) (hcd : PySem.W.codeIn K cdv qual = true) (S : FnScope N ps scope)
    (len : ∀ vs H Q E, sp vs H Q E → vs.length = ps.length)
    (hbody : ∀ (A : Around) (outer : List PySem.Env) (s : Shared) (H : Hp) (vs : List V) (Q : VK) (E : XK), Room k (A.deeper (envOfC qual scope s.heap.objs.size f cdv)) → A.guards = some [] → sp vs H Q E →
      ∃ t, PSs (cxOf (L2.CX P w) P w K mg base N qual scope f cdv A outer s H E) body t ∧ t { nx := fun _ H' => Q .non H', rt := Q } (start N vs) H) :
    FnG P w K mg base (k + 1) f (PySem.W.fnOf name qual params body scope dV kV doc pm an cdv ct) ps sp := by
  refine ⟨len, fun A outer s H args us vs Q E hr hg e0 hb r hsp => ?_⟩
  have hl := len _ _ _ _ hsp
  have KX : K.In s.heap := e0.mod.kin.keeps fun b o e => (e0.bs b o e).1
  have lim : s.heap.NoLimit := e0.mod.nolimit.keeps fun b o e => (e0.bs b o e).1
  have hkind : ∀ y ∈ ps.zip us, scope.names.lookup y.1 = some .local ∨ (scope.names.lookup y.1 = some .cell ∧ ((cellsFrom (s.heap.objs.size + 1) scope.names []).lookup y.1).isSome = true) := fun ⟨n, v⟩ hy => by
    rcases S.par n (List.of_mem_zip hy).1 with q | q
    · exact .inl q
    · exact .inr ⟨q, PySem.W.cellsFrom_some _ _ _ (.inl q)⟩
  refine codeAny_call_function hr.depth (KX _ _ lk) rfl S.co S.gen rfl (PySem.W.codeRec_of KX hcd) (hb _ _ _ _ ?_)
  refine wpAny_newFunctionEnv_cells S.kind hkind fun env he s1 x => ?_
  subst he
  refine ⟨lim.keeps x.toInCall.keep, codeAny_func ?_⟩
  obtain ⟨t, ht, hq⟩ := hbody A outer s H vs Q E (hr.deeper _) hg hsp
  have I : Inv (cxOf (L2.CX P w) P w K mg base N qual scope f cdv A outer s H E) [] (start N vs) H s1 := inv_start S hr.hd e0 hl r x
  refine wpAny_mono (ht.run [] s1 (start N vs) H _ I hq) (fun fl s' hs => ?_) fun e s' hs => hs
  have fin : ∀ {σ' : L2.St} {H' : Hp} {v : V} {u : Value}, Inv (cxOf (L2.CX P w) P w K mg base N qual scope f cdv A outer s H E) [] σ' H' s' → RelV v u → Q v H' → CE outer P w H s Q u s' :=
    fun {σ' H' v u} J rv q => ⟨v, H', J.os, J.bare, J.base, J.hok, rv, q⟩
  cases fl with
  | ret u =>
    obtain ⟨v, σ', H', J, rv, q⟩ := hs
    exact fin J rv q
  | next =>
    obtain ⟨σ', H', J, q⟩ := hs
    exact fin (v := V.non) (u := Value.none) J rfl q
  | brk =>
    obtain ⟨_, _, _, q⟩ := hs
    exact False.elim q
  | cont =>
    obtain ⟨_, _, _, q⟩ := hs
    exact False.elim q
section
variable {X : Cx} {k : Nat} {f : Addr} {fd : FuncData} {ps : List Str} {sp : Sp} {W : WX} {x : Str} {p pos : Pos} {e : Expr} {es : List Expr} {t : TA}
theorem run_fnG {pins : List (Addr × Obj)} {σ : L2.St} {H : Hp} {s : Shared} {Q : VK} {us : List Value} {vs : List V} (F : FnG X.prog X.w X.K X.mg X.base k f fd ps sp) (hr : Room k X.A) (hgd : X.A.guards = some []) (hb : Binds X.K fd ps []) (tk : Takes X W)
    (I : Inv X pins σ H s) (r : Vals vs us) (h : sp vs H Q (WE W σ)) : wpAny (model X.prog X.w) X.A (call (.ref f) us) (EP X pins σ Q) X.xe s := by
  have hl : us.length = ps.length := by rw [← r.length]; exact F.len _ _ _ _ h
  have b := hb s us I.kIn (by rw [List.append_nil]; exact hl)
  rw [List.append_nil] at b
  refine wpAny_call (codeAny_mono (F.run X.A X.stack s H ⟨us, []⟩ us vs Q (WE W σ) hr hgd I.env0 b r h) fun r s' hq => ?_)
  cases r with
  | error e => exact passAt tk σ pins H s e s' I hq
  | ok fl =>
    cases fl with
    | ret u => exact I.after hq
    | next => exact False.elim hq
    | brk => exact False.elim hq
    | cont => exact False.elim hq
theorem star_any {es : List Expr} {env : PySem.Env} {pos : Pos} (h : (starEach es env).any (·.1) = false) : (backTo pos (starEach es env)).any (·.1) = false := by
  rw [← h]; unfold backTo; rw [List.any_map]; rfl
theorem pe_callG (F : FnG X.prog X.w X.K X.mg X.base k f fd ps sp) (hr : Room k X.A) (hgd : X.A.guards = some []) (hg : Gl X x) (hm : X.mg x = some (.ref f)) (hk : PySem.W.keepIn X.K (.ref f) = true) (hb : Binds X.K fd ps []) (tk : Takes X W)
    (ha : PA X (e :: es) t) (hdb : (x == ("__debug__" : Str)) = false) (he : starEach (e :: es) X.env = (false, eval e X.env) :: starEach es X.env) (hpl : (starEach es X.env).any (·.1) = false) :
    PE X (.Call (.Name x p) (e :: es) [] pos) (tCallS sp (WE W) t) := by
  refine ⟨fun pins s σ H Q I h => ?_⟩
  refine wpAny_Call_Name_kw (ld_glob I hg hm ?_ hdb)
  refine PySem.W.callWith_K (h₀ := X.base) I.ok.mod.kin hk (thn (ha.run pos pins s σ H _ I h) fun us s1 ⟨vs, H1, I1, r, q⟩ => ⟨I1.kIn, ?_⟩) he (star_any hpl)
  exact run_fnG F hr hgd hb tk I1 r q
theorem pe_callG0 (F : FnG X.prog X.w X.K X.mg X.base k f fd ps sp) (hr : Room k X.A) (hgd : X.A.guards = some []) (hg : Gl X x) (hm : X.mg x = some (.ref f)) (hk : PySem.W.keepIn X.K (.ref f) = true) (hb : Binds X.K fd ps []) (tk : Takes X W)
    (hdb : (x == ("__debug__" : Str)) = false) :
    PE X (.Call (.Name x p) [] [] pos) (tCallS sp (WE W) tNil) := by
  refine ⟨fun pins s σ H Q I h => ?_⟩
  refine wpAny_Call_Name_kw (ld_glob I hg hm ?_ hdb)
  exact PySem.W.callWith_K0 I.kIn hk (run_fnG (us := []) F hr hgd hb tk I .nil h)
/-- how a call with keywords binds: na positional, then ks; perm: the place of each parameter among them -/
def KB (fd : FuncData) (ps : List Str) (na : Nat) (ks : List Str) (perm : List Nat) : Prop :=
  ∀ us : List Value, us.length = na + ks.length → ∃ ws, perm.mapM (fun i => us[i]?) = some ws ∧ ws.length = ps.length ∧ bindArgs fd ⟨us.take na, ks.zip (us.drop na)⟩ = pure (ps.zip ws)
theorem vals_mapM {vs : List V} {us : List Value} (r : Vals vs us) : ∀ {perm : List Nat} {ws : List Value}, perm.mapM (fun i => us[i]?) = some ws → ∃ zs, perm.mapM (fun i => vs[i]?) = some zs ∧ Vals zs ws
  | [], ws, h => by simp at h; subst h; exact ⟨[], rfl, .nil⟩
  | i :: perm, ws, h => by
    rw [List.mapM_cons] at h
    cases e : us[i]? with
    | none => rw [e] at h; cases h
    | some u =>
      rw [e] at h
      cases e2 : perm.mapM (fun i => us[i]?) with
      | none => rw [e2] at h; cases h
      | some r2 =>
        rw [e2] at h; cases h
        obtain ⟨zs, e3, r3⟩ := vals_mapM r e2
        have hi : i < vs.length := by rw [r.length]; exact (List.getElem?_eq_some_iff.mp e).1
        obtain ⟨u', e4, r4⟩ := r.get (List.getElem?_eq_getElem hi)
        rw [e] at e4; cases e4
        refine ⟨vs[i] :: zs, ?_, .cons r4 r3⟩
        rw [List.mapM_cons, List.getElem?_eq_getElem hi, e3]; rfl
theorem vals_split {vs : List V} {us : List Value} {zs : List V} {ws : List Value} (r : Vals vs us) (r2 : Vals zs ws) : Vals (vs ++ zs) (us ++ ws) := r.append r2
theorem run_fnGK {pins : List (Addr × Obj)} {σ : L2.St} {H : Hp} {s : Shared} {Q : VK} {us ws : List Value} {vs zs vs' : List V} {na : Nat} {ks : List Str} {perm : List Nat} (F : FnG X.prog X.w X.K X.mg X.base k f fd ps sp) (hr : Room k X.A) (hgd : X.A.guards = some []) (hb : KB fd ps na ks perm) (tk : Takes X W)
    (I : Inv X pins σ H s) (r : Vals vs us) (rz : Vals zs ws) (hna : us.length = na) (hks : ws.length = ks.length) (hp : perm.mapM (fun i => (vs ++ zs)[i]?) = some vs') (h : sp vs' H Q (WE W σ)) : wpAny (model X.prog X.w) X.A (call (.ref f) us (ks.zip ws)) (EP X pins σ Q) X.xe s := by
  obtain ⟨ws', e1, e2, e3⟩ := hb (us ++ ws) (by rw [List.length_append, hna, hks])
  rw [List.take_append_of_le_length (by omega), List.take_of_length_le (by omega), List.drop_append_of_le_length (by omega), List.drop_of_length_le (by omega), List.nil_append] at e3
  obtain ⟨zs', e4, r4⟩ := vals_mapM (vals_split r rz) e1
  rw [hp] at e4; cases e4
  refine wpAny_call (codeAny_mono (F.run X.A X.stack s H ⟨us, ks.zip ws⟩ ws' vs' Q (WE W σ) hr hgd I.env0 (.of_eq e3) r4 h) fun r s' hq => ?_)
  cases r with
  | error e => exact passAt tk σ pins H s e s' I hq
  | ok fl =>
    cases fl with
    | ret u => exact I.after hq
    | next => exact False.elim hq
    | brk => exact False.elim hq
    | cont => exact False.elim hq
def tCallGK (sp : Sp) (na : Nat) (ks : List Str) (perm : List Nat) (E : L2.St → XK) (t tk : TA) : TE := fun σ H Q => t σ H fun vs H1 => tk σ H1 fun zs H2 => vs.length = na ∧ zs.length = ks.length ∧ ∃ vs', perm.mapM (fun i => (vs ++ zs)[i]?) = some vs' ∧ sp vs' H2 Q (E σ)
theorem kw_all : ∀ {kws : List Keyword} {env : PySem.Env} {pos : Pos} {ks : List Str}, kws.map (·.arg) = ks.map some → (backToKw pos (keywordEach kws env)).all (·.1.isSome) = true ∧ (backToKw pos (keywordEach kws env)).filterMap (·.1) = ks ∧ (backToKw pos (keywordEach kws env)).any (·.1.isNone) = false
  | [], _, _, ks, h => by
    cases ks with
    | nil => exact ⟨rfl, rfl, rfl⟩
    | cons a b => simp at h
  | ⟨nm, e, kp⟩ :: kws, env, pos, ks, h => by
    cases ks with
    | nil => simp at h
    | cons a b =>
      simp only [List.map_cons, List.cons.injEq] at h
      obtain ⟨h1, h2⟩ := h
      subst h1
      obtain ⟨q1, q2, q3⟩ := kw_all (env := env) (pos := pos) h2
      have e : backToKw pos (keywordEach (⟨some a, e, kp⟩ :: kws) env) = (some a, do let v ← eval e env; standAt pos; pure v) :: backToKw pos (keywordEach kws env) := rfl
      rw [e]
      refine ⟨?_, ?_, ?_⟩
      · rw [List.all_cons, q1]; rfl
      · rw [List.filterMap_cons]; show a :: _ = _; rw [q2]
      · rw [List.any_cons, q3]; rfl
theorem pe_callGK {kws : List Keyword} {tkw : TA} {na : Nat} {ks : List Str} {perm : List Nat} (F : FnG X.prog X.w X.K X.mg X.base k f fd ps sp) (hr : Room k X.A) (hgd : X.A.guards = some []) (hg : Gl X x) (hm : X.mg x = some (.ref f)) (hk : PySem.W.keepIn X.K (.ref f) = true) (hb : KB fd ps na ks perm) (tk : Takes X W)
    (ha : PA X es t) (hkw : PK X kws tkw) (hks : kws.map (·.arg) = ks.map some) (hdb : (x == ("__debug__" : Str)) = false) (hes : es = [] → t = tNil) (he : ∀ e r, es = e :: r → starEach (e :: r) X.env = (false, eval e X.env) :: starEach r X.env) (hpl : (starEach es X.env).any (·.1) = false) :
    PE X (.Call (.Name x p) es kws pos) (tCallGK sp na ks perm (WE W) t tkw) := by
  refine ⟨fun pins s σ H Q I h => ?_⟩
  obtain ⟨k1, k2, k3⟩ := kw_all (env := X.env) (pos := pos) hks
  refine wpAny_Call_Name_kw (ld_glob I hg hm ?_ hdb)
  cases es with
  | nil =>
    have et := hes rfl
    subst et
    refine PySem.W.callWith_KW0 (h₀ := X.base) I.ok.mod.kin hk k1 ?_ (by rw [star_any hpl, k3]; rfl)
    refine thn (hkw.run pos pins s σ H _ I h) fun ws s2 ⟨zs, H2, I2, rz, l1, l2, vs', hp, q2⟩ => ⟨I2.kIn, ?_⟩
    rw [k2]
    exact run_fnGK (us := []) (vs := []) F hr hgd hb tk I2 .nil rz l1 (by rw [← rz.length]; exact l2) hp q2
  | cons e r =>
    refine PySem.W.callWith_KW (h₀ := X.base) I.ok.mod.kin hk k1 (thn (ha.run pos pins s σ H _ I h) fun us s1 ⟨vs, H1, I1, r1, q⟩ => ?_) (by rw [star_any hpl, k3]; rfl) (he e r rfl)
    refine thn (hkw.run pos pins s1 σ H1 _ I1 q) fun ws s2 ⟨zs, H2, I2, rz, l1, l2, vs', hp, q2⟩ => ⟨I2.kIn, ?_⟩
    rw [k2]
    exact run_fnGK (us := us) (vs := vs) F hr hgd hb tk I2 r1 rz (by rw [← r1.length]; exact l1) (by rw [← rz.length]; exact l2) hp q2
end
end Eng

set_option Elab.async false
set_option linter.all false
set_option maxRecDepth 100000
/-! The check of a text. -/
namespace Eng
open PySem PySem.Spec PyProof.Rows L2

structure Cfg where
  nm : Nat → Option Str
  gl : List (Str × PyData)
  kb : List (Nat × Nat × List Str × List Nat)
  gd : List (Str × List (Str × Int) × List Str)
  cl : List (Str × Str)
  ci : List (Nat × Str × Bool)
  kwo : List Nat
  df : List (Str × Stmt × List Str)
  lams : List Str
structure Sc where
  sc : Scope
  fn : Str → Bool
  lam : Option Str

def pl : Expr → Bool
  | .Starred .. => false
  | .Set .. => false
  | .Slice .. => false
  | _ => true
theorem star_pl {e : Expr} {es : List Expr} {env : PySem.Env} (h : pl e = true) : starEach (e :: es) env = (false, eval e env) :: starEach es env := by
  cases e <;> first | rfl | simp [pl] at h
theorem folded_pl {e : Expr} {env : PySem.Env} (h : pl e = true) : ∀ x, foldedSetIterable e env x = pure x := by
  intro x
  cases e <;> first | rfl | simp [pl] at h
theorem ix_pl {e : Expr} (h : pl e = true) : PlainIx e := by
  intro o i
  cases e <;> first | rfl | simp [pl] at h
theorem mark_pl {e : Expr} {op : CmpOp} (h : pl e = true) : behindInMarks op e = false := by
  cases e <;> first | rfl | simp [pl] at h

def glB (c : Sc) (x : Str) : Bool := decide (c.sc.names.lookup x = some .globalImplicit) && !(x == ("__debug__" : Str))
def visB (c : Sc) (x : Str) : Bool := (decide (c.sc.names.lookup x = some .local) || decide (c.sc.names.lookup x = some .cell) || decide (c.sc.names.lookup x = some .free)) && !(x == ("__debug__" : Str)) && !(x == ("__classdict__" : Str))
def locB (c : Sc) (x : Str) : Bool := decide (c.sc.names.lookup x = some .local) || (decide (c.sc.names.lookup x = some .cell) && c.fn x)

def cstB : PyData → Const → Bool
  | .none, .none => true
  | .bool b, .bool c => b == c
  | .int i, .int j => i == j
  | .str x, .str y => decide (x = y) && szOk (.str x)
  | _, _ => false
def sEq : PyData → PyData → Bool
  | .none, .none => true
  | .bool b, .bool c => b == c
  | .int i, .int j => i == j
  | .str x, .str y => decide (x = y)
  | _, _ => false
def binB : BinO → Operator → Bool
  | .add, .Add | .sub, .Sub | .mul, .Mult | .mod, .Mod | .fdiv, .FloorDiv | .pow, .Pow | .shl, .LShift | .bor, .BitOr | .band, .BitAnd => true
  | _, _ => false
def cmpB : CmpO → CmpOp → Bool
  | .eq, .Eq | .ne, .NotEq | .lt, .Lt | .le, .LtE | .gt, .Gt | .ge, .GtE | .is, .Is | .isnot, .IsNot | .in_, .In | .notin, .NotIn => true
  | _, _ => false
def b1N : B1 → Str
  | .len => "len" | .tuple => "tuple" | .list => "list" | .abs => "abs" | .int => "int" | .all => "all" | .any => "any" | .sum => "sum" | .max => "max" | .min => "min" | .repr => "repr" | .sorted => "sorted"
def b2N : B2 → Str
  | .max => "max" | .min => "min"
def clsN : ClsT → Str
  | .int => "int" | .bool => "bool" | .str => "str" | .list => "list" | .tuple => "tuple"
def isName (c : Sc) (x : Str) : Expr → Bool
  | .Name y _ => (decide (y = x) && glB c y)
  | _ => false
/-- the built-in names that a text may use -/
def bnames : List Str := ["len", "tuple", "list", "abs", "int", "all", "any", "sum", "max", "min", "repr", "sorted", "isinstance", "bool", "str", "range", "enumerate", "zip", "set", "dict"]

mutual
def okTg (N : List Str) (c : Sc) : Tg → Expr → Bool
  | .nm i, .Name x _ => decide (N[i]? = some x) && locB c x
  | .tp ts, .Tuple es _ _ => okTgs N c ts es
  | _, _ => false
def okTgs (N : List Str) (c : Sc) : List Tg → List Expr → Bool
  | [], [] => true
  | t :: ts, e :: es => okTg N c t e && okTgs N c ts es
  | _, _ => false
end
def isTp : Expr → Bool
  | .Tuple .. => true
  | _ => false
def Sc.blk (c : Sc) (scope : Scope) : Sc := ⟨relS scope c.sc, fun x => scope.names.lookup x == some .cell, none⟩

def isNo : E → Bool
  | .no => true
  | _ => false
def okO (e : E) (f : Expr → Bool) : Option Expr → Bool
  | none => (match e with | .no => true | _ => false)
  | some x => f x
mutual
def okHE (G : Cfg) (N : List Str) (c : Sc) (n fld : Str) (k : Nat) : HE → Expr → Bool
  | .cst d, s => match s with | .Constant q _ _ => cstB d q | _ => false
  | .fld, s => match s with | .Attribute (.Name y _) f _ => decide (y = n) && decide (f = fld) | _ => false
  | .var j, s => match s with | .Name y _ => decide (N[j]? = some y) && visB c y | _ => false
  | .rep e, s => match s with | .Call (.Name y _) [a] [] _ => decide (y = "repr") && glB c y && okHE G N c n fld k e a && pl a | _ => false
  | .isx D b, s => match s with | .Call (.Name y _) [.Name z _, .Name w _] [] _ => decide (y = "isinstance") && glB c y && decide (z = n) && decide (w = D) && glB c w && G.ci.any (fun p => decide (p = (k, D, b))) | _ => false
  | .tup es, s => match s with | .Tuple elts _ _ => okHEs G N c n fld k es elts && decide (elts.length ≤ 1000) | _ => false
  | .lst es, s => match s with | .List elts _ => okHEs G N c n fld k es elts && decide (elts.length ≤ 1000) | _ => false
  | .cmp o a b, s => match s with | .Compare l [op] [r] _ => cmpB o op && okHE G N c n fld k a l && okHE G N c n fld k b r && pl r | _ => false
  | .and a b, s => match s with
    | .BoolOp .And [x, y] _ => okHE G N c n fld k a x && okHE G N c n fld k b y
    | .BoolOp .And (x :: y :: z :: r) pos => okHE G N c n fld k a x && okHE G N c n fld k b (.BoolOp .And (y :: z :: r) pos)
    | _ => false
  | .nt a, s => match s with | .UnaryOp .Not x _ => okHE G N c n fld k a x | _ => false
def okHEs (G : Cfg) (N : List Str) (c : Sc) (n fld : Str) (k : Nat) : HEs → List Expr → Bool
  | .nil, l => match l with | [] => true | _ => false
  | .cons e es, l => match l with | x :: r => okHE G N c n fld k e x && pl x && okHEs G N c n fld k es r | [] => false
end
def okHB (G : Cfg) (N : List Str) (c : Sc) (n fld : Str) (k : Nat) : HB → Expr → Bool
  | .ne a b, s => match s with | .Compare l [.NotEq] [r] _ => okHE G N c n fld k a l && okHE G N c n fld k b r && pl r | _ => false
  | .eq a b, s => match s with | .Compare l [.Eq] [r] _ => okHE G N c n fld k a l && okHE G N c n fld k b r && pl r | _ => false
  | .not b, s => match s with | .UnaryOp .Not x _ => okHB G N c n fld k b x | _ => false
  | .or a b, s => match s with | .BoolOp .Or [x, y] _ => okHB G N c n fld k a x && okHB G N c n fld k b y | _ => false
  | .isx D b, s => okHE G N c n fld k (.isx D b) s
def okHS (G : Cfg) (N : List Str) (c : Sc) (n fld : Str) (k : Nat) : List HS → List Stmt → Bool
  | [], l => match l with | [] => true | _ => false
  | .ife b e :: r, l => match l with | .If x [.Return (some v) _] [] _ :: l' => okHB G N c n fld k b x && okHE G N c n fld k e v && okHS G N c n fld k r l' | _ => false
  | .ret e :: _, l => match l with | [.Return (some v) _] => okHE G N c n fld k e v | _ => false
/-! what a def makes of what it got -/
def okHM (a : Str) : HM → List Stmt → Bool
  | .ret, l => match l with | [.Return (some (.Call (.Name y _) [] [] _)) _] => decide (y = a) | _ => false
  | .exp, l => match l with | [.Expr (.Call (.Name y _) [] [] _) _] => decide (y = a) | _ => false
  | .exr d, l => match l with | [.Expr (.Call (.Name y _) [] [] _) _, .Return (some (.Constant q _ _)) _] => decide (y = a) && cstB d q | _ => false
  | .tup z, l => match l with | [.Return (some (.Tuple [.Constant q _ _, .Call (.Name y _) [] [] _] _ _)) _] => decide (y = a) && cstB (.str z) q | _ => false
  | .lst z, l => match l with | [.Return (some (.List [.Constant q _ _, .Call (.Name y _) [] [] _] _)) _] => decide (y = a) && cstB (.str z) q | _ => false
def okHhs (G : Cfg) (N : List Str) (c : Sc) (n : Str) : List (Nat × List HS) → List ExceptHandler → Bool
  | [], l => match l with | [] => true | _ => false
  | (k, ss) :: r, l => match l with
    | .ExceptHandler (some (.Name x _)) (some n') (b :: suite) _ :: l' => decide (n' = n) && glB c x && (match G.cl[k]? with | some p => decide (p.1 = x) && okHS G N c n p.2 k ss (b :: suite) | none => false) && okHhs G N c n r l'
    | _ => false
def okAft : PyData → List Stmt → Bool
  | d, l => match l with
    | [] => (match d with | .none => true | _ => false)
    | [.Return (some (.Constant q _ _)) _] => cstB d q
    | _ => false
def okHD (G : Cfg) (N : List Str) (hd : HD) (st : Stmt) : Bool := match N, defBody st with
  | [a, n], .Try body (h :: hs) [] [] _ :: rest => okHM a hd.md body && okHhs G N ⟨defScope st, fun _ => true, none⟩ n hd.hs (h :: hs) && okAft hd.aft rest && decide ((defScope st).names.lookup n = some .local) && visB ⟨defScope st, fun _ => true, none⟩ n && visB ⟨defScope st, fun _ => true, none⟩ a
  | _, _ => false
def noArgs (p : Arguments) : Bool := p.posonlyargs.isEmpty && p.args.isEmpty && p.vararg.isNone && p.kwonlyargs.isEmpty && p.kw_defaults.isEmpty && p.kwarg.isNone && p.defaults.isEmpty
mutual
def okE (G : Cfg) (N : List Str) : E → Sc → Expr → Bool
  | .cst d, _, s => match s with | .Constant k _ _ => cstB d k | _ => false
  | .glb x d, c, s => match s with | .Name y _ => decide (x = y) && glB c y && G.gl.any (fun p => decide (p.1 = x) && sEq p.2 d) | _ => false
  | .var i, c, s => match s with | .Name x _ => decide (N[i]? = some x) && visB c x | _ => false
  | .bv i, c, s => match s with | .Name x _ => decide (N[i]? = some x) && visB c x | _ => false
  | .tup es, c, s => match s with | .Tuple elts _ _ => okEs G N es c elts && decide (elts.length ≤ 1000) | _ => false
  | .lst es, c, s => match s with | .List elts _ => okEs G N es c elts && decide (elts.length ≤ 1000) | _ => false
  | .newl es, c, s => match s with | .List elts _ => okEs G N es c elts && decide (elts.length ≤ 1000) | _ => false
  | .lmul es k, c, s => match s with | .BinOp (.List elts _) .Mult r _ => okEs G N es c elts && decide (elts.length ≤ 1000) && okE G N k c r | _ => false
  | .sortk a, c, s => false
  | .sset a, c, s => false
  | .lset a, c, s => match s with | .Call (.Name x _) [.Call (.Name y _) [e] [] _] [] _ => decide (x = "len") && glB c x && decide (y = "set") && glB c y && okE G N a c e && pl e | _ => false
  | .bor _ a, c, s => false
  | .dget i es, c, s => false
  | .newD, _, s => false
  | .newD1 k v, c, s => match s with | .Dict [some x] [y] _ => okE G N k c x && okE G N v c y | _ => false
  | .keysl a, c, s => false
  | .hear xs x y hd e, c, s => false
  | .idx a b, c, s => false
  | .dictP a, c, s => false
  | .lrng a, c, s => false
  | .dlen a, c, s => false
  | .din n a b, c, s => match s with | .Compare l [op] [r] _ => (match n, op with | false, .In => true | true, .NotIn => true | _, _ => false) && okE G N a c l && okE G N b c r && pl r | _ => false
  | .bin o a b, c, s => match s with | .BinOp l op r _ => binB o op && okE G N a c l && okE G N b c r | _ => false
  | .ladd a b, c, s => match s with | .BinOp l .Add r _ => okE G N a c l && okE G N b c r | _ => false
  | .neg a, c, s => false
  | .not a, c, s => match s with | .UnaryOp .Not x _ => okE G N a c x | _ => false
  | .and a b, c, s => match s with
    | .BoolOp .And [x, y] _ => okE G N a c x && okE G N b c y
    | .BoolOp .And (x :: y :: z :: r) pos => okE G N a c x && okE G N b c (.BoolOp .And (y :: z :: r) pos)
    | _ => false
  | .or a b, c, s => match s with
    | .BoolOp .Or [x, y] _ => okE G N a c x && okE G N b c y
    | .BoolOp .Or (x :: y :: z :: r) pos => okE G N a c x && okE G N b c (.BoolOp .Or (y :: z :: r) pos)
    | _ => false
  | .cmp o a b, c, s => match s with | .Compare l [op] [r] _ => cmpB o op && okE G N a c l && okE G N b c r && pl r | _ => false
  | .chain o o' a b d, c, s => match s with
    | .Compare l [op, op'] [m, r] _ => cmpB o op && cmpB o' op' && okE G N a c l && okE G N b c m && okE G N d c r && pl m && pl r
    | _ => false
  | .iteN t a b, c, s => match s with | .IfExp (.BinOp l o r p) y z _ => okE G N t c (.BinOp l o r p) && okE G N a c y && okE G N b c z | _ => false
  | .ite t a b, c, s => match s with | .IfExp x y z _ => okE G N t c x && okE G N a c y && okE G N b c z | _ => false
  | .call f es, c, s => match s with | .Call (.Name x _) args [] _ => (decide (G.nm f = some x) && !(G.kwo.contains f)) && glB c x && okEs G N es c args | _ => false
  | .callk f es ks perm, c, s => match s with
    | .Call (.Name x _) args kws _ => decide (G.nm f = some x) && glB c x && okEs G N es c args && okEs G N ks c (kws.map (·.value)) && kws.all (·.arg.isSome) &&
      G.kb.any (fun p => decide (p = (f, args.length, kws.filterMap (·.arg), perm)))
    | _ => false
  | .b1 f a, c, s => match s with | .Call (.Name x _) [e] [] _ => decide (x = b1N f) && glB c x && okE G N a c e && pl e | _ => false
  | .b2 f a b, c, s => false
  | .isi a k, c, s => match s with | .Call (.Name x _) [e, t] [] _ => decide (x = "isinstance") && glB c x && okE G N a c e && pl e && isName c (clsN k) t | _ => false
  | .isi2 a k k', c, s => match s with | .Call (.Name x _) [e, .Tuple [t, t'] _ _] [] _ => decide (x = "isinstance") && glB c x && okE G N a c e && pl e && isName c (clsN k) t && isName c (clsN k') t' | _ => false
  | .ix a i, c, s => match s with | .Subscript v s _ => okE G N a c v && okE G N i c s && pl s | _ => false
  | .sl a lo hi, c, s => false
  | .rev a, c, s => false
  | .gd o x kvs nks a, c, s => false
  | .comp elt tg it cond own, c, s => match s with
    | .ListComp e [⟨t, i, ifs, 0⟩] scope _ =>
      blkC N c.sc scope own && okI G N it c t i && pl i && okTg N (c.blk scope) tg t && (slotsTg tg).all (fun j => (own.map (·.2)).contains j) && okE G N elt (c.blk scope) e &&
        (match ifs with | [] => isNo cond | [g] => !isNo cond && okE G N cond (c.blk scope) g | _ => false)
    | _ => false
  | .newRs tg it own, c, s => match s with
    | .ListComp (.List [] _) [⟨t, i, [], 0⟩] scope _ =>
      blkC N c.sc scope own && okI G N it c t i && pl i && okTg N (c.blk scope) tg t && (slotsTg tg).all (fun j => (own.map (·.2)).contains j)
    | _ => false
  | .popM i, c, s => false
  | .ssc elt tg it cond own, c, s => false
  | .comp2 elt tg it tg' it' cond own, c, s => match s with
    | .ListComp e [⟨t, i, [], 0⟩, ⟨t', i', ifs, 0⟩] scope _ =>
      blkC N c.sc scope own && okI G N it c t i && pl i && okTg N (c.blk scope) tg t && (slotsTg tg).all (fun j => (own.map (·.2)).contains j) && okI G N it' (c.blk scope) t' i' && pl i' && okTg N (c.blk scope) tg' t' && (slotsTg tg').all (fun j => (own.map (·.2)).contains j) && okE G N elt (c.blk scope) e &&
        (match ifs with | [] => isNo cond | [g] => !isNo cond && okE G N cond (c.blk scope) g | _ => false)
    | _ => false
  | .no, _, _ => false
def okEs (G : Cfg) (N : List Str) : Es → Sc → List Expr → Bool
  | .nil, _, s => match s with | [] => true | _ => false
  | .cons e es, c, s => match s with | x :: xs => okE G N e c x && pl x && okEs G N es c xs | _ => false
def okI (G : Cfg) (N : List Str) : It → Sc → Expr → Expr → Bool
  | .seq e, c, _, i => okE G N e c i
  | .rng1 a, c, _, s => match s with | .Call (.Name x _) [e] [] _ => decide (x = "range") && glB c x && okE G N a c e && pl e | _ => false
  | .rng2 a b, c, _, s => match s with | .Call (.Name x _) [e, e'] [] _ => decide (x = "range") && glB c x && okE G N a c e && pl e && okE G N b c e' && pl e' | _ => false
  | .enum a, c, t, s => match s with | .Call (.Name x _) [e] [] _ => decide (x = "enumerate") && glB c x && okE G N a c e && pl e && isTp t | _ => false
  | .zip2 a b, c, t, s => match s with | .Call (.Name x _) [e, e'] [] _ => decide (x = "zip") && glB c x && okE G N a c e && pl e && okE G N b c e' && pl e' && isTp t | _ => false
end
end Eng

set_option Elab.async false
set_option linter.all false
set_option maxRecDepth 100000
/-! How a reading is opened and closed. -/
namespace Eng
open PySem PySem.Spec PyProof.Rows L2

theorem PE.imp {X : Cx} {e : Expr} {t t' : TE} (h : PE X e t) (hi : ∀ σ H Q, t' σ H Q → t σ H Q) : PE X e t' := ⟨fun pins s σ H Q I q => h.run pins s σ H Q I (hi _ _ _ q)⟩
theorem PT.imp {X : Cx} {e : Expr} {t t' : TT} (h : PT X e t) (hi : ∀ σ H Q, t' σ H Q → t σ H Q) : PT X e t' := ⟨fun pins s σ H Q I q => h.run pins s σ H Q I (hi _ _ _ q)⟩
theorem PW.imp {X : Cx} {e : Expr} {t t' : TT} (h : PW X e t) (hi : ∀ σ H Q, t' σ H Q → t σ H Q) : PW X e t' := ⟨fun wh pins s σ H Q I q => h.run wh pins s σ H Q I (hi _ _ _ q)⟩
theorem PA.imp {X : Cx} {e : List Expr} {t t' : TA} (h : PA X e t) (hi : ∀ σ H Q, t' σ H Q → t σ H Q) : PA X e t' := ⟨fun pos pins s σ H Q I q => h.run pos pins s σ H Q I (hi _ _ _ q)⟩
theorem PI.imp {X : Cx} {tg e : Expr} {t t' : TI} (h : PI X tg e t) (hi : ∀ σ H Q, t' σ H Q → t σ H Q) : PI X tg e t' := ⟨fun pins s σ H Q I q => h.run pins s σ H Q I (hi _ _ _ q)⟩
theorem PI.or {X : Cx} {tg e : Expr} {t t' : TI} (h : PI X tg e t) (h' : PI X tg e t') : PI X tg e (fun σ H R => t σ H R ∨ t' σ H R) := ⟨fun pins s σ H Q I q => q.elim (fun q => h.run pins s σ H Q I q) fun q => h'.run pins s σ H Q I q⟩
theorem PS.imp {X : Cx} {e : Stmt} {t t' : TS} (h : PS X e t) (hi : ∀ D σ H, t' D σ H → t D σ H) : PS X e t' := ⟨fun pins s σ H D I q => h.run pins s σ H D I (hi _ _ _ q)⟩
theorem PSs.imp {X : Cx} {e : List Stmt} {t t' : TS} (h : PSs X e t) (hi : ∀ D σ H, t' D σ H → t D σ H) : PSs X e t' := ⟨fun pins s σ H D I q => h.run pins s σ H D I (hi _ _ _ q)⟩
theorem PG.imp {X : Cx} {e : Expr} {t t' : TG} (h : PG X e t) (hi : ∀ v σ H Q, t' v σ H Q → t v σ H Q) : PG X e t' := ⟨fun pins s σ H v u Q I r q => h.run pins s σ H v u Q I r (hi _ _ _ _ q)⟩

section
variable {α α' β β' : Type} {K : PySem.W.Frag} {XR : XRel} {W : WX} {σ : L2.St} {H Hf : Hp} {ρ : List Addr} {ω : Nat → Addr} {env : Env} {m : Mem} {Rp : Hp → Hp → List Addr → β → α → Prop} {Rp' : Hp → Hp → List Addr → β' → α' → Prop} {Q : β → Hp → Prop}
theorem At.bind {Rp' : Hp → Hp → List Addr → β' → α' → Prop} (a : At K H σ Hf ρ ω env m) {f : Env → Mem → R α'} {k : α' → Mem → R α} (h : OutE K XR W σ H Hf ρ Rp ((f env m).bind k) Q) :
    tR K XR W Rp' f σ H (fun v H1 => ∃ u Hf1 ρ1 m1, Pres H Hf ρ H1 Hf1 ρ1 ∧ At K H1 σ Hf1 ρ1 ω env m1 ∧ Rp' H1 Hf1 ρ1 v u ∧ OutE K XR W σ H1 Hf1 ρ1 Rp (k u m1) Q) :=
  ⟨Hf, ρ, ω, env, m, a, (OutE.bind h).mono fun v H' ⟨u, Hf1, ρ1, m1, p, f1, r, o⟩ => ⟨u, Hf1, ρ1, m1, p, a.pres p f1, r, o⟩⟩
theorem At.ok (a : At K H σ Hf ρ ω env m) {v : β} {u : α} (h : OutE K XR W σ H Hf ρ Rp (.ok u m) Q) (r : Rp H Hf ρ v u) : Q v H := h v H Hf ρ (Pres.refl _ _ _) a.fine r
theorem At.okN (a : At K H σ Hf ρ ω env m) {v : β} {u : α} {p : Addr} {o : HO} (h : OutE K XR W σ H Hf ρ Rp (.ok u m) Q) (hp : H p = none) (r : Rp (upd H p o) (upd Hf p o) ρ v u) : Q v (upd H p o) :=
  h v _ _ ρ (Pres.new hp a.fine.sub) (a.fine.new hp) r
theorem At.free (a : At K H σ Hf ρ ω env m) {p : Addr} (hp : H p = none) : Hf p = none ∧ p ∉ ρ :=
  ⟨a.fine.sub.none hp, fun hm => by obtain ⟨o, e⟩ := a.fine.tracked hm; rw [hp] at e; cases e⟩
end
theorem Pres.none {K : PySem.W.Frag} {H Hf H' Hf' : Hp} {ρ ρ' : List Addr} {m m' : Mem} (p : Pres H Hf ρ H' Hf' ρ') (f : Fine K H Hf ρ m) (f' : Fine K H' Hf' ρ' m') {a : Addr} (h : H' a = none) : H a = none := by
  cases e : H a with
  | none => rfl
  | some o =>
    exfalso
    cases e1 : Hf a with
    | some x => rw [f'.sub _ _ (p.fz _ _ e1)] at h; cases h
    | none =>
      by_cases hm : a ∈ ρ
      · obtain ⟨t, et⟩ := p.pre
        obtain ⟨o', q⟩ := f'.tracked (a := a) (by rw [et]; exact List.mem_append_left _ hm)
        rw [q] at h; cases h
      · obtain ⟨q, _⟩ := p.kp a o e e1 hm
        rw [q] at h; cases h
/-- a list of its own, new since H0 -/
def RF (K : PySem.W.Frag) (H0 : Hp) : Hp → Hp → List Addr → V → U → Prop := fun H Hf ρ v u => ∃ p vs xs, u = .dat (.list xs) ∧ v = .ref p ∧ H0 p = none ∧ H p = some (.lst vs) ∧ Hf p = none ∧ p ∉ ρ ∧ DpAll K Hf vs xs ∧ szOk (.list xs) = true
def tF (K : PySem.W.Frag) (XR : XRel) (W : WX) (f : Env → Mem → R U) : TE :=
  fun σ H Q => ∃ Hf ρ ω env m, At K H σ Hf ρ ω env m ∧ OutE K XR W σ H Hf ρ (RF K H) (f env m) Q
abbrev tU (K : PySem.W.Frag) (XR : XRel) (W : WX) (f : Env → Mem → R U) : TE := tR K XR W (RU K) f
abbrev tB (K : PySem.W.Frag) (XR : XRel) (W : WX) (f : Env → Mem → R U) : TE := tR K XR W (RB K) f
section
variable {K : PySem.W.Frag} {XR : XRel} {W : WX} {f : Env → Mem → R U}
/-- .. frozen -/
theorem tF_of_tU {σ : L2.St} {H : Hp} {Q : VK} (h : tU K XR W f σ H Q) : tF K XR W f σ H Q := by
  obtain ⟨Hf, ρ, ω, env, m, a, o⟩ := h
  refine ⟨Hf, ρ, ω, env, m, a, ?_⟩
  cases e : f env m with
  | ok u m' =>
    rw [e] at o
    intro v H' Hf' ρ' p f' r
    obtain ⟨q, vs, xs, rfl, rfl, h0, h1, h2, h3, h4, h5⟩ := r
    have hn : H' q = some (.lst vs) := h1
    refine o _ H' (upd Hf' q (.lst vs)) ρ' (p.frozen h0 h2) (f'.freeze h1 h2 h3) ⟨.lst (.inl (.inl upd_same)) (DpAll.mono (Sub.new h2) _ _ h4), h5⟩
  | exc c x m' => rw [e] at o; exact o
  | bad => rw [e] at o; exact o
theorem PE.frz {X : Cx} {e : Expr} (h : PE X e (tF K XR W f)) : PE X e (tU K XR W f) := PE.imp h fun _ _ _ q => tF_of_tU q
theorem PE.bor {X : Cx} {e : Expr} (h : PE X e (tU K XR W f)) : PE X e (tB K XR W f) := PE.imp h fun σ H Q ⟨Hf, ρ, ω, env, m, a, o⟩ => ⟨Hf, ρ, ω, env, m, a, o.rel fun _ _ _ _ _ r => .inl r⟩
end
/-- a list, a tuple, read -/
theorem RepB.list {K : PySem.W.Frag} {H Hf : Hp} {ρ : List Addr} {v : V} {xs : List PyData} (s : Sub Hf H) (r : RepB K H Hf ρ v (.dat (.list xs))) :
    ∃ p vs, v = .ref p ∧ SqL K H p vs ∧ DpAll K Hf vs xs ∧ szOk (.list xs) = true := by
  rcases r with ⟨d, hz⟩ | ⟨p, vs, ys, e, rfl, h, _, _, ha, hz⟩
  · cases d with
    | lst hs ha => exact ⟨_, _, rfl, SqL.mono s hs, ha, hz⟩
  · cases e; exact ⟨p, vs, rfl, .inl (.inl h), ha, hz⟩
theorem RepB.tup {K : PySem.W.Frag} {H Hf : Hp} {ρ : List Addr} {v : V} {xs : List PyData} (s : Sub Hf H) (r : RepB K H Hf ρ v (.dat (.tuple xs))) :
    ∃ p vs, v = .ref p ∧ SqT K H p vs ∧ DpAll K Hf vs xs ∧ szOk (.tuple xs) = true := by
  rcases r with ⟨d, hz⟩ | ⟨p, vs, ys, e, rfl, h, _, _, ha, hz⟩
  · cases d with
    | tup hs ha => exact ⟨_, _, rfl, SqT.mono s hs, ha, hz⟩
  · cases e
theorem RepB.dp {K : PySem.W.Frag} {H Hf : Hp} {ρ : List Addr} {v : V} {d : PyData} (s : Sub Hf H) (r : RepB K H Hf ρ v (.dat d)) : Dp K H v d ∧ szOk d = true := by
  rcases r with ⟨d', hz⟩ | ⟨p, vs, ys, e, rfl, h, _, _, ha, hz⟩
  · exact ⟨Dp.mono s _ _ d', hz⟩
  · cases e; exact ⟨.lst (.inl (.inl h)) (DpAll.mono s _ _ ha), hz⟩
theorem RepB.int {K : PySem.W.Frag} {H Hf : Hp} {ρ : List Addr} {v : V} {i : Int} (r : RepB K H Hf ρ v (.dat (.int i))) : v = .int i := by
  rcases r with ⟨d', hz⟩ | ⟨p, vs, ys, e, rfl, h, _, _, ha, hz⟩
  · cases d'; rfl
  · cases e
theorem RepB.str {K : PySem.W.Frag} {H Hf : Hp} {ρ : List Addr} {v : V} {i : Str} (r : RepB K H Hf ρ v (.dat (.str i))) : v = .str i ∧ szOk (.str i) = true := by
  rcases r with ⟨d', hz⟩ | ⟨p, vs, ys, e, rfl, h, _, _, ha, hz⟩
  · cases d'; exact ⟨rfl, hz⟩
  · cases e
theorem RepB.bool {K : PySem.W.Frag} {H Hf : Hp} {ρ : List Addr} {v : V} {i : Bool} (r : RepB K H Hf ρ v (.dat (.bool i))) : v = .bl i := by
  rcases r with ⟨d', hz⟩ | ⟨p, vs, ys, e, rfl, h, _, _, ha, hz⟩
  · cases d'; rfl
  · cases e
theorem RepB.none {K : PySem.W.Frag} {H Hf : Hp} {ρ : List Addr} {v : V} (r : RepB K H Hf ρ v (.dat .none)) : v = .non := by
  rcases r with ⟨d', hz⟩ | ⟨p, vs, ys, e, rfl, h, _, _, ha, hz⟩
  · cases d'; rfl
  · cases e

/-! ### operators by values -/
section
variable {X : Cx} {XR : XRel} {W : WX}
/-- what two values' operator is asked: f by values -/
def opD (K : PySem.W.Frag) (f : PyData → PyData → Option PyData) : R2 := fun x y H Q => ∃ Hf ρ ω σ env m d e z, At K H σ Hf ρ ω env m ∧ RepB K H Hf ρ x (.dat d) ∧ RepB K H Hf ρ y (.dat e) ∧ f d e = some z ∧
  ∀ v H' Hf' ρ', Pres H Hf ρ H' Hf' ρ' → Fine K H' Hf' ρ' m → RepU K Hf' ρ' v (.dat z) → Q v H'
theorem OpR.imp {f : Value → Value → Sem Value} {r r' : R2} (h : OpR X f r) (hi : ∀ x y H Q, r' x y H Q → r x y H Q) : OpR X f r' := fun pins s σ H x y v u Q I rx ry q => h pins s σ H x y v u Q I rx ry (hi _ _ _ _ q)
theorem op_cases {f : Value → Value → Sem Value} {F : PyData → PyData → Option PyData} (h : ∀ d e z, F d e = some z → OpR X f (fun x y H Q => ∃ Hf ρ ω σ env m, At X.K H σ Hf ρ ω env m ∧ RepB X.K H Hf ρ x (.dat d) ∧ RepB X.K H Hf ρ y (.dat e) ∧
    ∀ v H' Hf' ρ', Pres H Hf ρ H' Hf' ρ' → Fine X.K H' Hf' ρ' m → RepU X.K Hf' ρ' v (.dat z) → Q v H')) : OpR X f (opD X.K F) := by
  intro pins s σ H x y v u Q I rx ry ⟨Hf, ρ, ω, σ', env, m, d, e, z, a, r1, r2, hz, q⟩
  exact h d e z hz pins s σ H x y v u Q I rx ry ⟨Hf, ρ, ω, σ', env, m, a, r1, r2, q⟩
end
end Eng

set_option Elab.async false
set_option linter.all false
set_option maxRecDepth 100000
/-! Dicts of ours: {}, d[k], d[k] = v, k in d, d.get(k, x). -/
namespace L2
open PySem PySem.Spec PyProof.Rows PySem.Calls Eng
section
variable {X : Cx} {pins : List (Addr × Obj)} {σ : St} {H : Hp} {s : Shared}
mutual
/-- a piece of data is a key -/
theorem nk_is (I : Inv X pins σ H s) : ∀ (d : PyData) (v : V) (u : Value) (k : NestedKey), Dp X.K H v d → RelV v u → nk d = some k → NestedIs s.heap k u
  | .none, _, _, k, h, r, e => by
    simp only [nk, Option.some.injEq] at e
    subst e
    cases h
    cases r
    exact .none
  | .int i, _, _, k, h, r, e => by
    simp only [nk, Option.some.injEq] at e
    subst e
    cases h
    obtain ⟨t, rfl⟩ := r
    exact .int i t
  | .tuple ds, _, _, k, h, r, e => by
    simp only [nk, Option.map_eq_some_iff] at e
    obtain ⟨ks, e, rfl⟩ := e
    cases h with
    | tup hs ha =>
      cases r
      obtain ⟨its, rv, ⟨o, ho, hc, n, hd⟩, _⟩ := I.tuple hs
      exact .tup ho hc hd (nkAll_is I ds _ its ks ha rv e)
  | .bool b, _, _, k, h, r, e => by simp [nk] at e
  | .str b, _, _, k, h, r, e => by simp [nk] at e
  | .list b, _, _, k, h, r, e => by simp [nk] at e
  | .dict b, _, _, k, h, r, e => by simp [nk] at e
theorem nkAll_is (I : Inv X pins σ H s) : ∀ (ds : List PyData) (vs : List V) (us : List Value) (ks : List NestedKey), DpAll X.K H vs ds → Vals vs us → nkAll ds = some ks → NestedAll s.heap ks us
  | [], _, _, ks, h, r, e => by
    simp only [nkAll, Option.some.injEq] at e
    subst e
    cases h
    cases r
    exact .nil
  | d :: ds, _, _, ks, h, r, e => by
    simp only [nkAll, Option.bind_eq_some_iff, Option.map_eq_some_iff] at e
    obtain ⟨k, e1, ks', e2, rfl⟩ := e
    cases h with
    | cons h1 h2 =>
      cases r with
      | cons r1 r2 => exact .cons (nk_is I d _ _ k h1 r1 e1) (nkAll_is I ds _ _ ks' h2 r2 e2)
end
theorem key_is (I : Inv X pins σ H s) {b : Addr} {d : PyData} {k : NestedKey} (h : Dp X.K H (.ref b) d) (e : keyOfD d = some k) : (nestedKind X.prog X.w).is s.heap k b := by
  obtain ⟨h1, h2, _⟩ := keyOfD_some e
  exact ⟨nk_is I d _ _ k h rfl h1, h2⟩
theorem key_ref {d : PyData} {k : NestedKey} {v : V} (h : Dp X.K H v d) (e : keyOfD d = some k) : ∃ b, v = .ref b := by
  cases h with
  | tup hs ha => exact ⟨_, rfl⟩
  | _ => simp [keyOfD] at e
/-- the dict, as the library has it -/
theorem dic_of (I : Inv X pins σ H s) {a : Addr} {es : List (NestedKey × Addr × Value)} {kvs : List (NestedKey × PyData)} (h : H a = some (.ext (DicPhi a es))) (hd : DicAt X.K H es kvs) (hn : (es.map (·.1)).Nodup) : s.heap.DictOfH (nestedKind X.prog X.w) a es := by
  obtain ⟨⟨o, ens, ep, h1, h2, h3, h4⟩, _⟩ := (show ObjOk X.prog X.w H s.heap a (.ext (DicPhi a es)) from I.hok a _ h)
  refine ⟨o, ens, ep, h1, h2, h3, by rw [h4, hd.ent X.w X.prog], fun x hx => ?_, hn⟩
  have : ∀ {es : List (NestedKey × Addr × Value)} {kvs : List (NestedKey × PyData)}, DicAt X.K H es kvs → ∀ x ∈ es, (nestedKind X.prog X.w).is s.heap x.1 x.2.1 := fun {es kvs} h => by
    induction h with
    | nil => intro x hx; exact nomatch hx
    | cons h t ih =>
      intro x hx
      rcases List.mem_cons.mp hx with rfl | hx
      · exact ⟨nk_is I _ _ _ _ h.2.2.2.2.1 rfl h.2.1, h.2.2.2.1⟩
      · exact ih x hx
  exact this hd x hx
theorem DicPhi.ok {P : Program} {w : World} {H' : Hp} {h : Heap} {a : Addr} {es : List (NestedKey × Addr × Value)} (p : DicPhi a es h) : ObjOk P w H' h a (.ext (DicPhi a es)) := by
  have p' := p
  obtain ⟨o, ens, ep, h1, h2, h3, h4⟩ := p'
  exact ⟨p, ⟨o, h1⟩, fun g1 g2 ⟨o, ens, ep, q1, q2, q3, q4⟩ hk => ⟨o, ens, ep, hk _ q1, q2, q3, q4⟩⟩
end
/-! ### {} -/
def tDNewE : TE := fun _ H Q => ∀ p, H p = none → (p == sysModules) = false → Q (.ref p) (upd H p (.ext (DicPhi p [])))
section
variable {X : Cx} {pos : Pos}
end
/-! ### d[k] -/
def rIxE (K : PySem.W.Frag) : R2 := fun x y H Q => ∃ a es kvs kd k d Hf, Sub Hf H ∧ x = .ref a ∧ H a = some (.ext (DicPhi a es)) ∧ DicAt K Hf es kvs ∧ (es.map (·.1)).Nodup ∧ Dp K H y kd ∧ keyOfD kd = some k ∧ valN kvs k = some d ∧ ∀ v, Dp K Hf v d → Q v H
def rInE (K : PySem.W.Frag) (n : Bool) : R2 := fun x y H Q => ∃ a es kvs kd k Hf, Sub Hf H ∧ y = .ref a ∧ (a == sysModules) = false ∧ H a = some (.ext (DicPhi a es)) ∧ DicAt K Hf es kvs ∧ (es.map (·.1)).Nodup ∧ Dp K H x kd ∧ keyOfD kd = some k ∧ Q (.bl (xor n (valN kvs k).isSome)) H
def rSetE (K : PySem.W.Frag) : V → V → V → Hp → (Hp → Prop) → Prop := fun o i v H Q => ∃ a es kvs kd k d Hf, Sub Hf H ∧ Hf a = none ∧ o = .ref a ∧ H a = some (.ext (DicPhi a es)) ∧ DicAt K Hf es kvs ∧ (es.map (·.1)).Nodup ∧ kvs.length ≤ sizeLine ∧ Dp K Hf i kd ∧ keyOfD kd = some k ∧ Dp K Hf v d ∧
  ∀ es', DicAt K Hf es' (putN kvs k d) → (es'.map (·.1)).Nodup → Q (upd H a (.ext (DicPhi a es')))
section
variable {X : Cx}
theorem ix_dic (hu : X.A.units + 64 < cLine) : IxR X (rIxE X.K) := by
  intro value slice pins s σ H x y v u Q I rx ry h hs
  obtain ⟨a, es, kvs, kd, k, d, Hf, sb, rfl, ha, hd, hn, hk, ek, ev, q⟩ := h
  cases rx
  obtain ⟨b, rfl⟩ := key_ref hk ek
  cases (show u = Value.ref b from ry)
  have dd := dic_of I ha (DicAt.mono sb hd) hn
  obtain ⟨p, hp, v, rv, hv⟩ := hd.some ev
  have room : (nestedKind X.prog X.w).room X.A.in1 := by show X.A.units + 1 + 8 < cLine; omega
  exact subscriptTail_builtinR (x := p.2) dd.typeIs PySem.F.slot_dict_getitem.lookup
    (wpAny_getItem_heap (Q := fun r s' => r = p.2 ∧ EP X pins σ Q r s') room (key_is I hk ek) dd hp ⟨rfl, v, H, I.tok _, rv, q v hv⟩) hs
theorem op_inE (hu : X.A.units + 64 < cLine) : OpR X (compareOp .In) (rInE X.K false) := by
  intro pins s σ H x y v u Q I rx ry h
  obtain ⟨a, es, kvs, kd, k, Hf, sb, rfl, hsm, ha, hd, hn, hk, ek, q⟩ := h
  cases ry
  obtain ⟨b, rfl⟩ := key_ref hk ek
  cases (show v = Value.ref b from rx)
  have dd := dic_of I ha (DicAt.mono sb hd) hn
  have room : (nestedKind X.prog X.w).room X.A.in1 := by show X.A.units + 1 + 8 < cLine; omega
  refine wpAny_in_heap room (key_is I hk ek) hsm dd ⟨.bl _, H, I.tok _, rfl, ?_⟩
  have e : (atKey es k).isSome = (false ^^ (valN kvs k).isSome) := by rw [hd.isSome, Bool.false_xor]
  rw [e]
  exact q
theorem op_notInE (hu : X.A.units + 64 < cLine) : OpR X (compareOp .NotIn) (rInE X.K true) := by
  intro pins s σ H x y v u Q I rx ry h
  obtain ⟨a, es, kvs, kd, k, Hf, sb, rfl, hsm, ha, hd, hn, hk, ek, q⟩ := h
  cases ry
  obtain ⟨b, rfl⟩ := key_ref hk ek
  cases (show v = Value.ref b from rx)
  have dd := dic_of I ha (DicAt.mono sb hd) hn
  have room : (nestedKind X.prog X.w).room X.A.in1 := by show X.A.units + 1 + 8 < cLine; omega
  refine wpAny_notIn_heap room (key_is I hk ek) hsm dd ⟨.bl _, H, I.tok _, rfl, ?_⟩
  have e : (!(atKey es k).isSome) = (true ^^ (valN kvs k).isSome) := by rw [hd.isSome, Bool.true_xor]
  rw [e]
  exact q
theorem set_dic (hu : X.A.units + 64 < cLine) : PSet X (rSetE X.K) := by
  intro pins s σ H o i v ov iv u Q I ro ri rv h
  obtain ⟨a, es, kvs, kd, k, d, Hf, sb, hfa, rfl, ha, hd, hn, hl, hk, ek, hv, q⟩ := h
  cases ro
  obtain ⟨b, rfl⟩ := key_ref hk ek
  cases (show iv = Value.ref b from ri)
  have dd := dic_of I ha (DicAt.mono sb hd) hn
  have room : (nestedKind X.prog X.w).room X.A.in1 := by show X.A.units + 1 + 8 < cLine; omega
  refine wpAny_setItem_heap (hsz := by rw [hd.len]; exact hl) room (key_is I (Dp.mono sb _ _ hk) ek) dd fun h' dd' hs => ?_
  have hd' := hd.put ek hk rv hv
  obtain ⟨ob, ens, ep, hq, h2, h3, h4, _, h5⟩ := dd'
  refine ⟨_, d_write I (by rw [ha]; exact True.intro) hs ⟨ob, hq⟩ (DicPhi.ok ⟨ob, ens, ep, hq, h2, h3, by rw [h4, hd'.ent X.w X.prog]⟩), q _ hd' h5⟩
end
end L2

set_option Elab.async false
set_option linter.all false
set_option maxRecDepth 100000
/-! zip of a list or tuple and a list or tuple. -/
namespace L2
open PySem PySem.Spec PyProof.Rows
def SqK (K : PySem.W.Frag) (k : Bool) (H : Hp) (a : Addr) (xs : List V) : Prop := match k with
  | true => SqL K H a xs
  | false => SqT K H a xs
def ItK (k : Bool) (h : Heap) (it l : Addr) (i : Nat) : Prop := match k with
  | true => h.IsListIter it l i
  | false => h.IsTupleIter it l i
def ArK (k : Bool) (h : Heap) (l : Addr) (its : Array Value) : Prop := match k with
  | true => h.IsList l its
  | false => h.IsTuple l its
theorem ItK.at {k : Bool} {h h' : Heap} {it l : Addr} {i : Nat} (x : ItK k h it l i) (e : ∀ o, h.get? it = some o → h'.get? it = some o) : ItK k h' it l i := by
  cases k
  · exact Heap.IsTupleIter.at x e
  · exact Heap.IsListIter.at x e
theorem ItK.obj {k : Bool} {h : Heap} {it l : Addr} {i : Nat} (x : ItK k h it l i) : ∃ o, h.get? it = some o ∧ ∃ fs, o.data = .fields fs := by
  cases k
  · obtain ⟨o, h1, _, h2⟩ := x; exact ⟨o, h1, _, h2⟩
  · obtain ⟨o, h1, _, h2⟩ := x; exact ⟨o, h1, _, h2⟩
theorem SqK.arr {X : Cx} {pins : List (Addr × Obj)} {σ : St} {H : Hp} {s : Shared} (I : Inv X pins σ H s) {k : Bool} {a : Addr} {xs : List V} (h : SqK X.K k H a xs) : ∃ its : List Value, Vals xs its ∧ ArK k s.heap a its.toArray ∧ a < s.heap.objs.size := by
  cases k
  · obtain ⟨its, rv, p, _⟩ := I.tuple h
    obtain ⟨o, ho, _⟩ := id p
    exact ⟨its, rv, p, Heap.lt_size ho⟩
  · obtain ⟨its, rv, p, _⟩ := I.list h
    exact ⟨its, rv, p.isList, p.lt⟩
theorem SqK.inj {X : Cx} {pins : List (Addr × Obj)} {σ : St} {H : Hp} {s : Shared} (I : Inv X pins σ H s) {k : Bool} {a : Addr} {xs ys : List V} (h : SqK X.K k H a xs) (h' : SqK X.K k H a ys) : xs = ys := by
  cases k
  · exact I.tuple_inj h h'
  · exact I.list_inj h h'
theorem drawsK (k : Bool) {prog : Program} {w : World} {A : Around} (hh : A.handled = none) (it l : Addr) (hne : l ≠ it) (items : Array Value) :
    Draws prog w A it [it, l] items.size (fun i v => items[i]? = some v) (fun i h => ItK k h it l i ∧ ArK k h l items) := by
  cases k
  · exact Draws.tuple hh it l hne items
  · exact Draws.list hh it l hne items
theorem beginsK (k : Bool) (l : Addr) (items : Array Value) : ∃ o : Obj, Begins (.ref l) o (fun h => ArK k h l items) ∧ ∀ (h : Heap) (it : Addr), h.get? it = some o → ItK k h it l 0 := by
  cases k
  · exact ⟨_, begins_tuple l items, fun h it e => ⟨_, e, rfl, rfl⟩⟩
  · exact ⟨_, begins_list l items, fun h it e => ⟨_, e, rfl, rfl⟩⟩
/-- the sequences as they stand at each turn, the items in new pairs -/
def ItzK (K : PySem.W.Frag) (k1 k2 : Bool) (a b : Addr) : It :=
  ⟨fun i H => ∃ (xs ys : List V) (x y : V), SqK K k1 H a xs ∧ SqK K k2 H b ys ∧ xs[i]? = some x ∧ ys[i]? = some y,
    fun i H v H' => ∃ T x y, v = .ref T ∧ H T = none ∧ H' = upd H T (.tup [x, y]) ∧ (∀ xs, SqK K k1 H a xs → xs[i]? = some x) ∧ ∀ ys, SqK K k2 H b ys → ys[i]? = some y,
    fun i H => ∃ xs ys : List V, SqK K k1 H a xs ∧ SqK K k2 H b ys ∧ (i ≤ xs.length ∧ i ≤ ys.length) ∧ (i = xs.length ∨ i = ys.length)⟩
theorem sepK {z TI TO i1 i2 a b : Addr} (D : ZipApart z TI TO i1 i2 a b) : ZipSep2 z TI TO i1 i2 [i1, a] [i2, b] where
  TIz := D.TIz
  TOz := D.TOz
  TITO := D.TITO
  TIi1 := D.TIi1
  mem1 := by simp
  zf1 := by simp [D.i1z.symm, D.l1z.symm]
  Tf1 := by simp [D.TOi1, D.l1TO.symm]
  TIi2 := D.TIi2
  mem2 := by simp
  zf2 := by simp [D.i2z.symm, D.l2z.symm]
  Tf2 := by simp [D.TOi2, D.l2TO.symm]
  sep1_2 := by simp [D.i12, D.l2i1.symm]
  sep2_1 := by simp [D.i12.symm, D.l1i2.symm]
theorem turn_zipK {P : Program} {w : World} {K : PySem.W.Frag} (k1 k2 : Bool) {elts : List Expr} {kk : Nat} {tpos : Pos} {a b z TI TO i1 i2 : Addr} (D : ZipApart z TI TO i1 i2 a b) :
    Turn P w K (.Tuple elts kk tpos) (ItzK K k1 k2 a b) [z, TI, TO, i1, i2] z (fun i h => IsZip h z TI TO .none ∧ IsPair h TI (.ref i1) (.ref i2) ∧ (∃ x y, IsPair h TO x y) ∧ ItK k1 h i1 a i ∧ ItK k2 h i2 b i) where
  mem := by simp
  obj := fun i h st c hc => by
    obtain ⟨hz, hTI, ⟨x, y, hTO⟩, t1, t2⟩ := st
    obtain ⟨o1, e1, f1, d1⟩ := t1.obj
    obtain ⟨o2, e2, f2, d2⟩ := t2.obj
    have e' : c = z ∨ c = TI ∨ c = TO ∨ c = i1 ∨ c = i2 := by simpa using hc
    rcases e' with q | q | q | q | q
    · rw [q]; exact ⟨_, hz, fun v q => nomatch q⟩
    · rw [q]; exact ⟨_, hTI, fun v q => nomatch q⟩
    · rw [q]; exact ⟨_, hTO, fun v q => nomatch q⟩
    · rw [q]; exact ⟨o1, e1, fun v q => by rw [d1] at q; cases q⟩
    · rw [q]; exact ⟨o2, e2, fun v q => by rw [d2] at q; cases q⟩
  keep := fun i h h' st k => by
    obtain ⟨hz, hTI, ⟨x, y, hTO⟩, h1, h2⟩ := st
    exact ⟨k z (by simp) _ hz, k TI (by simp) _ hTI, ⟨x, y, k TO (by simp) _ hTO⟩, h1.at fun o q => k i1 (by simp) o q, h2.at fun o q => k i2 (by simp) o q⟩
  item := by
    intro X hP hw hK hc i pins s σ H E I hf st hg
    subst hP hw hK
    obtain ⟨hz, hTI, ⟨x0, y0, hTO⟩, h1, h2⟩ := st
    obtain ⟨xs, ys, x, y, hqx, hqy, hx, hy⟩ := hg
    obtain ⟨its, rv, p, _⟩ := SqK.arr I hqx
    obtain ⟨its2, rv2, p2, _⟩ := SqK.arr I hqy
    obtain ⟨u, hu, ru⟩ := rv.get hx
    obtain ⟨u2, hu2, ru2⟩ := rv2.get hy
    have hzl : z < s.heap.objs.size := Heap.lt_size hz
    have hh : X.A.in1.handled = none := I.ok.hd hc
    have lt1 : i < its.toArray.size := by rw [List.size_toArray]; exact (List.getElem?_eq_some_iff.mp hu).1
    have lt2 : i < its2.toArray.size := by rw [List.size_toArray]; exact (List.getElem?_eq_some_iff.mp hu2).1
    refine wpAny_pyNext_zipD2_item (sepK D) (drawsK k1 hh i1 a D.l1i1 its.toArray) (drawsK k2 hh i2 b D.l2i2 its2.toArray) hz hTI hTO ⟨h1, p⟩ ⟨h2, p2⟩ lt1 lt2 fun v1 v2 h' tk e1 e2 z' TO' h1' h2' hT hsz hk => ?_
    have ev1 : v1 = u := by
      have e1' : its[i]? = some v1 := by simpa using e1
      rw [hu] at e1'; cases e1'; rfl
    have ev2 : v2 = u2 := by
      have e2' : its2[i]? = some v2 := by simpa using e2
      rw [hu2] at e2'; cases e2'; rfl
    subst ev1 ev2
    refine ⟨_, rfl, wpAny_letOwnedTupleGo_zip (s := { s with heap := h', toks := tk }) z' fun h'' z'' sb => ?_⟩
    have hT2 : h''.get? s.heap.objs.size = some { cls := .type "tuple", data := .seq #[v1, v2] } := (sb.2 _ (Nat.ne_of_gt hzl)).trans hT
    have new : ObjOk X.prog X.w (upd H s.heap.objs.size (.tup [x, y])) h'' s.heap.objs.size (.tup [x, y]) :=
      ⟨by show 2 ≤ sizeLine; decide, [v1, v2], .cons ru (.cons ru2 .nil), ⟨_, hT2, rfl, _, rfl⟩⟩
    have I1 : Inv X pins σ (upd H s.heap.objs.size (.tup [x, y])) { s with heap := h'', toks := tk } :=
      I.turnedNew (t' := tk) (ch := [z, TI, TO, i1, i2]) (fun c o hb q => (sb.2 c (fun q' => hb (by simp [q']))).trans (hk c o (fun q' => hb (by simp [q'])) (fun q' => hb (by simp [q'])) (fun q' => hb (by simp [q'])) (fun q' => hb (by simp [q'])) q)) hf (Nat.le_refl _) new
    refine ⟨.ref s.heap.objs.size, _, I1, rfl, ⟨_, x, y, rfl, I.hok.fresh (Nat.le_refl _), rfl, fun l hl => by rw [SqK.inj I hl hqx]; exact hx, fun l hl => by rw [SqK.inj I hl hqy]; exact hy⟩, ⟨z'', ?_, ⟨v1, v2, ?_⟩, ?_, ?_⟩, fun c hcm => ?_⟩
    · exact (sb.2 _ D.TIz).trans (hk _ _ D.TIz D.TITO D.TIi1 D.TIi2 hTI)
    · exact (sb.2 _ D.TOz).trans TO'
    · exact h1'.1.at fun o q => (sb.2 _ D.i1z).trans q
    · exact h2'.1.at fun o q => (sb.2 _ D.i2z).trans q
    · have hlt : c < s.heap.objs.size := by
        have e' : c = z ∨ c = TI ∨ c = TO ∨ c = i1 ∨ c = i2 := by simpa using hcm
        rcases e' with q | q | q | q | q
        · rw [q]; exact hzl
        · rw [q]; exact Heap.lt_size hTI
        · rw [q]; exact Heap.lt_size hTO
        · rw [q]; obtain ⟨_, e1, _⟩ := h1.obj; exact Heap.lt_size e1
        · rw [q]; obtain ⟨_, e2, _⟩ := h2.obj; exact Heap.lt_size e2
      rw [upd_ne (Nat.ne_of_lt hlt)]
      exact (hf c hcm).1
  done := by
    intro X hP hw hK hc i pins s σ H E I hf st hg
    subst hP hw hK
    obtain ⟨hz, hTI, ⟨x0, y0, hTO⟩, h1, h2⟩ := st
    obtain ⟨xs, ys, hqx, hqy, hle, hend⟩ := hg
    obtain ⟨its, rv, p, _⟩ := SqK.arr I hqx
    obtain ⟨its2, rv2, p2, _⟩ := SqK.arr I hqy
    have l1 := rv.length
    have l2 := rv2.length
    have hh : X.A.in1.handled = none := I.ok.hd hc
    exact wpAny_pyNext_zipD2_end (sepK D) (drawsK k1 hh i1 a D.l1i1 its.toArray) (drawsK k2 hh i2 b D.l2i2 its2.toArray) hz hTI hTO ⟨h1, p⟩ ⟨h2, p2⟩ (by rw [List.size_toArray]; omega) (by rw [List.size_toArray]; omega) (by rw [List.size_toArray, List.size_toArray]; omega) fun h' tk hk => ⟨rfl, I.turnedL (t' := tk) (ch := [z, TI, TO, i1, i2]) (fun c o hb q =>
      hk c o (fun q' => hb (by simp [q'])) (fun q' => hb (by simp [q'])) (fun q' => hb (by simp [q'])) (fun q' => hb (by simp [q'])) q) hf⟩
  self := fun A i s Q E st h => wpAny_pyIter_zip st.1 h
def iZipK (K : PySem.W.Frag) (ta : TA) : TI := fun σ H R => ta σ H fun vs H1 => ∃ k1 k2 a b xs ys, vs = [.ref a, .ref b] ∧ SqK K k1 H1 a xs ∧ SqK K k2 H1 b ys ∧ R (ItzK K k1 k2 a b) H1
theorem pi_zipK {X : Cx} {e e2 : Expr} {ta : TA} {p pos tpos : Pos} {elts : List Expr} {kk : Nat} (hg : Gl X "zip") (hm : X.mg "zip" = none) (ha : PA X [e, e2] ta)
    (hs : starEach [e, e2] X.env = (false, eval e X.env) :: starEach [e2] X.env := by rfl) (hpl : (backTo pos (starEach [e2] X.env)).any (·.1) = false := by rfl) :
    PI X (.Tuple elts kk tpos) (.Call (.Name "zip" p) [e, e2] [] pos) (iZipK X.K ta) := by
  refine ⟨fun pins s σ H R I h => ?_⟩
  refine Call_ (ld_blt I hg hm PyProof.Rows.boot_zip (PyProof.Rows.callWith_type1 (thn (ha.run pos pins s σ H _ I h) fun us s1 ⟨vs, H1, I1, r1, q1⟩ => ?_) hs hpl))
  obtain ⟨k1, k2, a, b, xs, ys, ex, hqx, hqy, q⟩ := q1
  subst ex
  cases r1 with
  | cons r rr =>
    cases rr with
    | cons r' rr =>
      cases rr
      cases r
      cases r'
      have fresh5 : ∀ c, c ∈ [s1.heap.objs.size + 4, s1.heap.objs.size + 2, s1.heap.objs.size + 3, s1.heap.objs.size, s1.heap.objs.size + 1] → FpOk X pins H1 c := fun c hcm => by
        have hle : s1.heap.objs.size ≤ c := by
          simp only [List.mem_cons, List.not_mem_nil, or_false] at hcm
          rcases hcm with z | z | z | z | z <;> (rw [z]; omega)
        exact I1.fpOk hle (I1.hok.fresh hle)
      obtain ⟨its, rv, p1, lt1⟩ := SqK.arr I1 hqx
      obtain ⟨its2, rv2, p2, lt2⟩ := SqK.arr I1 hqy
      obtain ⟨o1, B1, f1⟩ := beginsK k1 a its.toArray
      obtain ⟨o2, B2, f2⟩ := beginsK k2 b its2.toArray
      refine zip_begins2 B1 B2 p1 p2 fun h' hz hTI hTO h1 h2 hsz hk => wpAny_pyIter_zip hz ?_
      have I2 : Inv X pins σ H1 { s1 with heap := h' } := I1.kept (t' := s1.toks) hk
      exact ⟨s1.heap.objs.size + 4, [s1.heap.objs.size + 4, s1.heap.objs.size + 2, s1.heap.objs.size + 3, s1.heap.objs.size, s1.heap.objs.size + 1], _, _, H1, rfl, I2, turn_zipK k1 k2 (PySem.W.ktu_apart s1.heap.objs.size a b lt1 lt2), ⟨hz, hTI, ⟨_, _, hTO⟩, f1 _ _ h1, f2 _ _ h2⟩, fresh5, q⟩
end L2

set_option Elab.async false
set_option linter.all false
set_option maxRecDepth 100000
set_option maxHeartbeats 3200000
/-! sorted(set(xs)), xs a list of ints. -/
namespace EngQ
open PySem PySem.Spec PyProof.Rows L2 RZ PySem.Calls
/-- a new set's object -/
abbrev fob (w : World) : Obj := { cls := .type "set", dict := none, data := .set #[] 0 (.fresh 0 0 (!w.params.followText "set-order")) }
section
variable {P : Program} {w : World} {A : Around} {E : Value → Shared → Prop} {s : Shared}
end
/-- set(xs) -/
def rSetL (w : World) (K : PySem.W.Frag) : List V → Hp → VK → Prop := fun vs H Q => ∃ (a : Addr) (ns : List Int), vs = [V.ref a] ∧ SqL K H a (ns.map V.int) ∧ ns.length ≤ 1000 ∧ ∀ p c, H p = none → (∀ D : List Int, (∀ k ∈ ns, k ∈ D) → c ≤ D.length) → Q (.ref p) (upd H p (SetO w p (fun j => decide (j ∈ ns)) c))
section
variable {X : Cx}
end
end EngQ

set_option Elab.async false
set_option linter.all false
set_option maxRecDepth 100000
set_option maxHeartbeats 3200000
/-! sorted(set(xs)), xs a list of tuples of ints, of which few differ; turned from HandS.TupSets: its length is free, and a lone tuple may be empty. -/
namespace EngU
open PySem PySem.Spec PyProof.Rows L2
theorem cap_len {α : Type} [DecidableEq α] : ∀ (l D : List α), l.Nodup → (∀ x ∈ l, x ∈ D) → l.length ≤ D.length
  | [], _, _, _ => Nat.zero_le _
  | x :: l, D, hn, hs => by
    obtain ⟨h1, h2⟩ := List.nodup_cons.mp hn
    have hx : x ∈ D := hs x List.mem_cons_self
    have ih := cap_len l (D.erase x) h2 fun y hy => by
      have ne : y ≠ x := fun e => h1 (by rw [← e]; exact hy)
      exact (List.mem_erase_of_ne ne).2 (hs y (List.mem_cons_of_mem _ hy))
    have := List.length_erase_of_mem hx
    have := List.length_pos_of_mem hx
    rw [List.length_cons]; omega
section
open TS
variable {prog : Program} {w : World} {A : Around} {E : Value → Shared → Prop} {s : Shared}
end
section
variable {P : Program} {w : World} {A : Around} {E : Value → Shared → Prop} {s : Shared}
set_option maxRecDepth 100000 in
end
end EngU
namespace EngU
open PySem PySem.Spec PyProof.Rows L2
/-- set(xs), xs a list of tuples of ints, at most 62 of them different -/
def rSetU (K : PySem.W.Frag) (P : Program) (w : World) : List V → Hp → VK → Prop := fun xs H Q => ∃ (l : Addr) (ks : List (Addr × List Int)) (D : List (List Int)), xs = [V.ref l] ∧ SqL K H l (ks.map fun p => V.ref p.1) ∧ (∀ p ∈ ks, SqT K H p.1 (p.2.map V.int)) ∧ (∀ p ∈ ks, p.2 ∈ D) ∧ D.length + 1 < 64 ∧
  ∀ a L, H a = none → (∀ p ∈ L, p ∈ ks) → (∀ p ∈ ks, p.2 ∈ L.map (·.2)) → (L.map (·.2)).Nodup → Q (.ref a) (upd H a (SetTO P w a L))
/-- sorted(set), the tuples of d ints in [0, B) -/
def rSortedU (K : PySem.W.Frag) (P : Program) (w : World) : List V → Hp → VK → Prop := fun vs H Q => ∃ (a : Addr) (L : List (Addr × List Int)) (d : Nat) (B : Int), vs = [V.ref a] ∧ H a = some (SetTO P w a L) ∧ (∀ p ∈ L, SqT K H p.1 (p.2.map V.int)) ∧ (2 ≤ L.length → 1 ≤ d) ∧
  (∀ p ∈ L, p.2.length = d ∧ TS.Bd B p.2) ∧
  ∀ (L' : List (Addr × List Int)) (p : Addr), L'.Perm L → (L'.map (·.2)).Nodup → L'.length < 64 → L'.Pairwise (fun q r => TS.code B q.2 ≤ TS.code B r.2) → H p = none → Q (.ref p) (upd H p (.lst (L'.map fun q => V.ref q.1)))
section
variable {X : Cx}
end
/-! the order by code -/
end EngU

set_option Elab.async false
set_option linter.all false
set_option maxRecDepth 100000
set_option maxHeartbeats 3200000
/-! A set comprehension whose elements are whole numbers, or tuples of them; turned from HandS.SetBool's over truth values. -/
namespace L2
open PySem PySem.Spec PyProof.Rows PpSet
/-- what the set holds so far: nothing yet; numbers; tuples of numbers -/
inductive StV where
  | e | i (S : Int → Bool) (n : Nat) | t (L : List (Addr × List Int))
def SOV (P : Program) (w : World) (a : Addr) : StV → HO
  | .e => .ext fun h => SetR w h a (fun _ => false) 0 ∧ SetT0 P w h a []
  | .i S n => SetO w a S n
  | .t L => SetTO P w a L
/-- y is put in -/
def AdV (K : PySem.W.Frag) (y : V) (H : Hp) (k : StV → Prop) : StV → Prop
  | .e => (∃ i, y = .int i ∧ k (.i (fun j => decide (j = i)) 1)) ∨ ∃ x q, y = .ref x ∧ SqT K H x (q.map V.int) ∧ k (.t [(x, q)])
  | .i S n => ∃ i, y = .int i ∧ n + 1 < scanBound ∧ k (.i (fun j => S j || decide (j = i)) (if S i = true then n else n + 1))
  | .t L => ∃ x q, y = .ref x ∧ SqT K H x (q.map V.int) ∧ (∀ p ∈ L, SqT K H p.1 (p.2.map V.int)) ∧ L.length + 1 < 64 ∧ (q ∈ L.map (·.2) → k (.t L)) ∧ (q ∉ L.map (·.2) → ∀ L', L'.Perm ((x, q) :: L) → k (.t L'))
section
variable {P : Program} {w : World}
end
section
variable {P : Program} {w : World} {A : Around} {E : Value → Shared → Prop} {s : Shared}
end
section
variable {X : Cx}
def tSg (X : Cx) (wi : TI) (g : TG) (tt : TT) (te : TE) (vs : List Nat) : TE := fun σ H Q => wi σ H fun J H1 => ∀ D, H1 D = none → ∃ W : Nat → Nat → Hp → Prop, (∃ m, W 0 m (upd H1 D (SOV X.prog X.w D .e))) ∧ ∀ i m H, W i m H →
  (J.stop i H ∧ Q (.ref D) H) ∨ (J.go i H ∧ ∃ Nx : Hp → Prop, (∀ H', Nx H' → ∃ m', m' < m ∧ W (i + 1) m' H') ∧ ∀ x H', J.yld i H x H' → g x (wipe σ vs) H' fun σ2 H2 => wipe σ2 vs = wipe σ vs ∧ tt σ2 H2 fun b H3 =>
    if b = true then te σ2 H3 fun y H4 => ∃ st, H4 D = some (SOV X.prog X.w D st) ∧ AdV X.K y H4 (fun st' => Nx (upd H4 D (SOV X.prog X.w D st'))) st else Nx H3)
/-- sorted of an empty one -/
def rSortedEm (P : Program) (w : World) : List V → Hp → VK → Prop := fun vs H Q => ∃ (a : Addr), vs = [V.ref a] ∧ H a = some (SOV P w a .e) ∧ ∀ p, H p = none → Q (.ref p) (upd H p (.lst []))
end
end L2

set_option Elab.async false
set_option linter.all false
set_option maxRecDepth 100000
set_option maxHeartbeats 1000000
/-! Dicts by whole numbers: d[i], i in d, i not in d. -/
namespace L2
open PySem PySem.Spec PyProof.Rows
def rIxK : R2 := fun x y H Q => ∃ a ws i v, x = .ref a ∧ y = .int i ∧ H a = some (.dK ws) ∧ valV ws (.inl i) = some v ∧ Q v H
def rInK (n : Bool) : R2 := fun x y H Q => ∃ a ws i, y = .ref a ∧ x = .int i ∧ H a = some (.dK ws) ∧ Q (.bl (xor n (valV ws (.inl i)).isSome)) H
section
variable {X : Cx}
theorem ix_K (hu : X.A.units + 64 < cLine) : IxR X rIxK := by
  intro value slice pins s σ H x y v u Q I rx ry h hs
  obtain ⟨a, ws, i, w, rfl, rfl, ha, e, q⟩ := h
  cases rx
  obtain ⟨z, hd, vs, rel, dd⟩ := dk_rd I.hok (.inl ha)
  exact tail_any dd.typeIs PySem.F.slot_dict_getitem.lookup (d_getItem (y := .int i) (v := w) (by omega) I (.inl ⟨ws, .inl i, .inl ha, rfl, e.symm⟩) ry fun w' s' I' r' => ⟨w, H, I', r', q⟩) hs
theorem op_inK (hu : X.A.units + 64 < cLine) : OpR X (compareOp .In) (rInK false) := by
  intro pins s σ H x y v u Q I rx ry h
  obtain ⟨a, ws, i, rfl, rfl, ha, q⟩ := h
  cases ry
  exact d_in (y := .int i) (o := valV ws (.inl i)) (by omega) I (.inl ⟨ws, .inl i, .inl ha, rfl, rfl⟩) rx fun s' I' => ⟨.bl _, H, I', rfl, by rw [Bool.false_xor] at q; exact q⟩
theorem op_notInK (hu : X.A.units + 64 < cLine) : OpR X (compareOp .NotIn) (rInK true) := by
  intro pins s σ H x y v u Q I rx ry h
  obtain ⟨a, ws, i, rfl, rfl, ha, q⟩ := h
  cases ry
  exact d_notIn (y := .int i) (o := valV ws (.inl i)) (by omega) I (.inl ⟨ws, .inl i, .inl ha, rfl, rfl⟩) rx fun s' I' => ⟨.bl _, H, I', rfl, by rw [Bool.true_xor] at q; exact q⟩
end
end L2

set_option Elab.async false
set_option linter.all false
set_option maxRecDepth 100000
set_option maxHeartbeats 4000000
/-! Rules of the machine that the layer lacks: a tuple times one, any and sum of a tuple, sorted of data. -/
namespace L2
open PySem PySem.Spec PyProof.Rows
theorem tuple_mul_one (l : Addr) (items : Array Value) (n : Nat) (dd : Option Addr) (sl : Array (Option Value)) (u : Tok) :
    Meets (Builtin.«tuple.__mul__» ⟨[.ref l, .int 1 u], []⟩) (fun _ R s => s.heap.get? l = some { cls := .type "tuple", dict := dd, data := .seq items n, slots := sl } ∧ R (.ok (.ret (Value.ref l))) s) :=
  .of_wp fun prog w A R s h => by
    obtain ⟨hp, g, d, tk, os⟩ := s
    obtain ⟨hl, h⟩ := h
    have f1 := AutoSeq1.idx_int
    have c0 : (decide ((1 : Int) < -(2 ^ 63)) || decide ((1 : Int) ≥ 2 ^ 63)) = false := by decide
    have c1 : (items.isEmpty || (1 : Int) == 1) = true := by simp
    wp_walk using wpAny_loadPart' hl
    repeat (first
      | (refine wpAny_ite_false (decide_eq_false (by rw [c0]; exact Bool.false_ne_true)) ?_; wp_walk using wpAny_loadPart' hl)
      | (refine wpAny_ite_true (decide_eq_true (by rw [c1])) ?_; wp_walk using wpAny_loadPart' hl))
    exact ⟨_, rfl, h⟩
theorem tuple_mul_zero (l : Addr) (items : Array Value) (n : Nat) (dd : Option Addr) (sl : Array (Option Value)) (u : Tok) (hi : items.isEmpty = false) :
    Meets (Builtin.«tuple.__mul__» ⟨[.ref l, .int 0 u], []⟩) (fun _ R s => s.heap.get? l = some { cls := .type "tuple", dict := dd, data := .seq items n, slots := sl } ∧
      R (.ok (.ret (Value.ref s.heap.objs.size))) { s with heap := s.heap.push { cls := Value.type "tuple", data := Data.seq #[] }, toks := s.toks }) :=
  .of_wp fun prog w A R s h => by
    obtain ⟨hp, g, d, tk, os⟩ := s
    obtain ⟨hl, h⟩ := h
    have f1 := AutoSeq1.idx_int
    have c0 : (decide ((0 : Int) < -(2 ^ 63)) || decide ((0 : Int) ≥ 2 ^ 63)) = false := by decide
    have c1 : (items.isEmpty || (0 : Int) == 1) = false := by rw [hi]; rfl
    have c2 : (decide ((0 : Int) ≤ 0) || items.isEmpty) = true := by simp
    wp_walk using wpAny_loadPart' hl
    repeat (first
      | (refine wpAny_ite_false (decide_eq_false (by rw [c0]; exact Bool.false_ne_true)) ?_; wp_walk using wpAny_loadPart' hl)
      | (refine wpAny_ite_false (decide_eq_false (by rw [c1]; exact Bool.false_ne_true)) ?_; wp_walk using wpAny_loadPart' hl)
      | (refine wpAny_ite_true (decide_eq_true (by rw [c2])) ?_; wp_walk using wpAny_loadPart' hl))
    exact ⟨_, rfl, h⟩
section
variable {X : Cx}
theorem op_repT0 : OpR X (binaryOp .Mult) (fun x y H Q => ∃ l xs, x = .ref l ∧ y = .int 0 ∧ SqT X.K H l xs ∧ xs ≠ [] ∧ ∀ p, H p = none → Q (.ref p) (upd H p (.tup []))) := by
  intro pins s σ H x y v u Q I rx ry h
  obtain ⟨l, xs, rfl, rfl, hT, hne, q⟩ := h
  cases rx
  obtain ⟨t, rfl⟩ := ry
  obtain ⟨its, r, ⟨⟨cls, dd, data, sl⟩, ho, hc, n, hd⟩, hs⟩ := I.tuple hT
  simp only at hc hd
  subst hc hd
  have hle : its.length = xs.length := r.length.symm
  have hn : its ≠ [] := fun e => hne (by
    rw [e] at hle
    exact List.eq_nil_of_length_eq_zero hle.symm)
  have hi : its.toArray.isEmpty = false := by
    cases its with
    | nil => exact absurd rfl hn
    | cons a b => rfl
  refine wpAny_binaryOp_repeat_ref (T := "tuple") (U := "int") (by decide) ⟨_, ho, rfl⟩ (fun s' => typeIs_int s' 0 t) noFill_tuple_mul F.fills_int_mul F.slot_int_rmul repeat_tuple F.slot_int_index.lookup
    (call_meets F.slot_int_rmul (typeIs_int s 0 t) F.entry_int_rmul (F.args_int_rmul_2 _ _) (int_rmul_tuple 0 t l its.toArray n dd sl)
      ⟨ho, rfl, ⟨_, ho, rfl⟩, call_meets F.slot_tuple_mul ⟨_, ho, rfl⟩ F.entry_tuple_mul (F.args_tuple_mul_2 _ _) (tuple_mul_zero l its.toArray n dd sl t hi) ⟨ho, ?_⟩⟩)
  refine ⟨.ref s.heap.objs.size, _, I.laid (t' := s.toks) (o := .tup []) (fun b ob q => Heap.get?_push_of_some _ q) (Nat.le_refl _) ?_, rfl, q _ (I.hok.fresh (Nat.le_refl _))⟩
  exact ⟨by simp, [], .nil, IsTup.new _ _⟩
theorem op_repT1 : OpR X (binaryOp .Mult) (fun x y H Q => ∃ l xs, x = .ref l ∧ y = .int 1 ∧ SqT X.K H l xs ∧ Q (.ref l) H) := by
  intro pins s σ H x y v u Q I rx ry h
  obtain ⟨l, xs, rfl, rfl, hT, q⟩ := h
  cases rx
  obtain ⟨t, rfl⟩ := ry
  obtain ⟨its, r, ⟨⟨cls, dd, data, sl⟩, ho, hc, n, hd⟩, hs⟩ := I.tuple hT
  simp only at hc hd
  subst hc hd
  refine wpAny_binaryOp_repeat_ref (T := "tuple") (U := "int") (by decide) ⟨_, ho, rfl⟩ (fun s' => typeIs_int s' 1 t) noFill_tuple_mul F.fills_int_mul F.slot_int_rmul repeat_tuple F.slot_int_index.lookup
    (call_meets F.slot_int_rmul (typeIs_int s 1 t) F.entry_int_rmul (F.args_int_rmul_2 _ _) (int_rmul_tuple 1 t l its.toArray n dd sl)
      ⟨ho, rfl, ⟨_, ho, rfl⟩, call_meets F.slot_tuple_mul ⟨_, ho, rfl⟩ F.entry_tuple_mul (F.args_tuple_mul_2 _ _) (tuple_mul_one l its.toArray n dd sl t) ⟨ho, ?_⟩⟩)
  exact ⟨.ref l, H, I, rfl, q⟩
theorem dp_ints {K : PySem.W.Frag} {H : Hp} : ∀ ns : List Int, DpAll K H (ns.map V.int) (ns.map PyData.int)
  | [] => .nil
  | n :: ns => .cons (.int n) (dp_ints ns)
theorem plain_ints : ∀ ns : List Int, PyData.plainAll (ns.map PyData.int) = true
  | [] => rfl
  | n :: ns => by simp only [List.map_cons, PyData.plainAll, PyData.plain, plain_ints ns, Bool.and_self]
/-- any(t), t a tuple of ints -/
theorem cr_anyT (hc : X.calm = true) : CallR X (.builtin "any") (fun vs H Q => ∃ (a : Addr) (ns : List Int), vs = [V.ref a] ∧ SqT X.K H a (ns.map V.int) ∧ Q (.bl (ns.any fun i => i != 0)) H) := by
  intro pins s σ H vs us Q I r h
  obtain ⟨a, ns, rfl, hs, q⟩ := h
  obtain ⟨its, rv, hl, _⟩ := I.tuple hs
  rw [Vals.ref1 r]
  have hi := rv.ints
  have hd : ∃ as, ReadsAll s.heap its (ns.map PyData.int) as := Dp.readsAll I _ (ns.map V.int) its (dp_ints ns) rv
  obtain ⟨as, hr⟩ := hd
  refine PySem.W.any_tuple_data (I.ok.hd hc) hl hr ?_ (fun x hx => ?_) fun h' tk hk => ?_
  · exact plain_ints ns
  · obtain ⟨n, _, rfl⟩ := List.mem_map.mp hx
    simp only [PyData.fits63]
  · have e : (ns.map PyData.int).any PyData.truthy = ns.any fun i => i != 0 := by
      rw [List.any_map]
      rfl
    rw [e]
    exact ⟨.bl _, H, I.kept (t' := tk) hk, rfl, q⟩
/-- any(l), l a list of ints -/
theorem cr_anyI (hc : X.calm = true) : CallR X (.builtin "any") (fun vs H Q => ∃ (a : Addr) (ns : List Int), vs = [V.ref a] ∧ SqL X.K H a (ns.map V.int) ∧ Q (.bl (ns.any fun i => i != 0)) H) := by
  intro pins s σ H vs us Q I r h
  obtain ⟨a, ns, rfl, hs, q⟩ := h
  obtain ⟨its, rv, hl, _⟩ := I.list hs
  rw [Vals.ref1 r]
  have hd : ∃ as, ReadsAll s.heap its (ns.map PyData.int) as := Dp.readsAll I _ (ns.map V.int) its (dp_ints ns) rv
  obtain ⟨as, hr⟩ := hd
  refine PySem.W.any_list_data (I.ok.hd hc) hl.isList hr ?_ (fun x hx => ?_) fun h' tk hk => ?_
  · exact plain_ints ns
  · obtain ⟨n, _, rfl⟩ := List.mem_map.mp hx
    simp only [PyData.fits63]
  · have e : (ns.map PyData.int).any PyData.truthy = ns.any fun i => i != 0 := by
      rw [List.any_map]
      rfl
    rw [e]
    exact ⟨.bl _, H, I.kept (t' := tk) hk, rfl, q⟩
/-- sum(t), t a tuple of ints -/
theorem cr_sumT (hc : X.calm = true) : CallR X (.builtin "sum") (fun vs H Q => ∃ (a : Addr) (ns : List Int), vs = [V.ref a] ∧ SqT X.K H a (ns.map V.int) ∧ Q (.int ns.sum) H) := by
  intro pins s σ H vs us Q I r h
  obtain ⟨a, ns, rfl, hs, q⟩ := h
  obtain ⟨its, rv, hl, _⟩ := I.tuple hs
  rw [Vals.ref1 r]
  have hi := rv.ints
  obtain ⟨xs, e⟩ := hi.allInts.items
  have hn : numsOf (intItems xs).toList = ns := by rw [← e]; exact hi.numsOf
  rw [nums_intItems] at hn
  rw [e] at hl
  refine PySem.W.ktm_sumG (I.ok.hd hc) hl fun h' tk t' hk => ?_
  refine ⟨.int ns.sum, H, I.kept (t' := tk) hk, ⟨t', ?_⟩, q⟩
  rw [preSum_eq, List.take_of_length_le (by simp), hn]
/-- sorted(xs), of data that can be ordered -/
theorem cr_sortedD (hu : X.A.units + 64 < cLine) : CallR X (.builtin "sorted") (fun vs H Q => ∃ (a : Addr) (xs : List V) (ds : List PyData), vs = [V.ref a] ∧ SqL X.K H a xs ∧ DpAll X.K H xs ds ∧ Eng.sortOk ds ∧
    ∀ (zs : List (V × PyData)) p, zs.Perm (xs.zip ds) → zs.map (·.2) = ds.mergeSort (PySem.W.dataLe false id) → H p = none → Q (.ref p) (upd H p (.lst (zs.map (·.1))))) := by
  intro pins s σ H vs us Q I r h
  obtain ⟨a, xs, ds, rfl, hs, hd, hok, q⟩ := h
  obtain ⟨its, rv, hl, hz⟩ := I.list hs
  rw [Vals.ref1 r]
  have lz : its.length = xs.length := rv.length.symm
  have ld : xs.length = ds.length := DpAll.len hd
  rcases hok with ⟨h2, _⟩ | ⟨hal, hso, hdp⟩
  · refine Srt.sorted_any hl.isList (by rw [← rv.length]; exact hz) (fun h => by omega) fun out hp => ?_
    have eo : out = its := by
      match its, out, hp, (show its.length < 2 by omega) with
      | [], out, hp, _ => exact hp.eq_nil
      | [x], out, hp, _ => exact List.perm_singleton.mp hp
      | _ :: _ :: _, _, _, h => exact absurd h (by simp)
    subst eo
    have em : ds.mergeSort (PySem.W.dataLe false id) = ds := by
      match ds, h2 with
      | [], _ => simp
      | [x], _ => simp
      | _ :: _ :: _, h => exact absurd h (by simp)
    obtain ⟨n, hn⟩ := sortedAll_at s.heap out out.toArray
    have e1 : (xs.zip ds).map (·.1) = xs := List.map_fst_zip (by omega)
    have e2 : (xs.zip ds).map (·.2) = ds := List.map_snd_zip (by omega)
    refine ⟨.ref _, upd H (s.heap.objs.size + 1) (.lst xs), I.laid (t' := s.toks) (fun b o e => sortedAll_old e) (Nat.le_succ _) ⟨hz, out, n, rv, hn⟩, rfl, ?_⟩
    have := q (xs.zip ds) (s.heap.objs.size + 1) (List.Perm.refl _) (by rw [e2, em]) (I.hok.fresh (Nat.le_succ _))
    rw [e1] at this
    exact this
  · have hR : ∀ {ds : List PyData} {xs : List V} {its : List Value}, DpAll X.K H xs ds → Vals xs its → PySem.W.EachIs (fun u (p : V × PyData) => RelV p.1 u ∧ ∃ as, Reads s.heap u p.2 as) its (xs.zip ds) := by
      intro ds
      induction ds with
      | nil => intro xs its h r; cases h; cases r; exact .nil
      | cons d ds ih =>
        intro xs its h r
        cases h with
        | cons h1 h2 =>
          cases r with
          | cons r1 r2 => exact .cons ⟨r1, Dp.reads I _ _ _ h1 r1⟩ (ih h2 r2)
    have e2 : (xs.zip ds).map (·.2) = ds := List.map_snd_zip (by omega)
    have each := hR hd rv
    refine PySem.W.sorted_data (enc := fun p : V × PyData => p.2) (R := fun u (p : V × PyData) => RelV p.1 u) (bs := xs.zip ds) hl.isList (each.mono fun _ _ h => h.1) (each.mono fun _ _ h => h.2) (by rw [e2]; exact hal) (by rw [e2]; exact hso) (by rw [List.length_zip]; omega) (fun b hb => ?_) fun out ho ho2 => ?_
    · have := hdp b.2 (by rw [← e2]; exact List.mem_map_of_mem hb)
      omega
    · have hvs : ∀ {zs : List (V × PyData)} {out : List Value}, PySem.W.EachIs (fun u (p : V × PyData) => RelV p.1 u) out zs → Vals (zs.map (·.1)) out := by
        intro zs
        induction zs with
        | nil => intro out h; cases h; exact .nil
        | cons z zs ih => intro out h; cases h with | cons h1 h2 => exact .cons h1 (ih h2)
      obtain ⟨n, hn⟩ := sortedAll_at s.heap its out.toArray
      have hm : ((xs.zip ds).mergeSort (PySem.W.dataLe false fun p : V × PyData => p.2)).map (·.2) = ds.mergeSort (PySem.W.dataLe false id) := by
        refine (PySem.W.sort_maps (s := PySem.W.dataLe false id) (fun p : V × PyData => p.2) (fun _ _ _ _ => rfl)).trans ?_
        rw [e2]
      have hv := hvs ho2
      refine ⟨.ref _, upd H (s.heap.objs.size + 1) (.lst (((xs.zip ds).mergeSort (PySem.W.dataLe false fun p : V × PyData => p.2)).map (·.1))), I.laid (t' := s.toks) (fun b o e => sortedAll_old e) (Nat.le_succ _) ⟨?_, out, n, hv, hn⟩, rfl, ?_⟩
      · rw [List.length_map, List.length_mergeSort, List.length_zip]; omega
      · exact q _ _ (List.mergeSort_perm _ _) hm (I.hok.fresh (Nat.le_succ _))
end
end L2

set_option Elab.async false
set_option linter.all false
set_option maxRecDepth 100000
/-! sorted(d), d.get(k, x): dicts of ours. -/
namespace L2
open PySem PySem.Spec PyProof.Rows PySem.Calls Eng PySem.W
section
variable {X : Cx} {pins : List (Addr × Obj)} {σ : St} {H : Hp} {s : Shared}
mutual
theorem nk_reads (I : Inv X pins σ H s) : ∀ (d : PyData) (v : V) (u : Value) (k : NestedKey), Dp X.K H v d → RelV v u → nk d = some k → Reads s.heap u d []
  | .none, _, _, k, h, r, e => by
    cases h
    cases r
    exact .none
  | .int i, _, _, k, h, r, e => by
    cases h
    obtain ⟨t, rfl⟩ := r
    exact .int i t
  | .tuple ds, _, _, k, h, r, e => by
    simp only [nk, Option.map_eq_some_iff] at e
    obtain ⟨ks, e, rfl⟩ := e
    cases h with
    | tup hs ha =>
      cases r
      obtain ⟨its, rv, ⟨o, ho, hc, n, hd⟩, _⟩ := I.tuple hs
      exact .tuple ho hc hd (nkAll_reads I ds _ its ks ha rv e)
  | .bool b, _, _, k, h, r, e => by simp [nk] at e
  | .str b, _, _, k, h, r, e => by simp [nk] at e
  | .list b, _, _, k, h, r, e => by simp [nk] at e
  | .dict b, _, _, k, h, r, e => by simp [nk] at e
theorem nkAll_reads (I : Inv X pins σ H s) : ∀ (ds : List PyData) (vs : List V) (us : List Value) (ks : List NestedKey), DpAll X.K H vs ds → Vals vs us → nkAll ds = some ks → ReadsAll s.heap us ds []
  | [], _, _, ks, h, r, e => by
    cases h
    cases r
    exact .nil
  | d :: ds, _, _, ks, h, r, e => by
    simp only [nkAll, Option.bind_eq_some_iff, Option.map_eq_some_iff] at e
    obtain ⟨k, e1, ks', e2, rfl⟩ := e
    cases h with
    | cons h1 h2 =>
      cases r with
      | cons r1 r2 =>
        have := ReadsAll.cons (nk_reads I d _ _ k h1 r1 e1) (nkAll_reads I ds _ _ ks' h2 r2 e2)
        exact this
end
end
/-- sorted(d) -/
def rSortE (K : PySem.W.Frag) : List V → Hp → VK → Prop := fun vs H Q => ∃ (a : Addr) (es : List (NestedKey × Addr × Value)) (kvs : List (NestedKey × PyData)) (Hf : Hp), Sub Hf H ∧ vs = [V.ref a] ∧ (a == sysModules) = false ∧ H a = some (.ext (DicPhi a es)) ∧ DicAt K Hf es kvs ∧ (es.map (·.1)).Nodup ∧ kvs.length ≤ sizeLine ∧
  AllAlike (kvs.map (·.1.data)) ∧ Sortable (kvs.map (·.1.data)) ∧ (∀ d ∈ kvs.map (·.1.data), d.depth ≤ 60) ∧
  ∀ (vs : List V) p, DpAll K Hf vs ((kvs.map (·.1.data)).mergeSort (PySem.W.dataLe false id)) → H p = none → Q (.ref p) (upd H p (.lst vs))
section
variable {X : Cx}
end
/-! ### d.get(k, x) -/
def IsDic (H : Hp) (x : V) : Prop := ∃ a es, x = .ref a ∧ H a = some (.ext (DicPhi a es))
def rGetE (K : PySem.W.Frag) : V → List V → Hp → VK → Prop := fun x xs H Q => ∃ a es kvs kd k Hf y z, Sub Hf H ∧ x = .ref a ∧ (a == sysModules) = false ∧ H a = some (.ext (DicPhi a es)) ∧ DicAt K Hf es kvs ∧ (es.map (·.1)).Nodup ∧ xs = [y, z] ∧ Dp K H y kd ∧ keyOfD kd = some k ∧ (∀ d, valN kvs k = some d → ∀ v, Dp K Hf v d → Q v H) ∧ (valN kvs k = none → Q z H)
section
variable {X : Cx}
def tDGetE (K : PySem.W.Frag) (to : TE) (t : TA) : TE := fun σ H Q => to σ H fun x H1 => IsDic H1 x ∧ t σ H1 fun xs H2 => rGetE K x xs H2 Q
end
end L2

set_option Elab.async false
set_option linter.all false
set_option maxRecDepth 100000
set_option maxHeartbeats 3200000
/-! Sets of tuples that hold tuples (keys of any depth up to 8); turned from HandS.TupSets' sets of tuples of ints, whose parts without keys are used as they stand. -/
namespace EngN
open PySem PySem.Spec PyProof.Rows L2
/-- the tuple at a is the key k -/
def IsT (P : Program) (w : World) (h : Heap) (k : NestedKey) (a : Addr) : Prop := NestedIs h k (.ref a) ∧ k.depth ≤ 8 ∧ noTx k = true
abbrev thash (P : Program) (w : World) (k : NestedKey) : Int := NestedKey.hash w k
theorem IsT.tup {P : Program} {w : World} {h : Heap} {k : NestedKey} {a : Addr} (x : IsT P w h k a) : ∃ o items n, h.get? a = some o ∧ o.cls = .type "tuple" ∧ o.data = .seq items n := by
  obtain ⟨x, _⟩ := x
  cases x with
  | tup h1 h2 h3 _ => exact ⟨_, _, _, h1, h2, h3⟩
theorem IsT.typeIs {P : Program} {w : World} {s : Shared} {k : NestedKey} {a : Addr} (x : IsT P w s.heap k a) : s.TypeIs (.ref a) "tuple" := by
  obtain ⟨o, _, _, h1, h2, _⟩ := x.tup
  exact ⟨o, h1, h2⟩
theorem IsT.inj {P : Program} {w : World} {h : Heap} {k k' : NestedKey} {a : Addr} (x : IsT P w h k a) (y : IsT P w h k' a) : k = k' := NestedIs.inj _ _ _ x.1 y.1
theorem IsT.at {P : Program} {w : World} {h h' : Heap} {k : NestedKey} {a : Addr} (x : IsT P w h k a) (hk : ∀ b o vs n, h.get? b = some o → o.data = .seq vs n → h'.get? b = some o) : IsT P w h' k a := ⟨NestedIs.at hk k _ x.1, x.2⟩
section
variable {P : Program} {w : World} {A : Around} {E : Value → Shared → Prop} {s : Shared}
mutual
/-- no value in the key is of a class statement -/
theorem ofAClass_key : ∀ (k : NestedKey) (v : Value) (n : Nat) (A : Around) (s : Shared) (Q : Bool → Shared → Prop), NestedIs s.heap k v → k.depth ≤ n → Q false s → wpAny (model P w) A (ofAClassStatement n v) Q E s
  | .none, _, n, A, s, Q, x, _, h => by cases x; cases n <;> exact wpAny_pure h
  | .num i, _, n, A, s, Q, x, _, h => by cases x <;> cases n <;> exact wpAny_pure h
  | .text y, _, n, A, s, Q, x, _, h => by cases x; cases n <;> exact wpAny_pure h
  | .tup ks, _, n, A, s, Q, x, hn, h => by
    cases x with
    | @tup a o vs m _ hg hc hd hk =>
      simp only [NestedKey.depth] at hn
      cases n with
      | zero => omega
      | succ n =>
        have hT : s.TypeIs (.ref a) "tuple" := ⟨o, hg, hc⟩
        unfold ofAClassStatement
        refine wpAny_bind (wpAny_typeOf hT ?_)
        dsimp only
        have e : (("tuple" : String) == "tuple") = true := by decide
        simp only [e, if_true, Bool.not_true, Bool.false_eq_true, if_false]
        try refine wpAny_bind (wpAny_pure ?_)
        try simp only [Bool.not_true, Bool.false_eq_true, if_false]
        show wpAny _ _ (seqItems? (.ref a) >>= _) _ _ s
        refine wpAny_bind (wpAny_seqItems hg hd ?_)
        dsimp only
        refine wpAny_bind ?_
        show wpAny _ _ (forIn vs _ _) _ _ s
        rw [← Array.forIn_toList]
        refine ofAClass_keys ks vs.toList n A s _ hk (by omega) ?_
        exact wpAny_pure h
theorem ofAClass_keys : ∀ (ks : List NestedKey) (vs : List Value) (n : Nat) (A : Around) (s : Shared) (Q : (Option Bool × Unit) → Shared → Prop), NestedAll s.heap ks vs → NestedKey.depthAll ks ≤ n → Q (none, ()) s →
    wpAny (model P w) A (forIn vs ((none, ()) : Option Bool × Unit) fun y r => do
      let b ← ofAClassStatement n y
      if b = true then pure (ForInStep.done (some true, ())) else pure (ForInStep.yield (none, ()))) Q E s
  | [], _, n, A, s, Q, x, _, h => by cases x; exact wpAny_pure h
  | k :: ks, _, n, A, s, Q, x, hn, h => by
    cases x with
    | cons x1 x2 =>
      simp only [NestedKey.depthAll] at hn
      rw [List.forIn_cons]
      refine wpAny_bind (wpAny_bind (ofAClass_key k _ n A s _ x1 (by omega) ?_))
      simp only [Bool.false_eq_true, if_false]
      refine wpAny_pure ?_
      exact ofAClass_keys ks _ n A s Q x2 (by omega) h
end
mutual
/-- the key's hash is by value: no texts in it -/
theorem hashBy_key : ∀ (k : NestedKey) (v : Value) (n : Nat) (A : Around) (s : Shared) (Q : Bool → Shared → Prop), NestedIs s.heap k v → noTx k = true → k.depth ≤ n → Q true s → wpAny (model P w) A (hashByValue n v) Q E s
  | .none, _, n, A, s, Q, x, _, _, h => by cases x; cases n <;> exact wpAny_pure h
  | .num i, _, n, A, s, Q, x, _, _, h => by cases x <;> cases n <;> exact wpAny_pure h
  | .text y, _, n, A, s, Q, x, hx, _, h => by simp [noTx] at hx
  | .tup ks, _, n, A, s, Q, x, hx, hn, h => by
    cases x with
    | @tup a o vs m _ hg hc hd hk =>
      simp only [NestedKey.depth] at hn
      cases n with
      | zero => omega
      | succ n =>
        have hT : s.TypeIs (.ref a) "tuple" := ⟨o, hg, hc⟩
        unfold hashByValue
        refine wpAny_bind (wpAny_specialOf hT F.slot_tuple_hash.lookup ?_)
        show wpAny _ _ (seqItems? (.ref a) >>= _) _ _ s
        refine wpAny_bind (wpAny_seqItems hg hd ?_)
        refine wpAny_bind ?_
        show wpAny _ _ (forIn vs _ _) _ _ s
        rw [← Array.forIn_toList]
        refine hashBy_keys ks vs.toList n A s _ hk (by simpa [noTx] using hx) (by omega) ?_
        exact wpAny_pure h
theorem hashBy_keys : ∀ (ks : List NestedKey) (vs : List Value) (n : Nat) (A : Around) (s : Shared) (Q : (Option Bool × Unit) → Shared → Prop), NestedAll s.heap ks vs → noTxAll ks = true → NestedKey.depthAll ks ≤ n → Q (none, ()) s →
    wpAny (model P w) A (forIn vs ((none, ()) : Option Bool × Unit) fun y r => do
      let b ← hashByValue n y
      if (!b) = true then pure (ForInStep.done (some false, ())) else pure (ForInStep.yield (none, ()))) Q E s
  | [], _, n, A, s, Q, x, _, _, h => by cases x; exact wpAny_pure h
  | k :: ks, _, n, A, s, Q, x, hx, hn, h => by
    cases x with
    | cons x1 x2 =>
      simp only [NestedKey.depthAll] at hn
      simp only [noTxAll, Bool.and_eq_true] at hx
      rw [List.forIn_cons]
      refine wpAny_bind (wpAny_bind (hashBy_key k _ n A s _ x1 hx.1 (by omega) ?_))
      simp only [Bool.not_true, Bool.false_eq_true, if_false]
      refine wpAny_pure ?_
      exact hashBy_keys ks _ n A s Q x2 hx.2 (by omega) h
end
theorem hash_is {k : NestedKey} {a : Addr} {Q : Int → Shared → Prop} (hu : A.units + 8 < cLine) (hk : IsT P w s.heap k a) (h : Q (thash P w k) { s with toks := s.toks + k.draws }) : wpAny (model P w) A (pyHash (.ref a)) Q E s :=
  pyHash_key _ _ _ _ _ hk.1 (by have := hk.2.1; omega) h
theorem eq_is {x y : NestedKey} {a b : Addr} {Q : Bool → Shared → Prop} (hu : A.units + 8 < cLine) (hx : IsT P w s.heap x a) (hy : IsT P w s.heap y b) (h : Q (decide (x = y)) s) : wpAny (model P w) A (eqBool (.ref a) (.ref b)) Q E s :=
  eqAt_key x y A s _ _ hx.1 hy.1 (by have := hx.2.1; omega) _ _ _ _ (by rw [← NestedKey.decide_eq]; exact h)
theorem quiet_is {k : NestedKey} {a : Addr} {Q : Bool → Shared → Prop} (hk : IsT P w s.heap k a) (h : Q true s) : wpAny (model P w) A (eqIsQuiet 8 (.ref a)) Q E s := quiet_key k _ 8 s hk.1 hk.2.1 A E Q h
theorem ofA_is {k : NestedKey} {b : Addr} {Q : Bool → Shared → Prop} (hk : IsT P w s.heap k b) (h : Q false s) : wpAny (model P w) A (ofAClassStatement 8 (.ref b)) Q E s := ofAClass_key k _ 8 A s Q hk.1 hk.2.1 h
theorem hashBy_is {k : NestedKey} {b : Addr} {Q : Bool → Shared → Prop} (hk : IsT P w s.heap k b) (h : Q true s) : wpAny (model P w) A (hashByValue 8 (.ref b)) Q E s := hashBy_key k _ 8 A s Q hk.1 hk.2.2 hk.2.1 h
end
section
variable {P : Program} {w : World} {A : Around} {E : Value → Shared → Prop} {s : Shared}
/-- a search among tuples shows nothing -/
theorem seen_tup {k : NestedKey} {b : Addr} {Q : Bool → Shared → Prop} (hk : IsT P w s.heap k b) {ys : List Value} (hy : ∀ y ∈ ys, ∃ k' c, y = Value.ref c ∧ IsT P w s.heap k' c) (h : Q false s) :
    wpAny (model P w) A (searchCouldBeSeen (.ref b) ys) Q E s := by
  unfold searchCouldBeSeen
  refine wpAny_bind ?_
  refine wpAny_forIn_list _ (fun rest r s' => r.1 = none ∧ s' = s ∧ ∀ y ∈ rest, ∃ k' c, y = Value.ref c ∧ IsT P w s.heap k' c) _ ?_ ?_ _ _ ⟨rfl, rfl, hy⟩
  · rintro v rest r s' ⟨hr, rfl, hall⟩
    obtain ⟨k', c, rfl, hc⟩ := hall v List.mem_cons_self
    have rest' : ∀ y ∈ rest, ∃ k' c, y = Value.ref c ∧ IsT P w s'.heap k' c := fun u hu' => hall u (List.mem_cons_of_mem _ hu')
    dsimp only
    by_cases hv : (b == c || (carriedByValue (.ref b) && carriedByValue (.ref c))) = true
    · refine wp_if_pos hv ?_
      exact wpAny_pure ⟨rfl, rfl, rest'⟩
    · refine wp_if_neg hv ?_
      refine wpAny_bind (quiet_is hk ?_)
      simp only [Bool.not_true, Bool.false_eq_true, if_false]
      refine wpAny_bind (quiet_is hc ?_)
      simp only [Bool.not_true, Bool.false_eq_true, if_false]
      refine wpAny_bind (ofA_is hk ?_)
      simp only [Bool.false_eq_true, if_false]
      refine wpAny_bind (ofA_is hc ?_)
      simp only [Bool.false_eq_true, if_false]
      exact wpAny_pure ⟨rfl, rfl, rest'⟩
  · rintro ⟨r1, r2⟩ s' ⟨hr, rfl, _⟩
    simp only at hr
    subst hr
    exact wpAny_pure h
/-! ### the set of tuples -/
def rowsOf (P : Program) (w : World) (L : List (Addr × NestedKey)) : List (Int × Value) := L.map fun p => (thash P w p.2, Value.ref p.1)
structure SetTR (P : Program) (w : World) (h : Heap) (a : Addr) (L : List (Addr × NestedKey)) (es : Array (Int × Value)) (ep : Nat) (t : SetTable) : Prop where
  ob : ∃ o, h.get? a = some o ∧ o.ExactSet ∧ o.data = .set es ep t
  rows : es.toList = rowsOf P w L
  tab : TabOk t (L.map fun p => thash P w p.2)
  nd : (L.map (·.2)).Nodup
  tup : ∀ p ∈ L, IsT P w h p.2 p.1
  plain : t.plain = true
  led : w.params.followText "set-order" = true ∨ t.led = true
  room : L.length * 5 < t.mask * 3
  few : L.length < 64
variable {a : Addr} {L : List (Addr × NestedKey)} {es : Array (Int × Value)} {ep : Nat} {t : SetTable}
theorem SetTR.size (R : SetTR P w s.heap a L es ep t) : es.size = L.length := by
  have h := congrArg List.length R.rows
  unfold rowsOf at h
  rw [Array.length_toList, List.length_map] at h
  exact h
theorem SetTR.fits (R : SetTR P w s.heap a L es ep t) : t.fits es.size = true := by
  have h1 := R.tab.sz
  rw [List.length_map] at h1
  have h2 := R.size
  have h3 := R.room
  unfold SetTable.fits SetTable.fill
  rw [R.tab.dm, Bool.and_eq_true, beq_iff_eq, decide_eq_true_eq]
  show t.place.size = es.size ∧ t.place.size + 0 ≤ t.mask
  omega
theorem SetTR.entry (R : SetTR P w s.heap a L es ep t) {i : Nat} {p : Addr × NestedKey} (h : L[i]? = some p) : es[i]? = some (thash P w p.2, Value.ref p.1) := by
  rw [← Array.getElem?_toList, R.rows]
  unfold rowsOf
  rw [List.getElem?_map, h] <;> rfl
theorem SetTR.gw (R : SetTR P w s.heap a L es ep t) : ¬ t.gaveWay = true := by
  unfold SetTable.gaveWay
  rw [mask_odd R.tab.mok]
  decide

/-- THE SEARCH: from the c-th step of the way on -/
theorem search_from (R : SetTR P w s.heap a L es ep t) {x : Addr} {k : NestedKey} (hx : IsT P w s.heap k x) (hu : A.units + 8 < cLine) {K : Nat} (hKf : K < 10 * SetTable.turns t.mask)
    (hK : way t.mask (thash P w k) K ∉ t.place.toList) (hKb : ∀ c, c < K → way t.mask (thash P w k) c ∈ t.place.toList) {Q : SetFound → Shared → Prop}
    (hin : k ∈ L.map (·.2) → Q (.there none) s) (hout : k ∉ L.map (·.2) → Q (.free (way t.mask (thash P w k) K) false) s) :
    ∀ (f c : Nat) (stand : Option SetTable.Probe), stand.getD (t.probeStart (thash P w k)) = nth t.mask (runAt t.mask (SetTable.bits (thash P w k) % (t.mask + 1)) (SetTable.bits (thash P w k))) c → c ≤ K → K - c < f →
      (∀ (i : Nat) p, L[i]? = some p → p.2 = k → ∃ c', c ≤ c' ∧ c' < K ∧ t.place.toList[i]? = some (way t.mask (thash P w k) c')) →
      wpAny (model P w) A (setSearchFrom a (.ref x) (thash P w k) true f stand) Q E s
  | 0, c, stand, _, _, hf, _ => absurd hf (Nat.not_lt_zero _)
  | f + 1, c, stand, hst, hc, hf, hre => by
    obtain ⟨o, ho, hex, hd⟩ := R.ob
    rw [setSearchFrom_succ]
    refine wpAny_bind (wpAny_setState_of ho hd R.fits ?_)
    dsimp only
    refine wp_if_neg R.gw ?_
    try refine wpAny_bind (wpAny_pure ?_)
    have hnd : (nth t.mask (runAt t.mask (SetTable.bits (thash P w k) % (t.mask + 1)) (SetTable.bits (thash P w k))) c).dummy = none := by
      have key : ∀ (n : Nat) (p : SetTable.Probe), p.dummy = none → (nth t.mask p n).dummy = none := by
        intro n
        induction n with
        | zero => intro p h; exact h
        | succ n ih =>
          intro p h
          refine ih (adv t.mask p) ?_
          unfold adv
          split <;> exact h
      exact key c _ rfl
    have sh : ∀ q, nth t.mask (nth t.mask (runAt t.mask (SetTable.bits (thash P w k) % (t.mask + 1)) (SetTable.bits (thash P w k))) c) q = nth t.mask (runAt t.mask (SetTable.bits (thash P w k) % (t.mask + 1)) (SetTable.bits (thash P w k))) (c + q) := fun q => (nth_add t.mask c _ q).symm
    have e1 : ∀ q, (nth t.mask (nth t.mask (runAt t.mask (SetTable.bits (thash P w k) % (t.mask + 1)) (SetTable.bits (thash P w k))) c) q).j = way t.mask (thash P w k) (c + q) := fun q => congrArg SetTable.Probe.j (sh q)
    have spec := go_spec t R.tab.ris R.tab.dm (fun i => (es[i]?.map (·.1)).getD 0) (thash P w k) (10 * SetTable.turns t.mask) (K - c) _ hnd (by omega)
      (fun q hq => by rw [e1]; exact hKb (c + q) (by omega)) (by rw [e1, show c + (K - c) = K by omega]; exact hK)
    have hashAt : ∀ (i : Nat) p, L[i]? = some p → (fun i => (es[i]?.map (·.1)).getD 0) i = thash P w p.2 := fun i p hp => by
      show (es[i]?.map (·.1)).getD 0 = _
      rw [R.entry hp] <;> rfl
    rcases spec with ⟨q, i, hq, hi, hh, hno, hpr⟩ | ⟨hno, hpr⟩
    · -- a candidate
      have hpr' : t.probe (fun i => (es[i]?.map (·.1)).getD 0) (thash P w k) (stand.getD (t.probeStart (thash P w k))) = some (.candidate (way t.mask (thash P w k) (c + q)) i (nth t.mask (runAt t.mask (SetTable.bits (thash P w k) % (t.mask + 1)) (SetTable.bits (thash P w k))) (c + (q + 1)))) := by
        rw [hst, ← e1, ← sh]
        exact hpr
      rw [hpr']
      dsimp only
      rw [e1] at hi
      -- the entry
      have hil : i < L.length := by
        have h1 : i < t.place.toList.length := (List.getElem?_eq_some_iff.mp hi).1
        have h2 := R.tab.sz
        rw [List.length_map] at h2
        rw [Array.length_toList] at h1
        omega
      have hp : L[i]? = some L[i] := List.getElem?_eq_getElem hil
      generalize hpe : L[i] = p at hp
      have hmem : p ∈ L := List.mem_of_getElem? hp
      have hpt := R.tup p hmem
      have rest : wpAny (model P w) A (searchRest a (.ref x) (thash P w k) true f es t (way t.mask (thash P w k) (c + q)) i (nth t.mask (runAt t.mask (SetTable.bits (thash P w k) % (t.mask + 1)) (SetTable.bits (thash P w k))) (c + (q + 1)))) Q E s := by
        unfold searchRest
        rw [R.entry hp]
        dsimp only
        refine wpAny_bind (wpAny_holding (eq_is hu hpt hx ?_))
        refine wpAny_bind (wpAny_setState_of ho hd R.fits ?_)
        dsimp only
        by_cases hkk : p.2 = k
        · refine wp_if_pos (by simp [hkk]) ?_
          refine wpAny_pure (hin ?_)
          exact List.mem_map.mpr ⟨p, hmem, hkk⟩
        · refine wp_if_neg (by simp [hkk]) ?_
          try refine wpAny_bind (wpAny_pure ?_)
          rw [sameMem]
          dsimp only
          have hsl : t.slot (way t.mask (thash P w k) (c + q)) = .live i := slot_live R.tab.ris hi
          simp only [if_true, hsl, R.entry hp]
          refine wpAny_bind (wpAny_isSame_ref_self (wpAny_bind (wpAny_pure ?_)))
          simp only [if_true]
          refine wp_if_neg (by simp [hkk]) ?_
          refine search_from R hx hu hKf hK hKb hin hout f (c + (q + 1)) _ rfl (by omega) (by omega) fun i0 p0 h0 hk0 => ?_
          obtain ⟨c', a1, a2, a3⟩ := hre i0 p0 h0 hk0
          refine ⟨c', ?_, a2, a3⟩
          -- it isn't passed
          rcases Nat.lt_or_ge c' (c + q) with z | z
          · exfalso
            refine hno (c' - c) i0 (by omega) (by rw [e1, show c + (c' - c) = c' by omega]; exact a3) ?_
            exact (hashAt i0 p0 h0).trans (congrArg (thash P w) hk0)
          · rcases Nat.lt_or_ge (c + q) c' with y | y
            · omega
            · exfalso
              have ec : c' = c + q := Nat.le_antisymm y z
              rw [ec] at a3
              have s0 := slot_live R.tab.ris a3
              rw [hsl] at s0
              injection s0 with s0
              rw [← s0, hp] at h0
              exact hkk ((congrArg Prod.snd (Option.some.inj h0)).trans hk0)
      by_cases hl : t.led = true
      · refine wp_if_neg (by simp [hl]) ?_
        try refine wpAny_bind (wpAny_pure ?_)
        exact rest
      · refine wp_if_pos (by simp [hl]) ?_
        refine wpAny_bind (seen_tup hx (fun y hy => ?_) ?_)
        · obtain ⟨e, he, ee⟩ := List.mem_map.mp hy
          have he1 : e ∈ es ∧ e.1 = thash P w k := by simpa using he
          have he2 : e ∈ es.toList := by simpa using he1.1
          rw [R.rows] at he2
          obtain ⟨p2, hp2, e2⟩ := List.mem_map.mp he2
          refine ⟨p2.2, p2.1, ?_, R.tup p2 hp2⟩
          rw [← ee, ← e2]
        · refine wp_if_neg (by decide) ?_
          try refine wpAny_bind (wpAny_pure ?_)
          exact rest
    · -- the empty slot
      have hpr' : t.probe (fun i => (es[i]?.map (·.1)).getD 0) (thash P w k) (stand.getD (t.probeStart (thash P w k))) = some (.empty (way t.mask (thash P w k) K) none) := by
        have e2 : way t.mask (thash P w k) K = (nth t.mask (nth t.mask (runAt t.mask (SetTable.bits (thash P w k) % (t.mask + 1)) (SetTable.bits (thash P w k))) c) (K - c)).j := by
          rw [e1, show c + (K - c) = K by omega]
        rw [hst, e2]
        exact hpr
      rw [hpr']
      dsimp only
      refine wpAny_pure (hout fun hm => ?_)
      obtain ⟨p0, h0, hk0⟩ := List.mem_map.mp hm
      obtain ⟨i0, hi0, e0⟩ := List.getElem_of_mem h0
      have h00 : L[i0]? = some p0 := by rw [List.getElem?_eq_getElem hi0, e0]
      obtain ⟨c', a1, a2, a3⟩ := hre i0 p0 h00 hk0
      refine hno (c' - c) i0 (by omega) (by rw [e1, show c + (c' - c) = c' by omega]; exact a3) ?_
      exact (hashAt i0 p0 h00).trans (congrArg (thash P w) hk0)

/-- the search as adding asks for it -/
theorem search_at (R : SetTR P w s.heap a L es ep t) {x : Addr} {k : NestedKey} (hx : IsT P w s.heap k x) (hu : A.units + 8 < cLine) {Q : SetFound → Shared → Prop}
    (hin : k ∈ L.map (·.2) → Q (.there none) s)
    (hout : ∀ K, k ∉ L.map (·.2) → way t.mask (thash P w k) K ∉ t.place.toList → (∀ c, c < K → way t.mask (thash P w k) c ∈ t.place.toList) → Q (.free (way t.mask (thash P w k) K) false) s) :
    wpAny (model P w) A (setSearch a (.ref x) (thash P w k) true) Q E s := by
  have hroom := R.room
  obtain ⟨K, hKf, hK, hKb⟩ := R.tab.first (by rw [List.length_map]; omega) (thash P w k)
  have hbig : K < 100000 := by
    have : 10 * SetTable.turns t.mask ≤ 1420 := by
      unfold SetTable.turns
      rcases R.tab.mok with e | e | e <;> omega
    omega
  unfold setSearch
  refine search_from R hx hu hKf hK hKb hin (fun hn => hout K hn hK hKb) 100000 0 none rfl (Nat.zero_le _) (by omega) fun i p hp hk => ?_
  have hi : (L.map fun p => thash P w p.2)[i]? = some (thash P w k) := by rw [List.getElem?_map, hp, ← hk] <;> rfl
  have hil : i < t.place.toList.length := by
    have h1 : i < L.length := (List.getElem?_eq_some_iff.mp hp).1
    have h2 := R.tab.sz
    rw [List.length_map] at h2
    rw [Array.length_toList]
    omega
  have hj := List.getElem?_eq_getElem hil
  obtain ⟨c, hc, e⟩ := R.tab.before hK hi hj
  exact ⟨c, Nat.zero_le _, hc, by rw [hj, e]⟩
end
section
variable {P : Program} {w : World} {A : Around} {E : Value → Shared → Prop} {s : Shared}
theorem isT_same {h h' : Heap} {k : NestedKey} {a b : Addr} {o : Obj} {es : Array (Int × Value)} {ep : Nat} {t : SetTable} (hb : IsT P w h k b) (ho : h.get? a = some o) (hd : o.data = .set es ep t) (hs : Heap.SameBut a h h') : IsT P w h' k b :=
  hb.at fun c o' vs n e hc => by
    refine (hs.2 c fun z => ?_).trans e
    subst z
    rw [ho] at e
    cases e
    rw [hd] at hc
    cases hc
theorem rows_put (L : List (Addr × NestedKey)) (p : Nat) (x : Addr) (k : NestedKey) : rowsOf P w (L.take p ++ (x, k) :: L.drop p) = (rowsOf P w L).take p ++ (thash P w k, Value.ref x) :: (rowsOf P w L).drop p := by
  unfold rowsOf
  rw [List.map_append, List.map_cons, List.map_take, List.map_drop]
theorem order_rows (L : List (Addr × NestedKey)) (es : Array (Int × Value)) (order : Array Nat) (hr : es.toList = rowsOf P w L) (hp : order.toList.Perm (List.range L.length)) :
    ∃ L2, (order.filterMap (es[·]?)).toList = rowsOf P w L2 ∧ L2.Perm L ∧ (L2.map fun p => thash P w p.2) = order.toList.map fun i => (es.map (·.1)).getD i 0 := by
  have hsz : es.size = L.length := by
    have h := congrArg List.length hr
    unfold rowsOf at h
    rw [Array.length_toList, List.length_map] at h
    exact h
  have ent : ∀ i (h : i < L.length), es[i]? = some (thash P w (L[i]).2, Value.ref (L[i]).1) := fun i h => by
    rw [← Array.getElem?_toList, hr]
    unfold rowsOf
    rw [List.getElem?_map, List.getElem?_eq_getElem h] <;> rfl
  have key : ∀ l : List Nat, (∀ i ∈ l, i < L.length) → ∃ L2 : List (Addr × NestedKey), l.filterMap (fun i => es[i]?) = rowsOf P w L2 ∧ L2 = l.filterMap (fun i => L[i]?) ∧ (L2.map fun p => thash P w p.2) = l.map fun i => (es.map (·.1)).getD i 0 := by
    intro l
    induction l with
    | nil => intro _; exact ⟨[], rfl, rfl, rfl⟩
    | cons i l ih =>
      intro hl
      have hi := hl i List.mem_cons_self
      obtain ⟨L2, e1, e2, e3⟩ := ih fun j hj => hl j (List.mem_cons_of_mem _ hj)
      refine ⟨L[i] :: L2, ?_, ?_, ?_⟩
      · rw [List.filterMap_cons_some (ent i hi), e1] <;> rfl
      · rw [List.filterMap_cons_some (List.getElem?_eq_getElem hi), e2]
      · rw [List.map_cons, List.map_cons, e3]
        have hi2 : i < (es.map (·.1)).size := by rw [Array.size_map, hsz]; exact hi
        have e4 : (es.map (·.1)).getD i 0 = thash P w (L[i]).2 := by
          have e5 : (es.map (·.1))[i]? = some (thash P w (L[i]).2) := by rw [Array.getElem?_map, ent i hi] <;> rfl
          simp [Array.getD_eq_getD_getElem?, e5]
        rw [e4]
  obtain ⟨L2, e1, e2, e3⟩ := key order.toList fun i hi => List.mem_range.mp (hp.mem_iff.mp hi)
  refine ⟨L2, by first | (rw [Array.toList_filterMap]; exact e1) | simpa using e1, ?_, e3⟩
  have h1 : L2.Perm ((List.range L.length).filterMap fun i => L[i]?) := by
    rw [e2]
    exact hp.filterMap _
  have h2 : (List.range L.length).filterMap (fun i => L[i]?) = L := by
    have key2 : ∀ n, n ≤ L.length → (List.range n).filterMap (fun i => L[i]?) = L.take n := by
      intro n
      induction n with
      | zero => intro _; rfl
      | succ n ih =>
        intro hn
        have hlt : n < L.length := hn
        rw [List.range_succ, List.filterMap_append, ih (Nat.le_of_lt hlt), List.take_succ, List.getElem?_eq_getElem hlt]
        rw [List.filterMap_cons_some (List.getElem?_eq_getElem hlt)] <;> rfl
    rw [key2 L.length (Nat.le_refl _), List.take_length]
  rw [h2] at h1
  exact h1

variable {a : Addr} {L : List (Addr × NestedKey)} {es : Array (Int × Value)} {ep : Nat} {t : SetTable}
/-- the table laid anew, larger -/
theorem relay_at {o : Obj} (ho : s.heap.get? a = some o) (hex : o.ExactSet) (hd : o.data = .set es ep t) (hrows : es.toList = rowsOf P w L) (hsz : t.place.size = es.size) (hdm : t.dummies = #[]) (hfl : es.size ≤ t.mask)
    (nd : (L.map (·.2)).Nodup) (tup : ∀ p ∈ L, IsT P w s.heap p.2 p.1) (pl : t.plain = true) (ld : w.params.followText "set-order" = true ∨ t.led = true) (few : L.length < 64) {wanted M : Nat}
    (hw : SetTable.sizeAbove wanted - 1 = M) (hM : MaskOk M) (hw2 : SetTable.sizeAbove wanted ≤ 128) (hn : L.length * 5 < M * 3) {Q : Unit → Shared → Prop}
    (hQ : ∀ h' L' es' ep' t', Heap.SameBut a s.heap h' → SetTR P w h' a L' es' ep' t' → L'.Perm L → Q () { s with heap := h' }) : wpAny (model P w) A (setRelay a wanted) Q E s := by
  have hsl : es.size = L.length := by
    have h := congrArg List.length hrows
    unfold rowsOf at h
    rw [Array.length_toList, List.length_map] at h
    exact h
  have hfits : t.fits es.size = true := by
    unfold SetTable.fits SetTable.fill
    rw [hdm, Bool.and_eq_true, beq_iff_eq, decide_eq_true_eq]
    show t.place.size = es.size ∧ t.place.size + 0 ≤ t.mask
    omega
  obtain ⟨t', order, e, hp, T, em, el, ep', ed⟩ := relaid_ok t (hs := es.map (·.1)) (wanted := wanted) hw hM (by rw [Array.size_map, hsl]; omega)
  rw [Array.size_map, hsl] at hp
  obtain ⟨L2, r1, r2, r3⟩ := order_rows L es order hrows hp
  rw [← r3] at T
  have hs2 : (order.filterMap (es[·]?)).size = es.size := by
    have h := congrArg List.length r1
    unfold rowsOf at h
    rw [Array.length_toList, List.length_map, r2.length_eq] at h
    rw [h, hsl]
  rw [setRelay_eq]
  refine wpAny_bind (wpAny_setState_of ho hd hfits ?_)
  dsimp only
  refine wp_if_neg (by rw [sizeLine_eq]; omega) ?_
  try refine wpAny_bind (wpAny_pure ?_)
  rw [e]
  dsimp only
  refine wpAny_bind ?_
  refine wp_if_neg (by rw [hs2]; simp) ?_
  try refine wpAny_bind (wpAny_pure ?_)
  refine wpAny_pure ?_
  dsimp only
  refine wpAny_storeSet_of ho hd ?_ (by rw [hs2, hsl, sizeLine_eq]; omega)
  have sb : Heap.SameBut a s.heap (s.heap.update a (Obj.putSet (order.filterMap (es[·]?)) t')) := Heap.SameBut.update ..
  refine hQ _ L2 (order.filterMap (es[·]?)) (ep + 1) t' sb ?_ r2
  refine ⟨⟨_, store_at ho hd, ⟨hex.1, hex.2.1, hex.2.2⟩, rfl⟩, r1, T, ?_, fun p hpm => isT_same (tup p (r2.mem_iff.mp hpm)) ho hd sb, by rw [ep']; exact pl, by rw [el]; exact ld, ?_, by rw [r2.length_eq]; exact few⟩
  · exact (r2.map (·.2)).nodup_iff.mpr nd
  · rw [r2.length_eq, em]
    exact hn

/-- ADDING -/
theorem add_at (R : SetTR P w s.heap a L es ep t) {x : Addr} {k : NestedKey} (hx : IsT P w s.heap k x) (hu : A.units + 8 < cLine) (hfew : L.length + 1 < 64) {Q : Bool → Shared → Prop}
    (hQ : ∀ b h' L' es' ep' t', Heap.SameBut a s.heap h' → SetTR P w h' a L' es' ep' t' → (k ∈ L.map (·.2) → L' = L) → (k ∉ L.map (·.2) → L'.Perm ((x, k) :: L)) → Q b { s with heap := h' }) :
    wpAny (model P w) A (setAddHashed a (.ref x) (thash P w k)) Q E s := by
  obtain ⟨o, ho, hex, hd⟩ := R.ob
  have hsl := R.size
  have hroom := R.room
  unfold setAddHashed
  refine wpAny_holding ?_
  rw [show (100000 : Nat) = 99999 + 1 from rfl, setAddHashedIn_succ]
  refine wpAny_bind (wpAny_setState_of ho hd R.fits ?_)
  dsimp only
  refine wp_if_neg (by simp [byScan, Value.scannable]) ?_
  try refine wpAny_bind (wpAny_pure ?_)
  refine wpAny_bind (search_at R hx hu (fun hm => ?_) fun K hm hK hb => ?_)
  · dsimp only
    exact wpAny_pure (hQ false s.heap L es ep t (Heap.SameBut.refl a s.heap) R (fun _ => rfl) fun z => absurd hm z)
  · dsimp only
    refine wpAny_bind (wpAny_setState_of ho hd R.fits ?_)
    dsimp only
    obtain ⟨q1, q2, q3, q4, q5, q6, q7, q8, q9⟩ := R.tab.put hK hb
    have hp1 : (t.put (way t.mask (thash P w k) K)).1.plain = true := by rw [q6]; exact R.plain
    generalize hpt : t.put (way t.mask (thash P w k) K) = pt at q1 q3 q4 q5 q6 q7 q8 q9 hp1 ⊢
    obtain ⟨t1, p⟩ := pt
    dsimp only at q1 q3 q4 q5 q6 q7 q8 q9 hp1 ⊢
    subst q1
    first
      | (refine wpAny_bind ?_; refine wp_if_pos hp1 ?_; refine hashBy_is hx ?_)
      | refine wp_if_pos hp1 (wpAny_bind (hashBy_is hx ?_))
    simp only [if_true]
    have hin : (SetTable.insertAt es (SetTable.below t.place (way t.mask (thash P w k) K)) (thash P w k, Value.ref x)).toList = rowsOf P w (L.take (SetTable.below t.place (way t.mask (thash P w k) K)) ++ (x, k) :: L.drop (SetTable.below t.place (way t.mask (thash P w k) K))) := by
      rw [SetTable.toList_insertAt, rows_put, R.rows]
    generalize hpp : SetTable.below t.place (way t.mask (thash P w k) K) = p at q2 q3 hin ⊢
    have pm := put_perm L p (x, k)
    have hlen : (L.take p ++ (x, k) :: L.drop p).length = L.length + 1 := pm.length_eq
    have hhs : (L.take p ++ (x, k) :: L.drop p).map (fun p => thash P w p.2) = (L.map fun p => thash P w p.2).take p ++ thash P w k :: (L.map fun p => thash P w p.2).drop p := by
      rw [List.map_append, List.map_cons, List.map_take, List.map_drop]
    rw [← hhs] at q3
    have nd1 : ((L.take p ++ (x, k) :: L.drop p).map (·.2)).Nodup := by
      refine (pm.map (·.2)).nodup_iff.mpr ?_
      rw [List.map_cons]
      exact List.nodup_cons.mpr ⟨hm, R.nd⟩
    have hes : (SetTable.insertAt es p (thash P w k, Value.ref x)).size = L.length + 1 := by
      have h := congrArg List.length hin
      unfold rowsOf at h
      rw [Array.length_toList, List.length_map, hlen] at h
      exact h
    generalize SetTable.insertAt es p (thash P w k, Value.ref x) = es1 at hin hes ⊢
    generalize L.take p ++ (x, k) :: L.drop p = L1 at pm hlen q3 nd1 hin
    refine wpAny_bind (wpAny_storeSet_of ho hd ?_ (by rw [hes, sizeLine_eq]; omega))
    have sb : Heap.SameBut a s.heap (s.heap.update a (Obj.putSet es1 t1)) := Heap.SameBut.update ..
    have ho1 := store_at (es' := es1) (t' := t1) ho hd
    generalize s.heap.update a (Obj.putSet es1 t1) = h1 at sb ho1 ⊢
    have tup1 : ∀ p ∈ L1, IsT P w h1 p.2 p.1 := fun p hp => by
      rcases List.mem_cons.mp (pm.mem_iff.mp hp) with e | hp
      · rw [e]; exact isT_same hx ho hd sb
      · exact isT_same (R.tup p hp) ho hd sb
    have ld1 : w.params.followText "set-order" = true ∨ t1.led = true := by rw [q5]; exact R.led
    by_cases hf : t1.tooFull = true
    · first
        | (refine wpAny_bind ?_; refine wp_if_pos (by simp [hf]) ?_)
        | (refine wp_if_pos (by simp [hf]) ?_; refine wpAny_bind ?_)
      have hfull : (L.length + 1) * 5 ≥ t1.mask * 3 := by
        have h := hf
        unfold SetTable.tooFull at h
        rw [decide_eq_true_eq, q9, List.length_map] at h
        exact h
      rw [hsl]
      have hsz1 : t1.place.size = es1.size := by
        have h := q3.sz
        rw [List.length_map, hlen] at h
        rw [h, hes]
      have cases2 : (t.mask = 7 ∧ L.length = 4) ∨ (t.mask = 31 ∧ L.length = 18) := by
        rcases R.tab.mok with e | e | e
        · left; rw [q4, e] at hfull; rw [e] at hroom; exact ⟨e, by omega⟩
        · right; rw [q4, e] at hfull; rw [e] at hroom; exact ⟨e, by omega⟩
        · exfalso; rw [q4, e] at hfull; omega
      have go : ∀ M, SetTable.sizeAbove (SetTable.grown (L.length + 1)) - 1 = M → MaskOk M → SetTable.sizeAbove (SetTable.grown (L.length + 1)) ≤ 128 → (L.length + 1) * 5 < M * 3 →
          wpAny (model P w) A (setRelay a (SetTable.grown (L.length + 1))) (fun _ s' => wpAny (model P w) A (pure true) Q E s') E { s with heap := h1 } := fun M h1' h2' h3' h4' => by
        refine relay_at (s := { s with heap := h1 }) ho1 ⟨hex.1, hex.2.1, hex.2.2⟩ rfl hin hsz1 q3.dm (by rw [hes, q4]; rcases cases2 with ⟨e, e2⟩ | ⟨e, e2⟩ <;> omega) nd1 tup1 hp1 ld1 (by rw [hlen]; exact hfew) h1' h2' h3' (by rw [hlen]; exact h4') ?_
        intro h2 L2 es2 ep2 t2 sb2 R2 pm2
        refine wpAny_pure (hQ true h2 L2 es2 ep2 t2 (sb.trans sb2) R2 (fun z => absurd z hm) fun _ => pm2.trans pm)
      rcases cases2 with ⟨_, e2⟩ | ⟨_, e2⟩
      · refine go 31 (by rw [e2, size_20]) (.inr (.inl rfl)) (by rw [e2, size_20]; decide) (by omega)
      · refine go 127 (by rw [e2, size_76]) (.inr (.inr rfl)) (by rw [e2, size_76]; decide) (by omega)
    · first
        | refine wp_if_neg (by simp [hf]) ?_
        | (refine wpAny_bind ?_; refine wp_if_neg (by simp [hf]) ?_; refine wpAny_pure ?_)
      refine wpAny_pure (hQ true h1 L1 es1 (ep + 1) t1 sb ⟨⟨_, ho1, ⟨hex.1, hex.2.1, hex.2.2⟩, rfl⟩, hin, q3, nd1, tup1, hp1, ld1, ?_, by rw [hlen]; exact hfew⟩ (fun z => absurd z hm) fun _ => pm)
      have h := hf
      unfold SetTable.tooFull at h
      rw [decide_eq_true_eq, q9, List.length_map] at h
      rw [hlen]
      omega
end
/-- what the set has got from the first i items -/
structure Got (ks : List (Addr × NestedKey)) (i : Nat) (L : List (Addr × NestedKey)) : Prop where
  sub : ∀ p ∈ L, p ∈ ks.take i
  all : ∀ p ∈ ks.take i, p.2 ∈ L.map (·.2)
  len : L.length ≤ i
theorem Got.zero (ks : List (Addr × NestedKey)) : Got ks 0 [] := ⟨fun p h => (by cases h), fun p h => (by simp at h), Nat.le_refl _⟩
theorem Got.same {ks L : List (Addr × NestedKey)} {i : Nat} {x : Addr × NestedKey} (g : Got ks i L) (h : ks[i]? = some x) (hm : x.2 ∈ L.map (·.2)) : Got ks (i + 1) L := by
  refine ⟨fun p hp => ?_, fun p hp => ?_, Nat.le_succ_of_le g.len⟩
  · rw [take_next h]
    exact List.mem_append_left _ (g.sub p hp)
  · rw [take_next h] at hp
    rcases List.mem_append.mp hp with z | z
    · exact g.all p z
    · rw [List.mem_singleton.mp z]; exact hm
theorem Got.more {ks L L' : List (Addr × NestedKey)} {i : Nat} {x : Addr × NestedKey} (g : Got ks i L) (h : ks[i]? = some x) (pm : L'.Perm (x :: L)) : Got ks (i + 1) L' := by
  refine ⟨fun p hp => ?_, fun p hp => ?_, ?_⟩
  · rw [take_next h]
    rcases List.mem_cons.mp (pm.mem_iff.mp hp) with e | z
    · rw [e]; exact List.mem_append_right _ (List.mem_singleton.mpr rfl)
    · exact List.mem_append_left _ (g.sub p z)
  · rw [(pm.map (·.2)).mem_iff, List.map_cons]
    rw [take_next h] at hp
    rcases List.mem_append.mp hp with z | z
    · exact List.mem_cons_of_mem _ (g.all p z)
    · rw [List.mem_singleton.mp z]; exact List.mem_cons_self
  · rw [pm.length_eq, List.length_cons]
    exact Nat.succ_le_succ g.len

section
variable {P : Program} {w : World} {A : Around} {E : Value → Shared → Prop} {s : Shared}
theorem isT_keep {h h' : Heap} {k : NestedKey} {b : Addr} (x : IsT P w h k b) (hk : ∀ c o, h.get? c = some o → h'.get? c = some o) : IsT P w h' k b := x.at fun c o _ _ e _ => hk c o e
theorem SetTR.keep {h h' : Heap} {a : Addr} {L : List (Addr × NestedKey)} {es : Array (Int × Value)} {ep : Nat} {t : SetTable} (R : SetTR P w h a L es ep t) (ha : ∀ o, h.get? a = some o → h'.get? a = some o) (ht : ∀ p ∈ L, IsT P w h' p.2 p.1) : SetTR P w h' a L es ep t := by
  obtain ⟨o, ho, r⟩ := R.ob
  exact ⟨⟨o, ha o ho, r⟩, R.rows, R.tab, R.nd, ht, R.plain, R.led, R.room, R.few⟩
/-- a new set -/
theorem setTR_fresh {h : Heap} {a : Addr} (ho : h.get? a = some { cls := .type "set", dict := none, data := .set #[] 0 (.fresh 0 0 (!w.params.followText "set-order")) }) : SetTR P w h a [] #[] 0 (.fresh 0 0 (!w.params.followText "set-order")) where
  ob := ⟨_, ho, ⟨rfl, rfl, rfl⟩, rfl⟩
  rows := rfl
  tab := ⟨List.Pairwise.nil, rfl, rfl, .inl rfl, fun x hx => (by cases hx), fun i h j hi => (by simp at hi)⟩
  nd := List.nodup_nil
  tup := fun p hp => (by cases hp)
  plain := rfl
  led := by
    show _ ∨ (!w.params.followText "set-order") = true
    cases w.params.followText "set-order"
    · exact .inr rfl
    · exact .inl rfl
  room := by
    show 0 * 5 < 7 * 3
    decide
  few := by
    show 0 < 64
    decide


end
end EngN

set_option Elab.async false
set_option linter.all false
set_option maxRecDepth 100000
set_option maxHeartbeats 3200000
/-! set(xs), sorted(set(xs)), len(set(xs)), xs a list of tuples that hold tuples. -/
namespace EngN
open PySem PySem.Spec PyProof.Rows L2
theorem got_capN {P : Program} {w : World} {h : Heap} {a : Addr} {L ks : List (Addr × NestedKey)} {es : Array (Int × Value)} {ep i : Nat} {t : SetTable} (R : SetTR P w h a L es ep t) (g : Got ks i L) (D : List NestedKey) (hD : ∀ p ∈ ks, p.2 ∈ D) : L.length ≤ D.length := by
  have := EngU.cap_len (L.map (·.2)) D R.nd fun k hk => by
    obtain ⟨p, hp, e⟩ := List.mem_map.mp hk
    rw [← e]; exact hD p (List.mem_of_mem_take (g.sub p hp))
  rwa [List.length_map] at this
section
variable {P : Program} {w : World} {A : Around} {E : Value → Shared → Prop} {s : Shared}
/-- set.update's loop -/
theorem upd_N {I : Addr} {fp wr : List Addr} {G : Array GenState → Array GenState → Prop} {n : Nat} {Pv : Nat → Value → Prop} {St : Nat → Shared → Prop} {R : Result → Shared → Prop}
    (W : WalksS P w A.in1 I fp wr G n Pv St) (S : Addr) (hSf : S ∉ fp) (ks : List (Addr × NestedKey)) (hn : n = ks.length) (D : List NestedKey) (hD : ∀ p ∈ ks, p.2 ∈ D) (hfew : D.length + 1 < 64) (hval : ∀ i v, Pv i v → ∃ p, ks[i]? = some p ∧ v = .ref p.1)
    (h0 : Heap) (hk : ∀ p ∈ ks, IsT P w h0 p.2 p.1) (hS0 : h0.get? S = none) (hw0 : ∀ b ∈ wr, h0.get? b = none) (hu : A.in1.units + 8 < cLine) :
    ∀ (k i : Nat) (s : Shared), n - i = k → i ≤ n → St i s → (∀ b o, h0.get? b = some o → s.heap.get? b = some o) → (∃ L es ep t, SetTR P w s.heap S L es ep t ∧ Got ks i L) →
      (∀ s' L es ep t, Moved (S :: wr) G s s' → SetTR P w s'.heap S L es ep t → Got ks n L → (∀ b o, h0.get? b = some o → s'.heap.get? b = some o) → R (.ok (.ret .none)) s') →
      codeAny (model P w) A (.builtin "set.update.loop" ⟨[.ref S, .ref I], []⟩) R s := by
  have hSw : S ∉ wr := fun h => hSf (W.sub _ h)
  have hsub : ∀ b ∈ wr, b ∈ S :: wr := fun b hb => List.mem_cons_of_mem _ hb
  have keepM : ∀ {s s' : Shared}, Moved wr G s s' → (∀ b o, h0.get? b = some o → s.heap.get? b = some o) → ∀ b o, h0.get? b = some o → s'.heap.get? b = some o := fun hm hkp b o e =>
    hm.heap b o (fun hb => by rw [hw0 b hb] at e; cases e) (hkp b o e)
  intro k
  induction k with
  | zero =>
    intro i s hk' hi hst hkp ⟨L, es, ep, t, hS, g⟩ hR
    have hin : i = n := by omega
    subst hin
    refine codeAny_builtin F.entry_set_update_loop ?_
    rw [Around.under_plainId F.plain_set_update_loop _]
    show wpAny _ A.in1 (pyNext (.ref I) >>= _) _ _ s
    refine wpAny_bind (W.done s _ _ hst fun s' hm => ?_)
    show wpAny _ A.in1 (ret Value.none) _ _ s'
    have hkp' := keepM hm hkp
    have sub : ∀ p ∈ L, p ∈ ks := fun p hp => List.mem_of_mem_take (g.sub p hp)
    exact wpAny_pure (hR s' L es ep t (hm.mono hsub) (hS.keep (fun o e => hm.heap S o hSw e) fun p hp => isT_keep (hk p (sub p hp)) hkp') g hkp')
  | succ k ih =>
    intro i s hk' hi hst hkp ⟨L, es, ep, t, hS, g⟩ hR
    have hlt : i < n := by omega
    refine codeAny_builtin F.entry_set_update_loop ?_
    rw [Around.under_plainId F.plain_set_update_loop _]
    show wpAny _ A.in1 (pyNext (.ref I) >>= _) _ _ s
    refine wpAny_bind (W.item i s _ _ hlt hst fun v s' hP hst' hm => ?_)
    obtain ⟨p, hp, rfl⟩ := hval i v hP
    have hkp' := keepM hm hkp
    have sub : ∀ p ∈ L, p ∈ ks := fun p hp => List.mem_of_mem_take (g.sub p hp)
    have hS' : SetTR P w s'.heap S L es ep t := hS.keep (fun o e => hm.heap S o hSw e) fun q hq => isT_keep (hk q (sub q hq)) hkp'
    have hx : IsT P w s'.heap p.2 p.1 := isT_keep (hk p (List.mem_of_getElem? hp)) hkp'
    show wpAny _ A.in1 (holding [Value.ref p.1] (setAdd S (.ref p.1)) >>= _) _ _ s'
    refine wpAny_bind (wpAny_holding ?_)
    unfold setAdd
    refine wpAny_holding ?_
    refine wpAny_bind (hash_is hu hx ?_)
    refine add_at (s := { s' with toks := s'.toks + p.2.draws }) hS' hx hu (by have := got_capN hS g D hD; omega) fun b h' L' es' ep' t' hsb hS2 c1 c2 => ?_
    have g' : Got ks (i + 1) L' := by
      rcases Classical.em (p.2 ∈ L.map (·.2)) with c | c
      · rw [c1 c]; exact g.same hp c
      · exact g.more hp (c2 c)
    have hkp2 : ∀ b o, h0.get? b = some o → h'.get? b = some o := fun b o e => (hsb.2 b (fun z => by rw [z, hS0] at e; cases e)).trans (hkp' b o e)
    refine wpAny_pure ⟨plainId_quiet F.plain_set_update_loop _, ih (i + 1) _ (by omega) hlt (W.frame _ s' _ _ hst' (Nat.le_add_right _ _) fun b hb o e => ?_) hkp2 ⟨L', es', ep', t', hS2, g'⟩ fun s'' L2 es2 ep2 t2 hm'' hS'' g'' hkp'' => ?_⟩
    · rw [hsb.2 b (fun h : b = S => hSf (by rw [← h]; exact hb))]; exact e
    · refine hR s'' L2 es2 ep2 t2 (Moved.trans W.gtrans ((hm.mono hsub).then_heap (Nat.le_add_right _ _) fun b o hb e => ?_) hm'') hS'' g'' hkp''
      rw [hsb.2 b (fun h : b = S => hb (by rw [h]; exact List.mem_cons_self))]; exact e

set_option maxRecDepth 100000 in
/-- set(xs) -/
theorem call_setN {l : Addr} {items : Array Value} (ks : List (Addr × NestedKey)) {Q : Value → Shared → Prop} (hh : A.handled = none) (hl : s.heap.IsList l items) (hit : items.toList = ks.map fun p => Value.ref p.1)
    (hk : ∀ p ∈ ks, IsT P w s.heap p.2 p.1) (D : List NestedKey) (hD : ∀ p ∈ ks, p.2 ∈ D) (hfew : D.length + 1 < 64) (hu : A.units + 11 < cLine)
    (h : ∀ (h' : Heap) (tk : Nat) L es ep t, SetTR P w h' s.heap.objs.size L es ep t → Got ks ks.length L → (∀ b o, s.heap.get? b = some o → h'.get? b = some o) → Q (.ref s.heap.objs.size) { s with heap := h', toks := tk }) :
    wpAny (model P w) A (call (.type "set") [.ref l]) Q E s := by
  have hisz : items.size = ks.length := by
    have q := congrArg List.length hit
    rw [Array.length_toList, List.length_map] at q
    exact q
  obtain ⟨c, tl, hmro⟩ := F.called_set.mro
  have hmade := F.called_set.made
  have hsub := F.called_set.sub
  refine wpAny_call (codeAny_of_tree ?_)
  show wpAny _ _ (callAny (.type "set") _) _ _ _
  refine wpAny_pure ⟨Code.quiet_builtin _ (by decide +kernel), codeAny_builtin F.entry_type_call ?_⟩
  rw [Around.under_plain (weight_type_call_type "set" [.ref l] []) rfl]
  have h1 := F.called_set.notType
  have h2 := F.called_set.canCreate
  have hct := F.typeCall_set_1 (.ref l)
  repeat (any_goals (first | assumption | wp_step))

  refine codeAny_mono (code_set_led1 (.ref l) (E := E) (Q₁ := fun obj s₁ => obj = .ref s.heap.objs.size ∧ s₁ = { s with heap := s.heap.push { cls := .type "set", dict := none, data := .set #[] 0 (.fresh 0 0 (!w.params.followText "set-order")) } }) ⟨rfl, rfl⟩) fun r s₁ hr => ?_
  cases r with
  | error e => exact hr
  | ok fl =>
    cases fl with
    | ret obj =>
      obtain ⟨rfl, rfl⟩ := hr
      have hS : (s.heap.push { cls := .type "set", dict := none, data := .set #[] 0 (.fresh 0 0 (!w.params.followText "set-order")) }).get? s.heap.objs.size = some { cls := .type "set", dict := none, data := .set #[] 0 (.fresh 0 0 (!w.params.followText "set-order")) } := Heap.get?_push_size _ rfl
      have hT : Shared.TypeIs { s with heap := s.heap.push { cls := .type "set", dict := none, data := .set #[] 0 (.fresh 0 0 (!w.params.followText "set-order")) } } (.ref s.heap.objs.size) "set" := ⟨_, hS, rfl⟩
      have hli := F.called_set.init.lookup
      have hbi := F.called_set.init.bind (.ref s.heap.objs.size)
      repeat (any_goals (first | assumption | wp_step))

      refine codeAny_mono (codeAny_call_builtin (R := wants (fun r s₂ => r = .none ∧ ∃ h' tk L es ep t, s₂ = { s with heap := h', toks := tk } ∧ SetTR P w h' s.heap.objs.size L es ep t ∧ Got ks ks.length L ∧
          (∀ b o, s.heap.get? b = some o → h'.get? b = some o)) E) F.called_set.init.plain F.entry_set_init (check_set_init_1 hT ?_)) fun r₂ s₂ hr₂ => ?_
      · obtain ⟨ol, hol, hcl, nl, hdl⟩ := hl
        obtain ⟨ocls, odict, odata, oslots⟩ := ol
        simp only at hcl hdl
        subst hcl; subst hdl
        have hol' : (s.heap.push { cls := .type "set", dict := none, data := .set #[] 0 (.fresh 0 0 (!w.params.followText "set-order")) }).get? l = some { cls := .type "list", dict := odict, data := .seq items nl, slots := oslots } := Heap.get?_push_of_some _ hol
        have hsls := F.sub_list_set
        have hslf := F.sub_list_frozenset
        have hne : (Value.type "list" == Value.type "dict") = false := by decide
        have hl1 : (s.heap.push { cls := .type "set", dict := none, data := .set #[] 0 (.fresh 0 0 (!w.params.followText "set-order")) }).IsList l items := ⟨_, hol', rfl, nl, rfl⟩
        unfold Builtin.«set.__init__» noKeywords Builtin.Frozenset.updateFrom
        generalize hPI : pyIter = PI
        wp_walk
        subst hPI

        refine wpAny_pyIter_list hl1 ?_
        refine wpAny_bind (wpAny_runValue ?_)
        have hlS : l < s.heap.objs.size := Heap.lt_size hol
        have hh3 : A.in1.in1.in1.handled = none := by simp [hh]
        have hz1 : (s.heap.push { cls := .type "set", dict := none, data := .set #[] 0 (.fresh 0 0 (!w.params.followText "set-order")) }).objs.size = s.heap.objs.size + 1 := Heap.size_push ..
        have hneI : l ≠ (s.heap.push { cls := .type "set", dict := none, data := .set #[] 0 (.fresh 0 0 (!w.params.followText "set-order")) }).objs.size := by
          rw [Heap.size_push]; exact Nat.ne_of_lt (Nat.lt_succ_of_lt hlS)
        have hSf : s.heap.objs.size ∉ [(s.heap.push { cls := .type "set", dict := none, data := .set #[] 0 (.fresh 0 0 (!w.params.followText "set-order")) }).objs.size, l] := by
          rw [Heap.size_push]; simp only [List.mem_cons, List.mem_singleton, List.not_mem_nil, or_false, not_or]
          exact ⟨Nat.ne_of_lt (Nat.lt_succ_self _), Nat.ne_of_gt hlS⟩
        have hval : ∀ (i : Nat) (v : Value), items[i]? = some v → ∃ p, ks[i]? = some p ∧ v = .ref p.1 := fun i v hv => by
          have q : items.toList[i]? = some v := by rw [Array.getElem?_toList]; exact hv
          rw [hit, List.getElem?_map] at q
          cases hq : ks[i]? with
          | none => rw [hq] at q; cases q
          | some p =>
            rw [hq] at q
            exact ⟨p, rfl, (Option.some.inj q).symm⟩
        have none_of : ∀ b, s.heap.objs.size ≤ b → s.heap.get? b = none := fun b hb => by
          cases q : s.heap.get? b with
          | none => rfl
          | some o => exact absurd (Nat.lt_of_lt_of_le (Heap.lt_size q) hb) (Nat.lt_irrefl _)
        refine upd_N ((Walks.list hh3 _ l hneI items).toS) s.heap.objs.size
          hSf ks hisz D hD hfew hval s.heap hk (none_of _ (Nat.le_refl _)) (fun b hb => none_of b (by
            rw [List.mem_singleton.mp hb, Heap.size_push]
            exact Nat.le_succ _)) hu (items.size - 0) 0 _ (by omega) (Nat.zero_le _)
          ⟨⟨_, Heap.get?_push_size _ rfl, rfl, rfl⟩, (hl1.push _)⟩ (fun b o e => Heap.get?_push_of_some _ (Heap.get?_push_of_some _ e)) ?hS0 ?hR
        case hS0 =>
          have hget : ((s.heap.push { cls := .type "set", dict := none, data := .set #[] 0 (.fresh 0 0 (!w.params.followText "set-order")) }).push { cls := .type "list_iterator", data := .fields #[.ref l, .int 0 0] }).get? s.heap.objs.size
              = some { cls := .type "set", dict := none, data := .set #[] 0 (.fresh 0 0 (!w.params.followText "set-order")) } := Heap.get?_push_of_some _ hS
          exact ⟨[], #[], 0, _, setTR_fresh hget, Got.zero ks⟩
        case hR =>
          intro s' L es ep t hm hS' g' hkp
          obtain ⟨h', g2, d', tk', os'⟩ := s'
          have eg : g2 = s.gens := hm.gens
          have ed : d' = s.drawn := hm.drawn
          have eo : os' = s.os := hm.os
          subst eg; subst ed; subst eo
          show wpAny _ _ _ _ _ _
          refine wpAny_pure ?_
          show wpAny _ _ (ret Value.none) _ _ _
          rw [hisz] at g'
          exact wpAny_pure ⟨rfl, h', tk', L, es, ep, t, rfl, hS', g', hkp⟩

      · cases r₂ with
        | error e => exact hr₂
        | ok fl₂ =>
          cases fl₂ with
          | ret r =>
            obtain ⟨rfl, h', tk, L, es, ep, t, rfl, hS', g', hk'⟩ := hr₂
            repeat (any_goals (first | assumption | wp_step))
            exact h _ _ _ _ _ _ hS' g' hk'
          | _ => exact hr₂.elim
    | _ => exact hr.elim

end
end EngN

set_option Elab.async false
set_option linter.all false
set_option maxRecDepth 100000
set_option maxHeartbeats 3200000
/-! set(xs), sorted(set), len(set) as the engine asks for them, xs a list of tuples that may hold tuples. -/
namespace EngN
open PySem PySem.Spec PyProof.Rows L2 PySem.W PySem.Calls
def SetT0 (P : Program) (w : World) (h : Heap) (a : Addr) (L : List (Addr × NestedKey)) : Prop :=
  ∃ (es : Array (Int × Value)) (ep : Nat) (t : SetTable), (∃ o, h.get? a = some o ∧ o.ExactSet ∧ o.data = .set es ep t) ∧ es.toList = rowsOf P w L ∧ TabOk t (L.map fun p => thash P w p.2) ∧ (L.map (·.2)).Nodup ∧ t.plain = true ∧
    (w.params.followText "set-order" = true ∨ t.led = true) ∧ L.length * 5 < t.mask * 3 ∧ L.length < 64
def SetTO (P : Program) (w : World) (a : Addr) (L : List (Addr × NestedKey)) : HO := .ext fun h => SetT0 P w h a L
theorem SetTR.t0 {P : Program} {w : World} {h : Heap} {a : Addr} {L : List (Addr × NestedKey)} {es : Array (Int × Value)} {ep : Nat} {t : SetTable} (R : SetTR P w h a L es ep t) : SetT0 P w h a L :=
  ⟨es, ep, t, R.ob, R.rows, R.tab, R.nd, R.plain, R.led, R.room, R.few⟩
theorem SetT0.full {P : Program} {w : World} {h : Heap} {a : Addr} {L : List (Addr × NestedKey)} (R : SetT0 P w h a L) (ht : ∀ p ∈ L, IsT P w h p.2 p.1) : ∃ es ep t, SetTR P w h a L es ep t := by
  obtain ⟨es, ep, t, h1, h2, h3, h4, h5, h6, h7, h8⟩ := R
  exact ⟨es, ep, t, h1, h2, h3, h4, ht, h5, h6, h7, h8⟩
theorem setTO_new {P : Program} {w : World} {H : Hp} {h : Heap} {a : Addr} {L : List (Addr × NestedKey)} (R : SetT0 P w h a L) : ObjOk P w H h a (SetTO P w a L) := by
  have ⟨es, ep, t, ⟨o, ho, r⟩, q⟩ := R
  refine ⟨R, ⟨o, ho⟩, fun h1 h2 p k => ?_⟩
  obtain ⟨es', ep', t', ⟨o', ho', r'⟩, q'⟩ := p
  exact ⟨es', ep', t', ⟨o', k o' ho', r'⟩, q'⟩
theorem refs_of_vals : ∀ {ks : List (Addr × NestedKey)} {us : List Value}, Vals (ks.map fun p => V.ref p.1) us → us = ks.map fun p => Value.ref p.1
  | [], _, .nil => rfl
  | p :: ks, _, .cons r t => by
    cases r
    rw [refs_of_vals t] <;> rfl
/-- p is an item: the tuple's address, and what it is -/
def KeyD (K : PySem.W.Frag) (H : Hp) (p : Addr × NestedKey) : Prop := Dp K H (.ref p.1) p.2.data ∧ nk p.2.data = some p.2 ∧ p.2.depth ≤ 8
section
variable {X : Cx} {pins : List (Addr × Obj)} {σ : L2.St} {H : Hp} {s : Shared}
theorem is_key (I : Inv X pins σ H s) {p : Addr × NestedKey} (h : KeyD X.K H p) : IsT X.prog X.w s.heap p.2 p.1 :=
  ⟨nk_is I p.2.data (.ref p.1) (.ref p.1) p.2 h.1 rfl h.2.1, h.2.2, (nk_tx _ _ h.2.1).1⟩
end
/-- set(xs) -/
def rSetN (K : PySem.W.Frag) (P : Program) (w : World) : List V → Hp → VK → Prop := fun xs H Q => ∃ (l : Addr) (ks : List (Addr × NestedKey)) (D : List NestedKey), xs = [V.ref l] ∧ SqL K H l (ks.map fun p => V.ref p.1) ∧ (∀ p ∈ ks, KeyD K H p) ∧ (∀ p ∈ ks, p.2 ∈ D) ∧ D.length + 1 < 64 ∧
  ∀ a L, H a = none → (∀ p ∈ L, p ∈ ks) → (∀ p ∈ ks, p.2 ∈ L.map (·.2)) → (L.map (·.2)).Nodup → Q (.ref a) (upd H a (SetTO P w a L))
/-- sorted(set) -/
def rSortedN (K : PySem.W.Frag) (P : Program) (w : World) : List V → Hp → VK → Prop := fun vs H Q => ∃ (a : Addr) (L : List (Addr × NestedKey)), vs = [V.ref a] ∧ H a = some (SetTO P w a L) ∧ (∀ p ∈ L, KeyD K H p) ∧ AllAlike (L.map (·.2.data)) ∧ Sortable (L.map (·.2.data)) ∧ (∀ p ∈ L, p.2.data.depth ≤ 60) ∧
  ∀ (L' L1 : List (Addr × NestedKey)) (p : Addr), L1.Perm L → L' = L1.mergeSort (dataLe false fun p => p.2.data) → L'.length < 64 → H p = none → Q (.ref p) (upd H p (.lst (L'.map fun q => V.ref q.1)))
/-- len(set) -/
def rLenN (K : PySem.W.Frag) (P : Program) (w : World) : List V → Hp → VK → Prop := fun vs H Q => ∃ (a : Addr) (L : List (Addr × NestedKey)), vs = [V.ref a] ∧ H a = some (SetTO P w a L) ∧ (∀ p ∈ L, KeyD K H p) ∧ Q (.int L.length) H
section
variable {X : Cx}
theorem cr_setN (hc : X.calm = true) (hu : X.A.units + 64 < cLine) : CallR X (.type "set") (rSetN X.K X.prog X.w) := by
  intro pins s σ H xs us Q I r h
  obtain ⟨l, ks, D, rfl, hl, hk, hD, hf, q⟩ := h
  rw [Vals.ref1 r]
  obtain ⟨its, rv, pl, hz⟩ := I.list hl
  have hn : H s.heap.objs.size = none := I.hok.fresh (Nat.le_refl _)
  refine call_setN (P := X.prog) (w := X.w) ks (I.ok.hd hc) pl.isList (by simpa using refs_of_vals rv) (fun p hp => is_key I (hk p hp)) D hD hf (by omega) fun h' tk L es ep t R g k => ?_
  refine ⟨.ref s.heap.objs.size, upd H s.heap.objs.size (SetTO X.prog X.w s.heap.objs.size L), I.laid (t' := tk) k (Nat.le_refl _) (setTO_new R.t0), rfl, q _ L hn (fun p hp => List.mem_of_mem_take (g.sub p hp)) (fun p hp => g.all p (by rw [List.take_length]; exact hp)) R.nd⟩
theorem cr_lenN : CallR X (.builtin "len") (rLenN X.K X.prog X.w) := by
  intro pins s σ H vs us Q I r h
  obtain ⟨a, L, rfl, ha, hk, q⟩ := h
  have R0 : SetT0 X.prog X.w s.heap a L := (I.hok a _ ha).1
  obtain ⟨es, ep, t, R⟩ := R0.full fun p hp => is_key I (hk p hp)
  rw [Vals.ref1 r]
  obtain ⟨o, ho, hex, hd⟩ := R.ob
  have hfew := R.few
  refine call_len_set ho hex hd R.fits (by rw [R.size]; omega) ⟨.int L.length, H, I.tok _, ⟨_, by rw [R.size]⟩, q⟩
end
/-! ### one order -/
end EngN

set_option Elab.async false
set_option linter.all false
set_option maxRecDepth 100000
set_option maxHeartbeats 1000000
/-! A tuple backwards, list(d), {k: v}, x in a list or a tuple of data. -/
namespace HT
open PySem PySem.Spec PyProof.Rows
section
variable {prog : Program} {w : World} {A : Around} {E : Value → Shared → Prop} {s : Shared}
end
end HT
namespace L2
open PySem PySem.Spec PyProof.Rows PySem.Calls Eng PySem.W
section
variable {X : Cx}
/-- t[::-1], t a tuple; l[::-1], l a list -/
def tRevA (K : PySem.W.Frag) (te : TE) : TE := fun σ H Q => te σ H fun x H1 => ∃ a xs, x = .ref a ∧ ((SqL K H1 a xs ∧ ∀ p, H1 p = none → Q (.ref p) (upd H1 p (.lst xs.reverse))) ∨ (SqT K H1 a xs ∧ ∀ p, H1 p = none → Q (.ref p) (upd H1 p (.tup xs.reverse))))
/-- list(d) -/
def rListE (K : PySem.W.Frag) : List V → Hp → VK → Prop := fun vs H Q => ∃ (a : Addr) (es : List (NestedKey × Addr × Value)) (kvs : List (NestedKey × PyData)) (Hf : Hp), Sub Hf H ∧ vs = [V.ref a] ∧ (a == sysModules) = false ∧ H a = some (.ext (DicPhi a es)) ∧ DicAt K Hf es kvs ∧ (es.map (·.1)).Nodup ∧ kvs.length ≤ sizeLine ∧
  ∀ (vs : List V) p, DpAll K Hf vs (kvs.map (·.1.data)) → H p = none → Q (.ref p) (upd H p (.lst vs))
/-- len(d) -/
def rLenE (K : PySem.W.Frag) : List V → Hp → VK → Prop := fun vs H Q => ∃ (a : Addr) (es : List (NestedKey × Addr × Value)) (kvs : List (NestedKey × PyData)) (Hf : Hp), Sub Hf H ∧ vs = [V.ref a] ∧ (a == sysModules) = false ∧ H a = some (.ext (DicPhi a es)) ∧ DicAt K Hf es kvs ∧ (es.map (·.1)).Nodup ∧ kvs.length ≤ sizeLine ∧ Q (.int kvs.length) H
/-- {k: v} -/
def tDNew1E (K : PySem.W.Frag) (tk tv : TE) : TE := fun σ H Q => ∀ p, H p = none → (p == sysModules) = false → tk σ (upd H p (.ext (DicPhi p []))) fun x H1 => tv σ H1 fun y H2 =>
  ∃ kd k d Hf, Sub Hf H2 ∧ Hf p = none ∧ H2 p = some (.ext (DicPhi p [])) ∧ Dp K Hf x kd ∧ keyOfD kd = some k ∧ Dp K Hf y d ∧ ∀ es', DicAt K Hf es' [(k, d)] → (es'.map (·.1)).Nodup → Q (.ref p) (upd H2 p (.ext (DicPhi p es')))
theorem pe_dnew1E {k v : Expr} {tk tv : TE} {pos : Pos} (hu : X.A.units + 64 < cLine) (hk : PE X k tk) (hv : PE X v tv) : PE X (.Dict [some k] [v] pos) (tDNew1E X.K tk tv) := by
  refine ⟨fun pins s σ H Q I h => ?_⟩
  have room : (nestedKind X.prog X.w).room X.A := by show X.A.units + 8 < cLine; omega
  have hp : H s.heap.objs.size = none := I.hok.fresh (Nat.le_refl _)
  have hsm : (s.heap.objs.size == sysModules) = false := beq_eq_false_iff_ne.mpr (Ne.symm (Nat.ne_of_lt I.big))
  have hh := h _ hp hsm
  rw [arm_eval_Dict]
  have hshape : (evalEachOpt [some k] X.env).zip ((evalEach [v] X.env).map fun v => do let x ← v; standAt pos; pure x) = [((eval k X.env), (do let x ← eval v X.env; standAt pos; pure x))].map fun p => (some p.1, p.2) := rfl
  rw [hshape, dictDisplay_pairs _ (by simp) (by simp)]
  refine wpAny_bind (wpAny_standAt (wpAny_bind (wpAny_subDictH (knd := nestedKind X.prog X.w) (Q := fun d s' => wpAny (model X.prog X.w) X.A (pure (Value.ref d)) (EP X pins σ Q) X.xe s') room (by simp) ?_)))
  have I1 : Inv X pins σ (upd H s.heap.objs.size (.ext (DicPhi s.heap.objs.size []))) { s with heap := s.heap.push { cls := .type "dict", data := .dict #[] } } :=
    I.laid (a := s.heap.objs.size) (o := .ext (DicPhi s.heap.objs.size [])) (t' := s.toks) (fun _ _ q => Heap.get?_push_of_some _ q) (Nat.le_refl _) (DicPhi.ok ⟨_, #[], 0, Heap.get?_push_size _ rfl, ⟨rfl, rfl, rfl⟩, rfl, rfl⟩)
  show wpAny _ _ (eval k X.env >>= fun kv => _) _ _ _
  refine wpAny_bind (thn (hk.run pins _ σ _ _ I1 hh) fun kv s1 ⟨x, H1, I2, rx, q1⟩ => ?_)
  refine wpAny_bind (wpAny_holding (wpAny_bind (thn (hv.run pins s1 σ H1 _ I2 q1) fun vv s2 ⟨y, H2, I3, ry, q2⟩ => wpAny_bind (wpAny_standAt (wpAny_pure ?_)))))
  refine wpAny_bind (wpAny_holding (wpAny_pure (wpAny_pure ?_)))
  obtain ⟨kd, kk, d, Hf, sb, hfp, hp2, dx, ek, dy, q⟩ := q2
  obtain ⟨b, rfl⟩ := key_ref dx ek
  cases (show kv = Value.ref b from rx)
  have dd := dic_of I3 hp2 (DicAt.mono sb (Paired.nil (F := DicE X.K Hf))) List.nodup_nil
  refine ⟨[(kk, b, vv)], ⟨rfl, rfl, key_is I3 (Dp.mono sb _ _ dx) ek, True.intro⟩, dd, fun h' tk dd' hs => wpAny_pure ?_⟩
  have e1 : storedAllH [] [(kk, b, vv)] = [(kk, b, vv)] := rfl
  rw [e1] at dd'
  obtain ⟨k1, k2, k3, k4, _⟩ := keyOfD_some ek
  have hd' : DicAt X.K Hf [(kk, b, vv)] [(kk, d)] := .cons ⟨rfl, by rw [k4]; exact k1, k3, k2, by rw [k4]; exact dx, y, ry, dy⟩ .nil
  obtain ⟨ob, ens, ep, hq, h2, h3, h4, _, h5⟩ := dd'
  exact ⟨.ref s.heap.objs.size, _, d_write I3 (by rw [hp2]; exact True.intro) hs ⟨ob, hq⟩ (DicPhi.ok ⟨ob, ens, ep, hq, h2, h3, by rw [h4, hd'.ent X.w X.prog]⟩), rfl, q _ hd' h5⟩
/-- {k: v}, k a whole number -/
def tDNew1K (tk tv : TE) : TE := fun σ H Q => ∀ p, H p = none → (p == sysModules) = false → tk σ (upd H p (.ext (DicPhi p []))) fun x H1 => tv σ H1 fun y H2 =>
  ∃ i : Int, x = .int i ∧ H2 p = some (.ext (DicPhi p [])) ∧ Q (.ref p) (upd H2 p (.dK [(Sum.inl i, y)]))
theorem pe_dnew1K {k v : Expr} {tk tv : TE} {pos : Pos} (hk : PE X k tk) (hv : PE X v tv) : PE X (.Dict [some k] [v] pos) (tDNew1K tk tv) := by
  refine ⟨fun pins s σ H Q I h => ?_⟩
  have hp : H s.heap.objs.size = none := I.hok.fresh (Nat.le_refl _)
  have hsm : (s.heap.objs.size == sysModules) = false := beq_eq_false_iff_ne.mpr (Ne.symm (Nat.ne_of_lt I.big))
  have hh := h _ hp hsm
  rw [arm_eval_Dict]
  have hshape : (evalEachOpt [some k] X.env).zip ((evalEach [v] X.env).map fun v => do let x ← v; standAt pos; pure x) = [((eval k X.env), (do let x ← eval v X.env; standAt pos; pure x))].map fun p => (some p.1, p.2) := rfl
  rw [hshape, dictDisplay_pairs _ (by simp) (by simp)]
  refine wpAny_bind (wpAny_standAt (wpAny_bind (wpAny_subDict (knd := mixKind X.prog X.w) (Q := fun d s' => wpAny (model X.prog X.w) X.A (pure (Value.ref d)) (EP X pins σ Q) X.xe s') (by simp) ?_)))
  have I1 : Inv X pins σ (upd H s.heap.objs.size (.ext (DicPhi s.heap.objs.size []))) { s with heap := s.heap.push { cls := .type "dict", data := .dict #[] } } :=
    I.laid (a := s.heap.objs.size) (o := .ext (DicPhi s.heap.objs.size [])) (t' := s.toks) (fun _ _ q => Heap.get?_push_of_some _ q) (Nat.le_refl _) (DicPhi.ok ⟨_, #[], 0, Heap.get?_push_size _ rfl, ⟨rfl, rfl, rfl⟩, rfl, rfl⟩)
  show wpAny _ _ (eval k X.env >>= fun kv => _) _ _ _
  refine wpAny_bind (thn (hk.run pins _ σ _ _ I1 hh) fun kv s1 ⟨x, H1, I2, rx, q1⟩ => ?_)
  refine wpAny_bind (wpAny_holding (wpAny_bind (thn (hv.run pins s1 σ H1 _ I2 q1) fun vv s2 ⟨y, H2, I3, ry, q2⟩ => wpAny_bind (wpAny_standAt (wpAny_pure ?_)))))
  refine wpAny_bind (wpAny_holding (wpAny_pure (wpAny_pure ?_)))
  obtain ⟨i, rfl, hp2, q⟩ := q2
  have hphi : DicPhi s.heap.objs.size [] s2.heap := (I3.hok _ _ hp2).1
  obtain ⟨o, ens, ep, g1, g2, g3, g4⟩ := hphi
  have g4' : ens.toList = [] := g4
  have g5 : ens = #[] := by
    apply Array.toList_inj.mp
    rw [g4']
  have dd : s2.heap.DictOf (mixKind X.prog X.w) s.heap.objs.size [] := ⟨o, ens, ep, g1, g2, g3, fun _ he => by rw [g5] at he; simp at he, by rw [g4']; exact PySem.Pairs.nil, List.nodup_nil⟩
  obtain ⟨rs, c, rk⟩ := carries_of (P := X.prog) (w := X.w) (kvs := [((Sum.inl i : Key), y)]) (ws := [(kv, vv)]) (.cons ⟨rx, ry⟩ .nil)
  refine ⟨rs, c, dd, fun h' dd' hs => wpAny_pure ⟨.ref s.heap.objs.size, _, ?_, rfl, q⟩⟩
  have he : ∃ q, h'.get? s.heap.objs.size = some q := let ⟨q, _, _, hq, _⟩ := dd'; ⟨q, hq⟩
  have rm := rk.merge .nil
  exact d_write I3 (by rw [hp2]; exact True.intro) hs he (dk_new (kvs := [((Sum.inl i : Key), y)]) (by rw [sizeLine_eq]; show 1 ≤ _; omega) hsm rm dd')
/-- x in c, c a list or a tuple of data -/
theorem room_in {A : Nat} {xs : List PyData} {d : PyData} (h : d.depth ≤ 60) (hu : A + 64 < cLine) : A + 1 + min (PyData.depthAll xs) d.depth < cLine := by
  have := Nat.min_le_right (PyData.depthAll xs) d.depth
  omega
theorem op_inA (hu : X.A.units + 64 < cLine) : OpR X (compareOp .In) (fun x y H Q => ∃ d c ds, Dp X.K H x d ∧ Dp X.K H y c ∧ (c = .list ds ∨ c = .tuple ds) ∧ d.canLay0 = true ∧ PyData.canLayAll0 ds = true ∧ d.depth ≤ 60 ∧ Q (.bl (ds.any fun z => PyData.eqv z d)) H) := by
  intro pins s σ H x y v u Q I rx ry h
  obtain ⟨d, c, ds, hd, he, hc, sd, se, hz, q⟩ := h
  obtain ⟨as, r1⟩ := Dp.reads I d x v hd rx
  obtain ⟨bs, r2⟩ := Dp.reads I c y u he ry
  rcases hc with rfl | rfl
  · exact SeqAt.in_list_reads r2 r1 se sd (room_in hz hu) ⟨.bl _, H, I, rfl, q⟩
  · exact SeqAt.in_tuple_reads r2 r1 se sd (room_in hz hu) ⟨.bl _, H, I, rfl, q⟩
theorem op_notInA (hu : X.A.units + 64 < cLine) : OpR X (compareOp .NotIn) (fun x y H Q => ∃ d c ds, Dp X.K H x d ∧ Dp X.K H y c ∧ (c = .list ds ∨ c = .tuple ds) ∧ d.canLay0 = true ∧ PyData.canLayAll0 ds = true ∧ d.depth ≤ 60 ∧ Q (.bl (!ds.any fun z => PyData.eqv z d)) H) := by
  intro pins s σ H x y v u Q I rx ry h
  obtain ⟨d, c, ds, hd, he, hc, sd, se, hz, q⟩ := h
  obtain ⟨as, r1⟩ := Dp.reads I d x v hd rx
  obtain ⟨bs, r2⟩ := Dp.reads I c y u he ry
  rcases hc with rfl | rfl
  · exact SeqAt.notIn_list_reads r2 r1 se sd (room_in hz hu) ⟨.bl _, H, I, rfl, q⟩
  · exact SeqAt.notIn_tuple_reads r2 r1 se sd (room_in hz hu) ⟨.bl _, H, I, rfl, q⟩
end
end L2

set_option Elab.async false
set_option linter.all false
set_option maxRecDepth 100000
set_option maxHeartbeats 1000000
/-! Operators, comparisons, subscripts, built-ins: by values. -/
namespace Eng
open PySem PySem.Spec PyProof.Rows L2
section
variable {X : Cx} {XR : XRel} {W : WX}
theorem op_catL : OpR X (binaryOp .Add) (fun x y H Q => ∃ l b xs zs, x = .ref l ∧ y = .ref b ∧ SqL X.K H l xs ∧ SqL X.K H b zs ∧ xs.length + zs.length ≤ sizeLine ∧ ∀ p, H p = none → Q (.ref p) (upd H p (.lst (xs ++ zs)))) := by
  intro pins s σ H x y v u Q I rx ry h
  obtain ⟨l, b, xs, zs, rfl, rfl, hH, hB, hz, q⟩ := h
  cases rx
  cases ry
  obtain ⟨its, r, ⟨⟨cls, dd, data, sl⟩, n, e, hc, hd', hd⟩, hl⟩ := I.list hH
  obtain ⟨its2, r2, ⟨⟨cls2, dd2, data2, sl2⟩, n2, e2, hc2, hd2', hd2⟩, hl2⟩ := I.list hB
  simp only at hc hd hc2 hd2
  subst hc hd hc2 hd2
  have ea : its.toArray ++ its2.toArray = (its ++ its2).toArray := by simp
  have l1 := r.length
  have l2 := r2.length
  refine concat_meets ⟨_, e, rfl⟩ ⟨_, e2, rfl⟩ noFill_list_add seq_list_add PySem.F.slot_list_add PySem.F.entry_list_add (PySem.F.args_list_add_2 _ _) (list_addW l b its.toArray its2.toArray n n2 dd dd2 sl sl2 (by rw [List.size_toArray, List.size_toArray]; omega)) ⟨e, e2, ?_⟩
  rw [ea]
  exact ⟨.ref _, _, I.lnew (t' := s.toks) (r.append r2) (by rw [List.length_append]; omega), rfl, q _ I.fresh⟩

abbrev Here (X : Cx) (H : Hp) (x y : V) (d e : PyData) (z : PyData) (Q : VK) : Prop := ∃ Hf ρ ω σ env m, At X.K H σ Hf ρ ω env m ∧ RepB X.K H Hf ρ x (.dat d) ∧ RepB X.K H Hf ρ y (.dat e) ∧
    ∀ v H' Hf' ρ', Pres H Hf ρ H' Hf' ρ' → Fine X.K H' Hf' ρ' m → RepU X.K Hf' ρ' v (.dat z) → Q v H'
theorem sz_app {xs ys : List PyData} (h : szAll xs = true) (h' : szAll ys = true) : szAll (xs ++ ys) = true := by
  rw [szAll_iff] at *
  intro d hd
  rcases List.mem_append.mp hd with q | q
  · exact h d q
  · exact h' d q
theorem op_bin (o : BinO) (op : Operator) (hb : binB o op = true) : OpR X (binaryOp op) (opD X.K (binVal o)) := by
  refine op_cases fun d e z hz => ?_
  cases o <;> cases op <;> simp only [binB, Bool.false_eq_true] at hb
  · -- add
    cases d <;> cases e <;> simp only [binVal, reduceCtorEq, Option.some.injEq] at hz
    · subst hz
      refine OpR.imp op_add fun x y H Q ⟨Hf, ρ, ω, σ, env, m, a, r1, r2, q⟩ => ?_
      rw [r1.int, r2.int]
      exact ⟨_, _, rfl, rfl, q _ H Hf ρ (Pres.refl _ _ _) a.fine ⟨.int _, rfl⟩⟩
    · split at hz
      · rename_i hs
        cases hz
        refine OpR.imp op_add_str fun x y H Q ⟨Hf, ρ, ω, σ, env, m, a, r1, r2, q⟩ => ?_
        obtain ⟨e1, z1⟩ := r1.str
        obtain ⟨e2, z2⟩ := r2.str
        rw [e1, e2]
        refine ⟨_, _, rfl, rfl, hs, q _ H Hf ρ (Pres.refl _ _ _) a.fine ⟨.str _, ?_⟩⟩
        simp only [szOk, decide_eq_true_eq] at z1 z2 ⊢
        refine Nat.le_trans (Nat.le_of_eq ?_) hs
        exact Array.size_append
      · cases hz
    · split at hz
      · rename_i xs ys hs
        cases hz
        refine OpR.imp op_catL fun x y H Q ⟨Hf, ρ, ω, σ, env, m, a, r1, r2, q⟩ => ?_
        obtain ⟨p, vs, rfl, h1, h2, h3⟩ := r1.list a.fine.sub
        obtain ⟨p', vs', rfl, h1', h2', h3'⟩ := r2.list a.fine.sub
        refine ⟨p, p', vs, vs', rfl, rfl, h1, h1', by rw [h2.len, h2'.len]; exact hs, fun b hb => ?_⟩
        have hfb := a.free hb
        refine q _ _ _ ρ (Pres.new hb a.fine.sub) (a.fine.new hb) ⟨.lst (.inl (.inl upd_same)) (DpAll.mono (Sub.new hfb.1) _ _ (h2.app h2')), ?_⟩
        rw [sz_list] at *
        exact ⟨by rw [List.length_append]; exact hs, sz_app h3.2 h3'.2⟩
      · cases hz
    · split at hz
      · rename_i xs ys hs
        cases hz
        refine OpR.imp op_catA fun x y H Q ⟨Hf, ρ, ω, σ, env, m, a, r1, r2, q⟩ => ?_
        have r1' := r1
        have r2' := r2
        obtain ⟨p, vs, rfl, h1, h2, h3⟩ := r1.tup a.fine.sub
        obtain ⟨p', vs', rfl, h1', h2', h3'⟩ := r2.tup a.fine.sub
        have toU : ∀ {v : V} {ds : List PyData}, RepB X.K H Hf ρ v (.dat (.tuple ds)) → RepU X.K Hf ρ v (.dat (.tuple ds)) := fun {v ds} r => by
          rcases r with r | ⟨p, vs, ys, e, _⟩
          · exact r
          · cases e
        refine ⟨p, p', vs, vs', rfl, rfl, h1, h1', by rw [h2.len, h2'.len]; exact hs, fun e => ?_, fun _ e => ?_, fun _ _ b hb => ?_⟩
        · have : xs = [] := List.eq_nil_of_length_eq_zero (by rw [← h2.len, e]; rfl)
          subst this
          exact q _ H Hf ρ (Pres.refl _ _ _) a.fine (by rw [List.nil_append]; exact toU r2')
        · have : ys = [] := List.eq_nil_of_length_eq_zero (by rw [← h2'.len, e]; rfl)
          subst this
          exact q _ H Hf ρ (Pres.refl _ _ _) a.fine (by rw [List.append_nil]; exact toU r1')
        · have hfb := a.free hb
          refine q _ _ _ ρ (Pres.new hb a.fine.sub) (a.fine.new hb) ⟨.tup (.inl (.inl upd_same)) (DpAll.mono (Sub.new hfb.1) _ _ (h2.app h2')), ?_⟩
          rw [sz_tuple] at *
          exact ⟨by rw [List.length_append]; exact hs, sz_app h3.2 h3'.2⟩
      · cases hz
  · -- sub
    cases d <;> cases e <;> simp only [binVal, reduceCtorEq, Option.some.injEq] at hz
    subst hz
    refine OpR.imp op_sub fun x y H Q ⟨Hf, ρ, ω, σ, env, m, a, r1, r2, q⟩ => ?_
    rw [r1.int, r2.int]
    exact ⟨_, _, rfl, rfl, q _ H Hf ρ (Pres.refl _ _ _) a.fine ⟨.int _, rfl⟩⟩
  · -- mul
    cases d <;> cases e <;> simp only [binVal, reduceCtorEq, Option.some.injEq] at hz
    · split at hz
      · rename_i hs
        cases hz
        refine OpR.imp op_mul fun x y H Q ⟨Hf, ρ, ω, σ, env, m, a, r1, r2, q⟩ => ?_
        rw [r1.int, r2.int]
        exact ⟨_, _, rfl, rfl, hs, q _ H Hf ρ (Pres.refl _ _ _) a.fine ⟨.int _, rfl⟩⟩
      · cases hz
    · split at hz
      · rename_i xs k hs
        cases hz
        refine OpR.imp (OpR.or op_repT0 (OpR.or op_repT1 op_repT)) fun x y H Q ⟨Hf, ρ, ω, σ, env, m, a, r1, r2, q⟩ => ?_
        have r1' := r1
        obtain ⟨p, vs, rfl, h1, h2, h3⟩ := r1.tup a.fine.sub
        rw [r2.int]
        have hvn : vs ≠ [] := fun e => hs.1 (List.eq_nil_of_length_eq_zero (by rw [← h2.len, e]; rfl))
        by_cases hk0 : k = 0
        · subst hk0
          refine .inl ⟨p, vs, rfl, rfl, h1, hvn, fun b hb => ?_⟩
          exact q _ _ _ ρ (Pres.new hb a.fine.sub) (a.fine.new hb) ⟨.tup (.inl (.inl upd_same)) .nil, by show szOk (.tuple []) = true; rfl⟩
        by_cases hk1 : k = 1
        · subst hk1
          refine .inr (.inl ⟨p, vs, rfl, rfl, h1, q _ H Hf ρ (Pres.refl _ _ _) a.fine ?_⟩)
          have e1 : (List.replicate (1 : Int).toNat xs).flatten = xs := by
            show (List.replicate 1 xs).flatten = xs
            simp
          rw [e1]
          rcases r1' with r | ⟨_, _, _, e, _⟩
          · exact r
          · cases e
        have hk2 : 2 ≤ k := by have := hs.2.2.1; omega
        refine .inr <| .inr ⟨p, _, vs, rfl, rfl, h1, fun e => hs.1 (List.eq_nil_of_length_eq_zero (by rw [← h2.len, e]; rfl)), hk2, hs.2.2.2, by rw [h2.len]; exact hs.2.1, fun b hb => ?_⟩
        have hfb := a.free hb
        have rep : ∀ n : Nat, DpAll X.K Hf (List.replicate n vs).flatten (List.replicate n xs).flatten := fun n => by
          induction n with
          | zero => exact .nil
          | succ n ih => rw [List.replicate_succ, List.replicate_succ, List.flatten_cons, List.flatten_cons]; exact h2.app ih
        have sz : ∀ n : Nat, szAll (List.replicate n xs).flatten = true ∧ (List.replicate n xs).flatten.length = n * xs.length := fun n => by
          induction n with
          | zero => exact ⟨rfl, by simp⟩
          | succ n ih => rw [List.replicate_succ, List.flatten_cons]; exact ⟨sz_app (sz_tuple.mp h3).2 ih.1, by rw [List.length_append, ih.2, Nat.succ_mul]; omega⟩
        refine q _ _ _ ρ (Pres.new hb a.fine.sub) (a.fine.new hb) ⟨.tup (.inl (.inl upd_same)) (DpAll.mono (Sub.new hfb.1) _ _ (rep _)), ?_⟩
        rw [sz_tuple]
        refine ⟨?_, (sz _).1⟩
        rw [(sz _).2, sizeLine_eq]
        have : k.toNat * xs.length ≤ 1000 * 1000 := Nat.mul_le_mul (by omega) hs.2.1
        omega
      · cases hz
  · -- mod
    cases d <;> cases e <;> simp only [binVal, reduceCtorEq, Option.some.injEq] at hz
    split at hz
    · rename_i hs
      cases hz
      refine OpR.imp op_mod fun x y H Q ⟨Hf, ρ, ω, σ, env, m, a, r1, r2, q⟩ => ?_
      rw [r1.int, r2.int]
      exact ⟨_, _, rfl, rfl, hs, q _ H Hf ρ (Pres.refl _ _ _) a.fine ⟨.int _, rfl⟩⟩
    · cases hz
  · -- fdiv
    cases d <;> cases e <;> simp only [binVal, reduceCtorEq, Option.some.injEq] at hz
    split at hz
    · rename_i hs
      cases hz
      refine OpR.imp op_fdivW fun x y H Q ⟨Hf, ρ, ω, σ, env, m, a, r1, r2, q⟩ => ?_
      rw [r1.int, r2.int]
      exact ⟨_, _, rfl, rfl, hs, q _ H Hf ρ (Pres.refl _ _ _) a.fine ⟨.int _, rfl⟩⟩
    · cases hz
  · -- pow
    cases d <;> cases e <;> simp only [binVal, reduceCtorEq, Option.some.injEq] at hz
    split at hz
    · rename_i hs
      cases hz
      refine OpR.imp op_pow fun x y H Q ⟨Hf, ρ, ω, σ, env, m, a, r1, r2, q⟩ => ?_
      rw [r1.int, r2.int]
      exact ⟨_, _, rfl, rfl, hs, q _ H Hf ρ (Pres.refl _ _ _) a.fine ⟨.int _, rfl⟩⟩
    · cases hz
  · -- shl
    cases d <;> cases e <;> simp only [binVal, reduceCtorEq, Option.some.injEq] at hz
    split at hz
    · rename_i hs
      cases hz
      refine OpR.imp op_shl fun x y H Q ⟨Hf, ρ, ω, σ, env, m, a, r1, r2, q⟩ => ?_
      rw [r1.int, r2.int]
      exact ⟨_, _, rfl, rfl, hs, q _ H Hf ρ (Pres.refl _ _ _) a.fine ⟨.int _, rfl⟩⟩
    · cases hz
  · -- bor
    cases d <;> cases e <;> simp only [binVal, reduceCtorEq, Option.some.injEq] at hz
    cases hz
    refine OpR.imp op_or fun x y H Q ⟨Hf, ρ, ω, σ, env, m, a, r1, r2, q⟩ => ?_
    rw [r1.int, r2.int]
    exact ⟨_, _, rfl, rfl, q _ H Hf ρ (Pres.refl _ _ _) a.fine ⟨.int _, rfl⟩⟩
  · -- band
    cases d <;> cases e <;> simp only [binVal, reduceCtorEq, Option.some.injEq] at hz
    cases hz
    refine OpR.imp op_and fun x y H Q ⟨Hf, ρ, ω, σ, env, m, a, r1, r2, q⟩ => ?_
    rw [r1.int, r2.int]
    exact ⟨_, _, rfl, rfl, q _ H Hf ρ (Pres.refl _ _ _) a.fine ⟨.int _, rfl⟩⟩
end
end Eng

set_option Elab.async false
set_option linter.all false
set_option maxRecDepth 100000
set_option maxHeartbeats 1000000
/-! Operators, comparisons, subscripts, built-ins: by values. -/
namespace Eng
open PySem PySem.Spec PyProof.Rows L2
section
variable {X : Cx} {XR : XRel} {W : WX}
theorem RepB.isNon {K : PySem.W.Frag} {H Hf : Hp} {ρ : List Addr} {v : V} {d : PyData} (r : RepB K H Hf ρ v (.dat d)) : decide (v = .non) = isNoneD d := by
  rcases r with ⟨d', hz⟩ | ⟨p, vs, ys, e, rfl, h, _, _, ha, hz⟩
  · cases d' <;> rfl
  · cases e; rfl
theorem op_isD {d e z : PyData} (hz : cmpVal .is d e = some z) : OpR X (compareOp .Is) (fun x y H Q => ∃ Hf ρ ω σ env m, At X.K H σ Hf ρ ω env m ∧ RepB X.K H Hf ρ x (.dat d) ∧ RepB X.K H Hf ρ y (.dat e) ∧
    ∀ v H' Hf' ρ', Pres H Hf ρ H' Hf' ρ' → Fine X.K H' Hf' ρ' m → RepU X.K Hf' ρ' v (.dat z) → Q v H') := by
  cases e with
  | none =>
    have hz' : z = .bool (isNoneD d) := by cases d <;> exact (Option.some.inj hz).symm
    subst hz'
    refine OpR.imp op_isN fun x y H Q ⟨Hf, ρ, ω, σ, env, m, a, r1, r2, q⟩ => ?_
    refine ⟨r2.none, q _ H Hf ρ (Pres.refl _ _ _) a.fine ?_⟩
    rw [r1.isNon]
    exact ⟨.bl _, rfl⟩
  | bool b =>
    cases d <;> simp only [cmpVal, reduceCtorEq, Option.some.injEq] at hz
    subst hz
    refine OpR.imp op_isBl fun x y H Q ⟨Hf, ρ, ω, σ, env, m, a, r1, r2, q⟩ => ?_
    rw [r1.bool, r2.bool]
    exact ⟨_, _, rfl, rfl, q _ H Hf ρ (Pres.refl _ _ _) a.fine ⟨.bl _, rfl⟩⟩
  | _ => cases d <;> simp only [cmpVal, reduceCtorEq] at hz
theorem op_isnotD {d e z : PyData} (hz : cmpVal .isnot d e = some z) : OpR X (compareOp .IsNot) (fun x y H Q => ∃ Hf ρ ω σ env m, At X.K H σ Hf ρ ω env m ∧ RepB X.K H Hf ρ x (.dat d) ∧ RepB X.K H Hf ρ y (.dat e) ∧
    ∀ v H' Hf' ρ', Pres H Hf ρ H' Hf' ρ' → Fine X.K H' Hf' ρ' m → RepU X.K Hf' ρ' v (.dat z) → Q v H') := by
  cases e with
  | none =>
    have hz' : z = .bool (!isNoneD d) := by cases d <;> exact (Option.some.inj hz).symm
    subst hz'
    refine OpR.imp op_notN fun x y H Q ⟨Hf, ρ, ω, σ, env, m, a, r1, r2, q⟩ => ?_
    refine ⟨r2.none, q _ H Hf ρ (Pres.refl _ _ _) a.fine ?_⟩
    rw [r1.isNon]
    exact ⟨.bl _, rfl⟩
  | bool b =>
    cases d <;> simp only [cmpVal, reduceCtorEq, Option.some.injEq] at hz
    subst hz
    refine OpR.imp op_notBl fun x y H Q ⟨Hf, ρ, ω, σ, env, m, a, r1, r2, q⟩ => ?_
    rw [r1.bool, r2.bool]
    exact ⟨_, _, rfl, rfl, q _ H Hf ρ (Pres.refl _ _ _) a.fine ⟨.bl _, rfl⟩⟩
  | _ => cases d <;> simp only [cmpVal, reduceCtorEq] at hz
theorem op_eqq {d e z : PyData} (hu : X.A.units + 64 < cLine) (hz : cmpVal .eq d e = some z) : OpR X (compareOp .Eq) (fun x y H Q => ∃ Hf ρ ω σ env m, At X.K H σ Hf ρ ω env m ∧ RepB X.K H Hf ρ x (.dat d) ∧ RepB X.K H Hf ρ y (.dat e) ∧
    ∀ v H' Hf' ρ', Pres H Hf ρ H' Hf' ρ' → Fine X.K H' Hf' ρ' m → RepU X.K Hf' ρ' v (.dat z) → Q v H') := by
  have gen : (if SeqAt.shaped d = true ∧ SeqAt.shaped e = true then some (PyData.bool (PyData.eqv d e)) else none) = some z → OpR X (compareOp .Eq) (fun x y H Q => ∃ Hf ρ ω σ env m, At X.K H σ Hf ρ ω env m ∧ RepB X.K H Hf ρ x (.dat d) ∧ RepB X.K H Hf ρ y (.dat e) ∧
    ∀ v H' Hf' ρ', Pres H Hf ρ H' Hf' ρ' → Fine X.K H' Hf' ρ' m → RepU X.K Hf' ρ' v (.dat z) → Q v H') := fun hz => by
    split at hz
    · rename_i hs
      cases hz
      refine OpR.imp (op_eqD hu) fun x y H Q ⟨Hf, ρ, ω, σ, env, m, a, r1, r2, q⟩ => ?_
      obtain ⟨d1, s1⟩ := r1.dp a.fine.sub
      obtain ⟨d2, s2⟩ := r2.dp a.fine.sub
      exact ⟨_, _, d1, d2, hs.1, hs.2, q _ H Hf ρ (Pres.refl _ _ _) a.fine ⟨.bl _, rfl⟩⟩
    · cases hz
  cases d with
  | int i =>
    cases e with
    | int j =>
      cases hz
      refine OpR.imp op_eq fun x y H Q ⟨Hf, ρ, ω, σ, env, m, a, r1, r2, q⟩ => ?_
      rw [r1.int, r2.int]
      refine ⟨rfl, q _ H Hf ρ (Pres.refl _ _ _) a.fine ⟨?_, rfl⟩⟩
      rw [show decide (V.int i = V.int j) = decide (i = j) from by rw [dec_int, Bool.beq_eq_decide_eq]]
      exact .bl _
    | _ => exact gen hz
  | str i =>
    cases e with
    | str j =>
      cases hz
      refine OpR.imp op_eq fun x y H Q ⟨Hf, ρ, ω, σ, env, m, a, r1, r2, q⟩ => ?_
      rw [r1.str.1, r2.str.1]
      refine ⟨rfl, q _ H Hf ρ (Pres.refl _ _ _) a.fine ⟨?_, rfl⟩⟩
      rw [show decide (V.str i = V.str j) = decide (i = j) from by rw [dec_str, Bool.beq_eq_decide_eq]]
      exact .bl _
    | _ => exact gen hz
  | _ => cases e <;> exact gen hz
theorem op_nee {d e z : PyData} (hu : X.A.units + 64 < cLine) (hz : cmpVal .ne d e = some z) : OpR X (compareOp .NotEq) (fun x y H Q => ∃ Hf ρ ω σ env m, At X.K H σ Hf ρ ω env m ∧ RepB X.K H Hf ρ x (.dat d) ∧ RepB X.K H Hf ρ y (.dat e) ∧
    ∀ v H' Hf' ρ', Pres H Hf ρ H' Hf' ρ' → Fine X.K H' Hf' ρ' m → RepU X.K Hf' ρ' v (.dat z) → Q v H') := by
  have gen : (if SeqAt.shaped d = true ∧ SeqAt.shaped e = true then some (PyData.bool (!PyData.eqv d e)) else none) = some z → OpR X (compareOp .NotEq) (fun x y H Q => ∃ Hf ρ ω σ env m, At X.K H σ Hf ρ ω env m ∧ RepB X.K H Hf ρ x (.dat d) ∧ RepB X.K H Hf ρ y (.dat e) ∧
    ∀ v H' Hf' ρ', Pres H Hf ρ H' Hf' ρ' → Fine X.K H' Hf' ρ' m → RepU X.K Hf' ρ' v (.dat z) → Q v H') := fun hz => by
    split at hz
    · rename_i hs
      cases hz
      refine OpR.imp (op_neD hu) fun x y H Q ⟨Hf, ρ, ω, σ, env, m, a, r1, r2, q⟩ => ?_
      obtain ⟨d1, s1⟩ := r1.dp a.fine.sub
      obtain ⟨d2, s2⟩ := r2.dp a.fine.sub
      exact ⟨_, _, d1, d2, hs.1, hs.2, q _ H Hf ρ (Pres.refl _ _ _) a.fine ⟨.bl _, rfl⟩⟩
    · cases hz
  cases d with
  | int i =>
    cases e with
    | int j =>
      cases hz
      refine OpR.imp op_ne fun x y H Q ⟨Hf, ρ, ω, σ, env, m, a, r1, r2, q⟩ => ?_
      rw [r1.int, r2.int]
      refine ⟨rfl, q _ H Hf ρ (Pres.refl _ _ _) a.fine ⟨?_, rfl⟩⟩
      rw [show decide (V.int i = V.int j) = decide (i = j) from by rw [dec_int, Bool.beq_eq_decide_eq]]
      exact .bl _
    | _ => exact gen hz
  | str i =>
    cases e with
    | str j =>
      cases hz
      refine OpR.imp op_ne fun x y H Q ⟨Hf, ρ, ω, σ, env, m, a, r1, r2, q⟩ => ?_
      rw [r1.str.1, r2.str.1]
      refine ⟨rfl, q _ H Hf ρ (Pres.refl _ _ _) a.fine ⟨?_, rfl⟩⟩
      rw [show decide (V.str i = V.str j) = decide (i = j) from by rw [dec_str, Bool.beq_eq_decide_eq]]
      exact .bl _
    | _ => exact gen hz
  | _ => cases e <;> exact gen hz
theorem op_inn {d e z : PyData} (hu : X.A.units + 64 < cLine) (hz : cmpVal .in_ d e = some z) : OpR X (compareOp .In) (fun x y H Q => ∃ Hf ρ ω σ env m, At X.K H σ Hf ρ ω env m ∧ RepB X.K H Hf ρ x (.dat d) ∧ RepB X.K H Hf ρ y (.dat e) ∧
    ∀ v H' Hf' ρ', Pres H Hf ρ H' Hf' ρ' → Fine X.K H' Hf' ρ' m → RepU X.K Hf' ρ' v (.dat z) → Q v H') := by
  cases e <;> simp only [cmpVal, reduceCtorEq] at hz
  all_goals
    split at hz
    · rename_i hs
      cases hz
      refine OpR.imp (op_inA hu) fun x y H Q ⟨Hf, ρ, ω, σ, env, m, a, r1, r2, q⟩ => ?_
      obtain ⟨d1, s1⟩ := r1.dp a.fine.sub
      obtain ⟨d2, s2⟩ := r2.dp a.fine.sub
      exact ⟨_, _, _, d1, d2, by first | exact .inl rfl | exact .inr rfl, hs.1, hs.2.1, hs.2.2, q _ H Hf ρ (Pres.refl _ _ _) a.fine ⟨.bl _, rfl⟩⟩
    · cases hz
theorem op_ninn {d e z : PyData} (hu : X.A.units + 64 < cLine) (hz : cmpVal .notin d e = some z) : OpR X (compareOp .NotIn) (fun x y H Q => ∃ Hf ρ ω σ env m, At X.K H σ Hf ρ ω env m ∧ RepB X.K H Hf ρ x (.dat d) ∧ RepB X.K H Hf ρ y (.dat e) ∧
    ∀ v H' Hf' ρ', Pres H Hf ρ H' Hf' ρ' → Fine X.K H' Hf' ρ' m → RepU X.K Hf' ρ' v (.dat z) → Q v H') := by
  cases e <;> simp only [cmpVal, reduceCtorEq] at hz
  all_goals
    split at hz
    · rename_i hs
      cases hz
      refine OpR.imp (op_notInA hu) fun x y H Q ⟨Hf, ρ, ω, σ, env, m, a, r1, r2, q⟩ => ?_
      obtain ⟨d1, s1⟩ := r1.dp a.fine.sub
      obtain ⟨d2, s2⟩ := r2.dp a.fine.sub
      exact ⟨_, _, _, d1, d2, by first | exact .inl rfl | exact .inr rfl, hs.1, hs.2.1, hs.2.2, q _ H Hf ρ (Pres.refl _ _ _) a.fine ⟨.bl _, rfl⟩⟩
    · cases hz
theorem op_cmp (hu : X.A.units + 64 < cLine) (o : CmpO) (op : CmpOp) (hb : cmpB o op = true) : OpR X (compareOp op) (opD X.K (cmpVal o)) := by
  refine op_cases fun d e z hz => ?_
  cases o <;> cases op <;> simp only [cmpB, Bool.false_eq_true] at hb
  · exact op_eqq hu hz
  · exact op_nee hu hz
  rotate_left 4
  · exact op_isD hz
  · exact op_isnotD hz
  · exact op_inn hu hz
  · exact op_ninn hu hz
  all_goals (cases d <;> cases e <;> simp only [cmpVal, reduceCtorEq, Option.some.injEq] at hz)
  · subst hz
    refine OpR.imp op_lt fun x y H Q ⟨Hf, ρ, ω, σ, env, m, a, r1, r2, q⟩ => ?_
    rw [r1.int, r2.int]
    exact ⟨_, _, rfl, rfl, q _ H Hf ρ (Pres.refl _ _ _) a.fine ⟨.bl _, rfl⟩⟩
  · subst hz
    refine OpR.imp op_le fun x y H Q ⟨Hf, ρ, ω, σ, env, m, a, r1, r2, q⟩ => ?_
    rw [r1.int, r2.int]
    exact ⟨_, _, rfl, rfl, q _ H Hf ρ (Pres.refl _ _ _) a.fine ⟨.bl _, rfl⟩⟩
  · subst hz
    refine OpR.imp op_gt fun x y H Q ⟨Hf, ρ, ω, σ, env, m, a, r1, r2, q⟩ => ?_
    rw [r1.int, r2.int]
    exact ⟨_, _, rfl, rfl, q _ H Hf ρ (Pres.refl _ _ _) a.fine ⟨.bl _, rfl⟩⟩
  · subst hz
    refine OpR.imp op_ge fun x y H Q ⟨Hf, ρ, ω, σ, env, m, a, r1, r2, q⟩ => ?_
    rw [r1.int, r2.int]
    exact ⟨_, _, rfl, rfl, q _ H Hf ρ (Pres.refl _ _ _) a.fine ⟨.bl _, rfl⟩⟩

/-! ### subscripts -/
def ixD (K : PySem.W.Frag) : R2 := fun x y H Q => (∃ Hf ρ ω σ env m d i z, At K H σ Hf ρ ω env m ∧ RepB K H Hf ρ x (.dat d) ∧ y = .int i ∧ ixVal d (.int i) = some z ∧
    ∀ v H' Hf' ρ', Pres H Hf ρ H' Hf' ρ' → Fine K H' Hf' ρ' m → RepU K Hf' ρ' v (.dat z) → Q v H') ∨
  (∃ Hf ρ ω σ env m k xs j z, At K H σ Hf ρ ω env m ∧ RepB K H Hf ρ x (.ref k) ∧ y = .int j ∧ m[k]? = some (.lst xs) ∧ L2.atI xs j = some z ∧
    ∀ v H' Hf' ρ', Pres H Hf ρ H' Hf' ρ' → Fine K H' Hf' ρ' m → RepU K Hf' ρ' v (.dat z) → Q v H')
theorem IxR.imp {r r' : R2} (h : IxR X r) (hi : ∀ x y H Q, r' x y H Q → r x y H Q) : IxR X r' := fun a b pins s σ H x y v u Q I rx ry q hs => h a b pins s σ H x y v u Q I rx ry (hi _ _ _ _ q) hs
theorem atI_rep {K : PySem.W.Frag} {H : Hp} {vs : List V} {ds : List PyData} (h : DpAll K H vs ds) {i : Int} {z : PyData} (e : atI ds i = some z) : ∃ v, atI vs i = some v ∧ Dp K H v z := by
  unfold atI at *
  rw [h.len]
  cases hj : ixN ds.length i with
  | none => rw [hj] at e; cases e
  | some j =>
    rw [hj] at e
    exact h.get (show ds[j]? = some z from e)
theorem atI_mem {ds : List PyData} {i : Int} {z : PyData} (e : atI ds i = some z) : z ∈ ds := by
  unfold atI at e
  cases hj : ixN ds.length i with
  | none => rw [hj] at e; cases e
  | some j => rw [hj] at e; exact List.mem_of_getElem? (show ds[j]? = some z from e)
theorem ix_D : IxR X (ixD X.K) := by
  refine IxR.imp ix_seq fun x y H Q h => ?_
  rcases h with ⟨Hf, ρ, ω, σ, env, m, d, i, z, a, r, rfl, hz, q⟩ | ⟨Hf, ρ, ω, σ, env, m, k, xs, j, z, a, r, rfl, hk, hz, q⟩
  · cases d <;> simp only [ixVal, reduceCtorEq] at hz
    · obtain ⟨p, vs, rfl, h1, h2, h3⟩ := r.list a.fine.sub
      obtain ⟨v, e1, e2⟩ := atI_rep h2 hz
      exact .inl ⟨p, vs, i, v, rfl, rfl, h1, e1, q _ H Hf ρ (Pres.refl _ _ _) a.fine ⟨e2, szAll_iff.mp (sz_list.mp h3).2 _ (atI_mem hz)⟩⟩
    · obtain ⟨p, vs, rfl, h1, h2, h3⟩ := r.tup a.fine.sub
      obtain ⟨v, e1, e2⟩ := atI_rep h2 hz
      exact .inr (.inl ⟨p, vs, i, v, rfl, rfl, h1, e1, q _ H Hf ρ (Pres.refl _ _ _) a.fine ⟨e2, szAll_iff.mp (sz_tuple.mp h3).2 _ (atI_mem hz)⟩⟩)
  · rcases r with ⟨p, e, rfl⟩ | ⟨p, vs, ys, e, _⟩
    · obtain ⟨vs, h1, h2, h3⟩ := a.fine.at_ k p _ e hk
      obtain ⟨v, e1, e2⟩ := atI_rep h2 hz
      exact .inl ⟨p, vs, j, v, rfl, rfl, .inl (.inl h1), e1, q _ H Hf ρ (Pres.refl _ _ _) a.fine ⟨e2, szAll_iff.mp (sz_list.mp h3).2 _ (atI_mem hz)⟩⟩
    · cases e
def slD (K : PySem.W.Frag) : V → Option Int → Option Int → Hp → VK → Prop := fun x lo hi H Q => ∃ Hf ρ ω σ env m d z, At K H σ Hf ρ ω env m ∧ RepB K H Hf ρ x (.dat d) ∧ slVal d lo hi = some z ∧
    ∀ v H' Hf' ρ', Pres H Hf ρ H' Hf' ρ' → Fine K H' Hf' ρ' m → RepU K Hf' ρ' v (.dat z) → Q v H'
theorem SlR.imp {r r' : V → Option Int → Option Int → Hp → VK → Prop} (h : SlR X r) (hi : ∀ x l u H Q, r' x l u H Q → r x l u H Q) : SlR X r' := fun pins s σ H x v vl vu lo hi' sl Q I rx hs pl pu q => h pins s σ H x v vl vu lo hi' sl Q I rx hs pl pu (hi _ _ _ _ _ q)
end
end Eng

set_option Elab.async false
set_option linter.all false
set_option maxRecDepth 100000
set_option maxHeartbeats 1000000
/-! Built-ins by values. -/
namespace Eng
open PySem PySem.Spec PyProof.Rows L2
section
variable {X : Cx} {XR : XRel} {W : WX}
theorem CallR.imp {f : Value} {r r' : List V → Hp → VK → Prop} (h : CallR X f r) (hi : ∀ xs H Q, r' xs H Q → r xs H Q) : CallR X f r' := fun pins s σ H xs us Q I rx q => h pins s σ H xs us Q I rx (hi _ _ _ q)
def b1D (K : PySem.W.Frag) (f : B1) : List V → Hp → VK → Prop := fun xs H Q => ∃ Hf ρ ω σ env m x d z, xs = [x] ∧ At K H σ Hf ρ ω env m ∧ RepB K H Hf ρ x (.dat d) ∧ b1Val f d = some z ∧
  ∀ v H' Hf' ρ', Pres H Hf ρ H' Hf' ρ' → Fine K H' Hf' ρ' m → RepU K Hf' ρ' v (.dat z) → Q v H'
def b1C : B1 → Value
  | .len => .builtin "len" | .tuple => .type "tuple" | .list => .type "list" | .abs => .builtin "abs" | .int => .type "int" | .all => .builtin "all" | .any => .builtin "any" | .sum => .builtin "sum" | .max => .builtin "max" | .min => .builtin "min" | .repr => .builtin "repr" | .sorted => .builtin "sorted"
theorem b1boot (f : B1) : bootBuiltins (b1N f) = some (b1C f) := by cases f <;> decide +kernel
theorem maxL_mem : ∀ {ns : List Int}, ns ≠ [] → maxL ns ∈ ns ∧ ∀ y ∈ ns, y ≤ maxL ns
  | [], h => absurd rfl h
  | [x], _ => by simp [maxL]
  | x :: y :: r, _ => by
    obtain ⟨h1, h2⟩ := maxL_mem (ns := y :: r) (by simp)
    have e : maxL (x :: y :: r) = max x (maxL (y :: r)) := rfl
    rw [e]
    refine ⟨?_, fun z hz => ?_⟩
    · rcases Int.le_total x (maxL (y :: r)) with q | q
      · rw [Int.max_eq_right q]; exact List.mem_cons_of_mem _ h1
      · rw [Int.max_eq_left q]; exact List.mem_cons_self
    · rcases List.mem_cons.mp hz with rfl | hz
      · exact Int.le_max_left ..
      · exact Int.le_trans (h2 z hz) (Int.le_max_right ..)
theorem minL_mem : ∀ {ns : List Int}, ns ≠ [] → minL ns ∈ ns ∧ ∀ y ∈ ns, minL ns ≤ y
  | [], h => absurd rfl h
  | [x], _ => by simp [minL]
  | x :: y :: r, _ => by
    obtain ⟨h1, h2⟩ := minL_mem (ns := y :: r) (by simp)
    have e : minL (x :: y :: r) = min x (minL (y :: r)) := rfl
    rw [e]
    refine ⟨?_, fun z hz => ?_⟩
    · rcases Int.le_total x (minL (y :: r)) with q | q
      · rw [Int.min_eq_left q]; exact List.mem_cons_self
      · rw [Int.min_eq_right q]; exact List.mem_cons_of_mem _ h1
    · rcases List.mem_cons.mp hz with rfl | hz
      · exact Int.min_le_left ..
      · exact Int.le_trans (Int.min_le_right ..) (h2 z hz)
theorem cr_repr (hg : X.A.guards = some []) (hu : X.A.units + 64 < cLine) : CallR X (.builtin "repr") (fun xs H Q => ∃ x d, xs = [x] ∧ Dp X.K H x d ∧ szOk d = true ∧ d.showable = true ∧ d.shown.length ≤ sizeLine ∧ d.depth ≤ 60 ∧ Q (.str d.shown) H) := by
  intro pins s σ H xs us Q I r h
  obtain ⟨x, d, rfl, hd, hsz, hs, hl, hdp, q⟩ := h
  obtain ⟨u, rfl, ru⟩ := vals1 r
  cases d with
  | none =>
    cases hd; cases ru
    exact PySem.P.repr_of_none ⟨.str _, H, I.tok _, ⟨_, rfl⟩, q⟩
  | bool b =>
    cases hd; cases ru
    exact PySem.P.repr_of_bool ⟨.str _, H, I.tok _, ⟨_, rfl⟩, q⟩
  | int i =>
    cases hd; obtain ⟨t, rfl⟩ := ru
    exact PySem.P.repr_of_int (of_decide_eq_true hs) ⟨.str _, H, I.tok _, ⟨_, rfl⟩, q⟩
  | str z =>
    cases hd; obtain ⟨t, rfl⟩ := ru
    exact PySem.P.repr_of_str ⟨.str _, H, I.tok _, ⟨_, rfl⟩, q⟩ hl
  | list ds =>
    obtain ⟨as, rd⟩ := Dp.reads I _ x u hd ru
    cases hd
    cases ru
    refine repr_of_reads' rd hs (PyData.noDict_hsm (noDict_of_sz _ hsz)) hg (by omega) (fun _ _ e => e) (fun h' u tk hk => ?_) hl
    exact ⟨.str _, H, I.kept (t' := tk) hk, ⟨_, rfl⟩, q⟩
  | tuple ds =>
    obtain ⟨as, rd⟩ := Dp.reads I _ x u hd ru
    cases hd
    cases ru
    refine repr_of_reads' rd hs (PyData.noDict_hsm (noDict_of_sz _ hsz)) hg (by omega) (fun _ _ e => e) (fun h' u tk hk => ?_) hl
    exact ⟨.str _, H, I.kept (t' := tk) hk, ⟨_, rfl⟩, q⟩
  | dict _ => cases hd

theorem RepB.seq {K : PySem.W.Frag} {H Hf : Hp} {ρ : List Addr} {v : V} {xs : List PyData} (r : RepB K H Hf ρ v (.dat (.tuple xs))) : RepU K Hf ρ v (.dat (.tuple xs)) := by
  rcases r with r | ⟨p, vs, ys, e, _⟩
  · exact r
  · cases e
theorem op_b1 (hg : X.A.guards = some []) (hu : X.A.units + 64 < cLine) (hc : X.calm = true) (f : B1) : CallR X (b1C f) (b1D X.K f) := by
  cases f with
  | len =>
    refine CallR.imp (CallR.or call_len_seq call_len_str) fun xs H Q ⟨Hf, ρ, ω, σ, env, m, x, d, z, e, a, r, hz, q⟩ => ?_
    subst e
    cases d <;> simp only [b1Val, reduceCtorEq, Option.some.injEq] at hz
    · subst hz
      obtain ⟨e1, z1⟩ := r.str
      simp only [szOk, decide_eq_true_eq] at z1
      exact .inr ⟨_, by rw [e1], z1, q _ H Hf ρ (Pres.refl _ _ _) a.fine ⟨.int _, rfl⟩⟩
    · subst hz
      obtain ⟨p, vs, rfl, h1, h2, h3⟩ := r.list a.fine.sub
      exact .inl ⟨p, vs, rfl, .inl h1, q _ H Hf ρ (Pres.refl _ _ _) a.fine ⟨by rw [h2.len]; exact .int _, rfl⟩⟩
    · subst hz
      obtain ⟨p, vs, rfl, h1, h2, h3⟩ := r.tup a.fine.sub
      exact .inl ⟨p, vs, rfl, .inr h1, q _ H Hf ρ (Pres.refl _ _ _) a.fine ⟨by rw [h2.len]; exact .int _, rfl⟩⟩
  | tuple =>
    refine CallR.imp call_tuple_of fun xs H Q ⟨Hf, ρ, ω, σ, env, m, x, d, z, e, a, r, hz, q⟩ => ?_
    subst e
    cases d <;> simp only [b1Val, reduceCtorEq, Option.some.injEq] at hz
    · subst hz
      obtain ⟨p, vs, rfl, h1, h2, h3⟩ := r.list a.fine.sub
      refine ⟨p, vs, rfl, .inl ⟨h1, fun b hb => ?_⟩⟩
      have hfb := a.free hb
      exact q _ _ _ ρ (Pres.new hb a.fine.sub) (a.fine.new hb) ⟨.tup (.inl (.inl upd_same)) (DpAll.mono (Sub.new hfb.1) _ _ h2), sz_tuple.mpr (sz_list.mp h3)⟩
    · subst hz
      have r' := r
      obtain ⟨p, vs, rfl, h1, h2, h3⟩ := r.tup a.fine.sub
      exact ⟨p, vs, rfl, .inr ⟨h1, q _ H Hf ρ (Pres.refl _ _ _) a.fine r'.seq⟩⟩
  | list =>
    refine CallR.imp call_list_of fun xs H Q ⟨Hf, ρ, ω, σ, env, m, x, d, z, e, a, r, hz, q⟩ => ?_
    subst e
    cases d <;> simp only [b1Val, reduceCtorEq, Option.some.injEq] at hz
    · subst hz
      obtain ⟨p, vs, rfl, h1, h2, h3⟩ := r.list a.fine.sub
      refine ⟨p, vs, rfl, .inl h1, fun b hb => ?_⟩
      have hfb := a.free hb
      exact q _ _ _ ρ (Pres.new hb a.fine.sub) (a.fine.new hb) ⟨.lst (.inl (.inl upd_same)) (DpAll.mono (Sub.new hfb.1) _ _ h2), h3⟩
    · subst hz
      obtain ⟨p, vs, rfl, h1, h2, h3⟩ := r.tup a.fine.sub
      refine ⟨p, vs, rfl, .inr h1, fun b hb => ?_⟩
      have hfb := a.free hb
      exact q _ _ _ ρ (Pres.new hb a.fine.sub) (a.fine.new hb) ⟨.lst (.inl (.inl upd_same)) (DpAll.mono (Sub.new hfb.1) _ _ h2), sz_list.mpr (sz_tuple.mp h3)⟩
  | abs =>
    refine CallR.imp call_abs fun xs H Q ⟨Hf, ρ, ω, σ, env, m, x, d, z, e, a, r, hz, q⟩ => ?_
    subst e
    cases d <;> simp only [b1Val, reduceCtorEq, Option.some.injEq] at hz
    subst hz
    rw [r.int]
    exact ⟨_, rfl, q _ H Hf ρ (Pres.refl _ _ _) a.fine ⟨.int _, rfl⟩⟩
  | int =>
    refine CallR.imp call_int1 fun xs H Q ⟨Hf, ρ, ω, σ, env, m, x, d, z, e, a, r, hz, q⟩ => ?_
    subst e
    cases d <;> simp only [b1Val, reduceCtorEq, Option.some.injEq] at hz
    · subst hz
      rw [r.bool]
      exact .inr ⟨_, rfl, q _ H Hf ρ (Pres.refl _ _ _) a.fine ⟨.int _, rfl⟩⟩
    · subst hz
      rw [r.int]
      exact .inl ⟨_, rfl, q _ H Hf ρ (Pres.refl _ _ _) a.fine ⟨.int _, rfl⟩⟩
  | all =>
    refine CallR.imp (cr_all hc) fun xs H Q ⟨Hf, ρ, ω, σ, env, m, x, d, z, e, a, r, hz, q⟩ => ?_
    subst e
    cases d <;> simp only [b1Val, reduceCtorEq, Option.map_eq_some_iff] at hz
    obtain ⟨bs, hb, rfl⟩ := hz
    obtain ⟨p, vs, rfl, h1, h2, h3⟩ := r.list a.fine.sub
    rw [h2.bools hb] at h1
    exact ⟨p, bs, rfl, h1, q _ H Hf ρ (Pres.refl _ _ _) a.fine ⟨.bl _, rfl⟩⟩
  | any =>
    refine CallR.imp (CallR.or (CallR.or (cr_any hc) (cr_anyI hc)) (cr_anyT hc)) fun xs H Q ⟨Hf, ρ, ω, σ, env, m, x, d, z, e, a, r, hz, q⟩ => ?_
    subst e
    cases d <;> simp only [b1Val, reduceCtorEq, Option.map_eq_some_iff] at hz
    · obtain ⟨p, vs, rfl, h1, h2, h3⟩ := r.list a.fine.sub
      split at hz
      · rename_i bs hb
        cases hz
        rw [h2.bools hb] at h1
        exact .inl (.inl ⟨p, bs, rfl, h1, q _ H Hf ρ (Pres.refl _ _ _) a.fine ⟨.bl _, rfl⟩⟩)
      · simp only [Option.map_eq_some_iff] at hz
        obtain ⟨bs, hb, rfl⟩ := hz
        rw [h2.ints hb] at h1
        exact .inl (.inr ⟨p, bs, rfl, h1, q _ H Hf ρ (Pres.refl _ _ _) a.fine ⟨.bl _, rfl⟩⟩)
    · obtain ⟨bs, hb, rfl⟩ := hz
      obtain ⟨p, vs, rfl, h1, h2, h3⟩ := r.tup a.fine.sub
      rw [h2.ints hb] at h1
      exact .inr ⟨p, bs, rfl, h1, q _ H Hf ρ (Pres.refl _ _ _) a.fine ⟨.bl _, rfl⟩⟩
  | sum =>
    refine CallR.imp (CallR.or (cr_sum hc) (cr_sumT hc)) fun xs H Q ⟨Hf, ρ, ω, σ, env, m, x, d, z, e, a, r, hz, q⟩ => ?_
    subst e
    cases d <;> simp only [b1Val, reduceCtorEq, Option.map_eq_some_iff] at hz
    · obtain ⟨bs, hb, rfl⟩ := hz
      obtain ⟨p, vs, rfl, h1, h2, h3⟩ := r.list a.fine.sub
      rw [h2.ints hb] at h1
      exact .inl ⟨p, bs, rfl, h1, q _ H Hf ρ (Pres.refl _ _ _) a.fine ⟨.int _, rfl⟩⟩
    · obtain ⟨bs, hb, rfl⟩ := hz
      obtain ⟨p, vs, rfl, h1, h2, h3⟩ := r.tup a.fine.sub
      rw [h2.ints hb] at h1
      exact .inr ⟨p, bs, rfl, h1, q _ H Hf ρ (Pres.refl _ _ _) a.fine ⟨.int _, rfl⟩⟩
  | sorted =>
    refine CallR.imp (cr_sortedD hu) fun xs H Q ⟨Hf, ρ, ω, σ, env, m, x, d, z, e, a, r, hz, q⟩ => ?_
    subst e
    cases d <;> simp only [b1Val, reduceCtorEq] at hz
    rename_i ds
    split at hz
    · rename_i hok
      cases hz
      obtain ⟨p, vs, rfl, h1, h2, h3⟩ := r.list a.fine.sub
      refine ⟨p, vs, ds, rfl, h1, DpAll.mono a.fine.sub _ _ h2, hok, fun zs b hp hs hb => ?_⟩
      have hfb := a.free hb
      have hall : ∀ {ds : List PyData} {vs : List V}, DpAll X.K Hf vs ds → ∀ z ∈ vs.zip ds, Dp X.K Hf z.1 z.2 := by
        intro ds
        induction ds with
        | nil => intro vs h z hz; cases h; simp at hz
        | cons d ds ih =>
          intro vs h z hz
          cases h with
          | cons k1 k2 =>
            rw [List.zip_cons_cons] at hz
            rcases List.mem_cons.mp hz with rfl | hz
            · exact k1
            · exact ih k2 z hz
      have back : ∀ {zs : List (V × PyData)}, (∀ z ∈ zs, Dp X.K Hf z.1 z.2) → DpAll X.K Hf (zs.map (·.1)) (zs.map (·.2)) := by
        intro zs
        induction zs with
        | nil => intro _; exact .nil
        | cons z zs ih => intro h; exact .cons (h z List.mem_cons_self) (ih fun y hy => h y (List.mem_cons_of_mem _ hy))
      have hd := back fun z hz => hall h2 z (hp.mem_iff.mp hz)
      rw [hs] at hd
      refine q _ _ _ ρ (Pres.new hb a.fine.sub) (a.fine.new hb) ⟨.lst (.inl (.inl upd_same)) (DpAll.mono (Sub.new hfb.1) _ _ hd), ?_⟩
      rw [sz_list] at h3 ⊢
      refine ⟨by rw [List.length_mergeSort]; exact h3.1, ?_⟩
      rw [szAll_iff] at h3 ⊢
      exact fun d hd => h3.2 d ((List.mergeSort_perm _ _).mem_iff.mp hd)
    · cases hz
  | max =>
    refine CallR.imp (cr_max hc) fun xs H Q ⟨Hf, ρ, ω, σ, env, m, x, d, z, e, a, r, hz, q⟩ => ?_
    subst e
    cases d <;> simp only [b1Val, reduceCtorEq, Option.bind_eq_some_iff] at hz
    obtain ⟨bs, hb, hz⟩ := hz
    split at hz
    · cases hz
    · rename_i hn
      cases hz
      obtain ⟨p, vs, rfl, h1, h2, h3⟩ := r.list a.fine.sub
      rw [h2.ints hb] at h1
      obtain ⟨g1, g2⟩ := maxL_mem hn
      refine ⟨p, bs, rfl, h1, List.length_pos_iff.mpr hn, fun k hk hy => ?_⟩
      rw [show k = maxL bs from Int.le_antisymm (g2 k hk) (hy _ g1)]
      exact q _ H Hf ρ (Pres.refl _ _ _) a.fine ⟨.int _, rfl⟩
  | min =>
    refine CallR.imp (cr_min hc) fun xs H Q ⟨Hf, ρ, ω, σ, env, m, x, d, z, e, a, r, hz, q⟩ => ?_
    subst e
    cases d <;> simp only [b1Val, reduceCtorEq, Option.bind_eq_some_iff] at hz
    obtain ⟨bs, hb, hz⟩ := hz
    split at hz
    · cases hz
    · rename_i hn
      cases hz
      obtain ⟨p, vs, rfl, h1, h2, h3⟩ := r.list a.fine.sub
      rw [h2.ints hb] at h1
      obtain ⟨g1, g2⟩ := minL_mem hn
      refine ⟨p, bs, rfl, h1, List.length_pos_iff.mpr hn, fun k hk hy => ?_⟩
      rw [show k = minL bs from Int.le_antisymm (hy _ g1) (g2 k hk)]
      exact q _ H Hf ρ (Pres.refl _ _ _) a.fine ⟨.int _, rfl⟩
  | repr =>
    refine CallR.imp (cr_repr hg hu) fun xs H Q ⟨Hf, ρ, ω, σ, env, m, x, d, z, e, a, r, hz, q⟩ => ?_
    subst e
    have hz' : (if d.showable && decide (d.shown.length ≤ sizeLine) && decide (d.depth ≤ 60) then some (.str d.shown) else none) = some z := by
      rw [← hz]; cases d <;> rfl
    split at hz'
    · rename_i hh
      simp only [Bool.and_eq_true, decide_eq_true_eq] at hh
      cases hz'
      obtain ⟨h1, h2⟩ := r.dp a.fine.sub
      refine ⟨x, d, rfl, h1, h2, hh.1.1, hh.1.2, hh.2, q _ H Hf ρ (Pres.refl _ _ _) a.fine ⟨.str _, ?_⟩⟩
      simp only [szOk, decide_eq_true_eq]
      exact hh.1.2
    · cases hz'
/-- list(..), a list of its own -/
theorem op_listF : CallR X (.type "list") (fun xs H Q => ∃ Hf ρ ω σ env m x d ds, xs = [x] ∧ At X.K H σ Hf ρ ω env m ∧ RepB X.K H Hf ρ x (.dat d) ∧ b1Val .list d = some (.list ds) ∧
    ∀ p vs, H p = none → DpAll X.K Hf vs ds → szOk (.list ds) = true → Q (.ref p) (upd H p (.lst vs))) := by
  refine CallR.imp call_list_of fun xs H Q ⟨Hf, ρ, ω, σ, env, m, x, d, z, e, a, r, hz, q⟩ => ?_
  subst e
  cases d <;> simp only [b1Val, reduceCtorEq, Option.some.injEq, PyData.list.injEq] at hz
  · subst hz
    obtain ⟨p, vs, rfl, h1, h2, h3⟩ := r.list a.fine.sub
    exact ⟨p, vs, rfl, .inl h1, fun b hb => q b vs hb h2 h3⟩
  · subst hz
    obtain ⟨p, vs, rfl, h1, h2, h3⟩ := r.tup a.fine.sub
    exact ⟨p, vs, rfl, .inr h1, fun b hb => q b vs hb h2 (sz_list.mpr (sz_tuple.mp h3))⟩
end
end Eng

set_option Elab.async false
set_option linter.all false
set_option maxRecDepth 100000
set_option maxHeartbeats 1000000
/-! Expressions: what a checked text evaluates to. -/
namespace Eng
open PySem PySem.Spec PyProof.Rows L2

/-- a def's promise: the evaluator's outcome -/
def spC (K : PySem.W.Frag) (XR : XRel) (g : List U → Mem → R U) : Sp := fun vs H Q E => ∃ Hf ρ m us, Fine K H Hf ρ m ∧ RUs K Hf ρ vs us ∧ OutE K XR (fun cls d _ H => E cls d H) [] H Hf ρ (RU K) (g us m) Q
/-- the own errors: their classes' texts, which clause takes which, isinstance -/
structure XTab (P : Program) (K : PySem.W.Frag) (mg : Str → Option Value) (cl : List (Str × Str)) (ci : List (Nat × Str × Bool)) : Prop where
  cls : ∀ (k : Nat) (p : Str × Str), cl[k]? = some p → ∃ C fI, EngX.OwnTxt P K mg p.1 p.2 C fI
  exm : ∀ (k k' : Nat) (p p' : Str × Str) (Ca Cb : Addr), cl[k]? = some p → cl[k']? = some p' → mg p.1 = some (.ref Ca) → mg p'.1 = some (.ref Cb) → PySem.W.exmOne K (.ref Ca) (.ref Cb) = some (decide (k = k'))
  isx : ∀ (k : Nat) (D : Str) (b : Bool) (p : Str × Str) (Ca : Addr), (k, D, b) ∈ ci → cl[k]? = some p → mg p.1 = some (.ref Ca) → ∃ Cd, mg D = some (.ref Cd) ∧ PySem.W.kitOne K (.ref Ca) (.ref Cd) = some b ∧ IsxC K Ca
theorem XTab.nil {P : Program} {K : PySem.W.Frag} {mg : Str → Option Value} : XTab P K mg [] [] :=
  ⟨fun k p h => by simp at h, fun k k' p p' Ca Cb h => by simp at h, fun k D b p Ca h => by simp at h⟩
/-- an own error that is on its way -/
def xrG (K : PySem.W.Frag) (mg : Str → Option Value) (cl : List (Str × Str)) : XRel := fun _ Hf ρ k u cls d =>
  ∃ (p : Str × Str) (Ca dd : Addr) (v : V), cl[k]? = some p ∧ mg p.1 = some (.ref Ca) ∧ cls = .ref Ca ∧ d = some dd ∧ Hf dd = some (.xd [(p.2, v)]) ∧ RepU K Hf ρ v u
/-- what a def that makes lambdas is known by -/
structure LamF (G : Cfg) (C : Calls) (XR : XRel) (X : Cx) (x : Str) : Prop where
  code : ∃ c0 P, X.env.code = .ref c0 ∧ PySem.W.tabIn X.K x = some (c0, P) ∧ LamX.TabB X.base X.mg c0 P
  qual : X.env.qual ++ "<lambda>" = lamQ x
  fns : ∃ k, Room (k + 2) X.A ∧ ∀ f y, G.nm f = some y → ∃ a fd ps, X.mg y = some (.ref a) ∧ PySem.W.keepIn X.K (.ref a) = true ∧ (G.kwo.contains f = false → Binds X.K fd ps []) ∧ FnG X.prog X.w X.K X.mg X.base k a fd ps (spC X.K XR (C f)) ∧
    ∀ na ks perm, (f, na, ks, perm) ∈ G.kb → KB fd ps na ks perm
/-- a def that calls what it got -/
def DF (K : PySem.W.Frag) (mg : Str → Option Value) (p : Str × Stmt × List Str) : Prop := ∃ (a : Addr) (fd : FuncData) (pa nn : Str), p.2.2 = [pa, nn] ∧ mg p.1 = some (.ref a) ∧ PySem.W.keepIn K (.ref a) = true ∧ Fun K p.1 p.1 p.2.1 a fd ∧ Binds K fd [pa] [] ∧ FnScope [pa, nn] [pa] (defScope p.2.1)
structure GX (G : Cfg) (N : List Str) (C : Calls) (XR : XRel) (X : Cx) (W : WX) (c : Sc) : Prop where
  hN : X.N = N
  sc : X.env.scope = c.sc
  fn : X.fn = c.fn
  nd : X.N.Nodup
  calm : X.calm = true
  gd : X.A.guards = some []
  takes : Takes X W
  un : X.A.units + 65 < cLine
  bn : ∀ x ∈ bnames, X.mg x = none
  fns : ∀ f x, G.nm f = some x → ∃ a fd ps k, X.mg x = some (.ref a) ∧ PySem.W.keepIn X.K (.ref a) = true ∧ (G.kwo.contains f = false → Binds X.K fd ps []) ∧ Room k X.A ∧ FnG X.prog X.w X.K X.mg X.base k a fd ps (spC X.K XR (C f)) ∧
    ∀ na ks perm, (f, na, ks, perm) ∈ G.kb → KB fd ps na ks perm
  gl : ∀ x d, (x, d) ∈ G.gl → ∃ u, X.mg x = some u ∧ (∀ v, sEq d v = true → ∃ z, RelV z u ∧ (∀ H, Dp X.K H z v) ∧ szOk v = true)
  gdt : ∀ x kvs nks, (x, kvs, nks) ∈ G.gd → ∃ a es n, X.mg x = some (.ref a) ∧ KDict X.K X.w a es n ∧ (∀ k i, (k, i) ∈ kvs → ∃ t, PySem.W.nsIn X.K a k = some (some (.int i t))) ∧ ∀ k ∈ nks, PySem.W.nsIn X.K a k = some none
  rm : ∃ k, Room k X.A
  xr : XR = xrG X.K X.mg G.cl
  xt : XTab X.prog X.K X.mg G.cl G.ci
  lamF : ∀ x, c.lam = some x → LamF G C XR X x
  dfs : ∀ p ∈ G.df, DF X.K X.mg p
theorem takes00 {X : Cx} : Takes X (fun _ _ _ _ => False) := fun _ _ x => by
  obtain ⟨_, _, _, _, _, _, _, _, _, _, _, _, _, _, _, _, w⟩ := x
  exact w.elim
section
variable {G : Cfg} {N : List Str} {C : Calls} {XR : XRel} {X : Cx} {W : WX} {c : Sc}
theorem GX.blk (g : GX G N C XR X W c) (s : Shared) (H : Hp) (scope : Scope) (cl : List (Str × Addr)) (D : Addr) (fp : List Addr) : GX G N C XR (X.blk s H scope (compEnvC scope cl D X.env) fp) (fun _ _ _ _ => False) (c.blk scope) :=
  ⟨g.hN, by show relS scope X.env.scope = _; rw [g.sc]; rfl, rfl, g.nd, g.calm, g.gd, takes00, g.un, g.bn, g.fns, g.gl, g.gdt, g.rm, g.xr, g.xt, (fun x h => by cases h), g.dfs⟩
theorem GX.vis (g : GX G N C XR X W c) {x : Str} (h : visB c x = true) : Vis X.env.scope x ∧ (x == ("__debug__" : Str)) = false ∧ (x == ("__classdict__" : Str)) = false := by
  unfold visB at h
  simp only [Bool.and_eq_true, Bool.or_eq_true, decide_eq_true_eq, Bool.not_eq_true'] at h
  obtain ⟨⟨h1, h2⟩, h3⟩ := h
  refine ⟨?_, h2, h3⟩
  unfold Vis
  rw [g.sc]
  rcases h1 with (h1 | h1) | h1
  · exact .inl h1
  · exact .inr (.inl h1)
  · exact .inr (.inr h1)
theorem GX.glo (g : GX G N C XR X W c) {x : Str} (h : glB c x = true) : Gl X x ∧ (x == ("__debug__" : Str)) = false := by
  unfold glB at h
  simp only [Bool.and_eq_true, decide_eq_true_eq, Bool.not_eq_true'] at h
  refine ⟨?_, h.2⟩
  show X.env.scope.names.lookup x = _
  rw [g.sc]; exact h.1
theorem cst_pe {d : PyData} {k : Const} {n : Nat} {p : Pos} (h : cstB d k = true) : ∃ v, PE X (.Constant k n p) (tC v) ∧ (∀ H, Dp X.K H v d) ∧ szOk d = true := by
  cases d <;> cases k <;> simp only [cstB, Bool.false_eq_true] at h
  · exact ⟨_, pe_non, fun _ => .non, rfl⟩
  · rw [beq_iff_eq.mp h]; exact ⟨_, pe_bl, fun _ => .bl _, rfl⟩
  · rw [beq_iff_eq.mp h]; exact ⟨_, pe_int, fun _ => .int _, rfl⟩
  · simp only [Bool.and_eq_true, decide_eq_true_eq] at h
    rw [h.1] at *
    exact ⟨_, pe_str, fun _ => .str _, h.2⟩
theorem pe_sc {e : Expr} {v : V} {d : PyData} {f : Env → Mem → R U} (h : PE X e (tC v)) (hd : ∀ H, Dp X.K H v d) (hz : szOk d = true) (hf : ∀ σ m, f σ m = .ok (.dat d) m) : PE X e (tU X.K XR W f) :=
  PE.imp h fun σ H Q ⟨Hf, ρ, ω, env, m, a, o⟩ => by
    rw [hf] at o
    exact a.ok o ⟨hd _, hz⟩
/-- a name -/
theorem pe_nameB (g : GX G N C XR X W c) {i : Nat} {x : Str} {p : Pos} (h1 : N[i]? = some x) (h2 : visB c x = true) (f : Env → Mem → R U)
    (hf : ∀ σ m, f σ m = getB σ i m) : PE X (.Name x p) (tB X.K XR W f) := by
  obtain ⟨v1, v2, v3⟩ := g.vis h2
  refine PE.imp (pe_var (i := i) (by rw [g.hN]; exact h1) v1 v2 v3) fun σ H Q ⟨Hf, ρ, ω, env, m, a, o⟩ => ?_
  rw [hf] at o
  unfold getB at o
  cases e : env[i]? with
  | none => rw [e] at o; exact o.elim
  | some sl =>
    rw [e] at o
    cases sl with
    | no => exact o.elim
    | v u =>
      obtain ⟨v, e1, r⟩ := a.slots.val i u e
      exact ⟨v, e1, a.ok o (.inl r)⟩
    | own xs =>
      obtain ⟨e1, e2, e3, ⟨vs, e4, e5⟩, e6⟩ := a.slots.own i xs e
      exact ⟨_, e1, a.ok o (.inr ⟨_, vs, xs, rfl, rfl, e4, e2, e3, e5, e6⟩)⟩
theorem pe_nameU (g : GX G N C XR X W c) {i : Nat} {x : Str} {p : Pos} (h1 : N[i]? = some x) (h2 : visB c x = true) : PE X (.Name x p) (tU X.K XR W (evE C (.var i))) := by
  obtain ⟨v1, v2, v3⟩ := g.vis h2
  refine PE.imp (pe_var (i := i) (by rw [g.hN]; exact h1) v1 v2 v3) fun σ H Q ⟨Hf, ρ, ω, env, m, a, o⟩ => ?_
  simp only [evE, getV] at o
  cases e : env[i]? with
  | none => rw [e] at o; exact o.elim
  | some sl =>
    rw [e] at o
    cases sl with
    | no => exact o.elim
    | v u =>
      obtain ⟨v, e1, r⟩ := a.slots.val i u e
      exact ⟨v, e1, a.ok o r⟩
    | own xs => exact o.elim
/-- a built-in of one argument -/
theorem pe_b1X (g : GX G N C XR X W c) {f : B1} {x : Str} {e : Expr} {p pos : Pos} {r : List V → Hp → VK → Prop} {t : TE} (hx : x = b1N f) (hg : glB c x = true) (he : PE X e t) (hp : pl e = true) (hr : CallR X (b1C f) r) :
    PE X (.Call (.Name x p) [e] [] pos) (tCB r (tCons t tNil)) := by
  obtain ⟨q1, q2⟩ := g.glo hg
  have hm : X.mg x = none := g.bn x (by rw [hx]; cases f <;> decide)
  have hv := b1boot f
  rw [← hx] at hv
  have hn : x ≠ "__name__" := by rw [hx]; cases f <;> decide
  have ha : PA X [e] (tCons t tNil) := pa_cons he pa_nil (star_pl hp)
  cases f <;> first
    | exact pe_callB hr q1 hm hv ha hn q2 (star_pl hp)
    | exact pe_callTy hr q1 hm hv ha hn q2 (star_pl hp)
/-- a value's class -/
def tyD : PyData → String
  | .none => "NoneType" | .bool _ => "bool" | .int _ => "int" | .str _ => "str" | .list _ => "list" | .tuple _ => "tuple" | .dict _ => "dict"
theorem ty_of {H : Hp} {v : V} {d : PyData} (h : Dp X.K H v d) : TyX X.K H v (.type (tyD d)) := by
  cases h with
  | non => exact .base .non
  | bl b => exact .base (.bl b)
  | int i => exact .base (.int i)
  | str x => exact .base (.str x)
  | lst hs ha =>
    rcases hs with (h | ⟨o, h⟩) | ⟨o, its, n, h, hc, _⟩
    · exact .base (.lst h)
    · exact .base (.frz h)
    · exact .kList h hc
  | tup hs ha =>
    rcases hs with (h | ⟨o, h⟩) | ⟨o, its, n, h, hc, _⟩
    · exact .base (.tup h)
    · exact .fTuple h
    · exact .kTuple h hc
def clsS : ClsT → String
  | .int => "int" | .bool => "bool" | .str => "str" | .list => "list" | .tuple => "tuple"
theorem cls_kit (k : ClsT) (d : PyData) (hd : szOk d = true) : PySem.W.kitOne X.K (.type (tyD d)) (.type (clsS k)) = some (clsVal k d) := by
  cases k <;> cases d <;> first | (simp only [tyD, clsVal, clsS]; exact kit_ty (by decide +kernel)) | (simp [szOk] at hd)
end
end Eng

set_option Elab.async false
set_option linter.all false
set_option maxRecDepth 100000
set_option maxHeartbeats 1000000
/-! Expressions: the cases. -/
namespace Eng
open PySem PySem.Spec PyProof.Rows L2

abbrev RBl : Hp → Hp → List Addr → Bool → Bool → Prop := fun _ _ _ b b' => b = b'
abbrev tT (K : PySem.W.Frag) (XR : XRel) (W : WX) (f : Env → Mem → R U) : TT := tR K XR W RBl (fun σ m => (f σ m).bind asB)
section
variable {G : Cfg} {N : List Str} {C : Calls} {XR : XRel} {X : Cx} {W : WX} {c : Sc} {f : Env → Mem → R U} {e : Expr}
/-- a value that is a truth value, as a test -/
theorem pt_of (h : PE X e (tU X.K XR W f)) (he : ∀ whole, isTrue e X.env whole = (do let v ← whole; standAt e.pos; holding [v] (truthy v))) : PT X e (tT X.K XR W f) :=
  PT.imp (pt_val h he) fun σ H Q ⟨Hf, ρ, ω, env, m, a, o⟩ => by
    refine ⟨Hf, ρ, ω, env, m, a, (OutE.bind (Rp' := RU X.K) o).mono fun v H1 ⟨u, Hf1, ρ1, m1, p, f1, r, o1⟩ => ?_⟩
    cases u with
    | ref i => exact o1.elim
    | dat d =>
      cases d with
      | bool b =>
        cases r.1
        exact ⟨b, rfl, (a.pres p f1).ok o1 rfl⟩
      | _ => exact o1.elim
end
end Eng

set_option Elab.async false
set_option linter.all false
set_option maxRecDepth 100000
set_option maxHeartbeats 1000000
/-! Expressions: a rule for each. -/
namespace Eng
open PySem PySem.Spec PyProof.Rows L2
section
variable {G : Cfg} {N : List Str} {C : Calls} {XR : XRel} {X : Cx} {W : WX} {c : Sc} {e e' l r : Expr} {pos : Pos} {f fa fb fc : Env → Mem → R U}
theorem RepB_d2 {F : PyData → PyData → Option PyData} {H Hf : Hp} {ρ : List Addr} {ω : Nat → Addr} {σ : L2.St} {env : Env} {m : Mem} {x y : V} {u u' : U} {Q : VK} (a : At X.K H σ Hf ρ ω env m) (r1 : RepB X.K H Hf ρ x u) (r2 : RepB X.K H Hf ρ y u')
    (o : OutE X.K XR W σ H Hf ρ (RU X.K) (d2 F u u' m) Q) : opD X.K F x y H Q := by
  cases u with
  | ref i => exact o.elim
  | dat d =>
    cases u' with
    | ref i => exact o.elim
    | dat e =>
      simp only [d2_dat] at o
      cases hz : F d e with
      | none => rw [hz] at o; exact o.elim
      | some z =>
        rw [hz] at o
        exact ⟨Hf, ρ, ω, σ, env, m, d, e, z, a, r1, r2, hz, o⟩
theorem rl_op {F : PyData → PyData → Option PyData} {o : Operator} (ha : PE X l (tB X.K XR W fa)) (hb : PE X r (tB X.K XR W fb)) (ho : OpR X (binaryOp o) (opD X.K F)) :
    PE X (.BinOp l o r pos) (tU X.K XR W fun σ m => (fa σ m).bind fun x m1 => (fb σ m1).bind fun y m2 => d2 F x y m2) :=
  PE.imp (pe_op ho ha hb) fun σ H Q ⟨Hf, ρ, ω, env, m, a, o⟩ => by
    obtain ⟨A, B, D, E, F', a1, o1⟩ := a.bind (Rp' := RB X.K) o
    refine ⟨A, B, D, E, F', a1, o1.mono fun x H1 ⟨u, Hf1, ρ1, m1, p, a1, r1, o1⟩ => ?_⟩
    obtain ⟨A, B, D, E, F', a2, o2⟩ := a1.bind (Rp' := RB X.K) o1
    refine ⟨A, B, D, E, F', a2, o2.mono fun y H2 ⟨u2, Hf2, ρ2, m2, p2, a2, r2, o2⟩ => ?_⟩
    exact RepB_d2 a2 (r1.pres p2) r2 o2
theorem rl_cmp {F : PyData → PyData → Option PyData} {o : CmpOp} (ha : PE X l (tB X.K XR W fa)) (hb : PE X r (tB X.K XR W fb)) (ho : OpR X (compareOp o) (opD X.K F)) (hp : pl r = true) :
    PE X (.Compare l [o] [r] pos) (tU X.K XR W fun σ m => (fa σ m).bind fun x m1 => (fb σ m1).bind fun y m2 => d2 F x y m2) :=
  PE.imp (pe_cmpR ho ha hb (mark_pl hp)) fun σ H Q ⟨Hf, ρ, ω, env, m, a, o⟩ => by
    obtain ⟨A, B, D, E, F', a1, o1⟩ := a.bind (Rp' := RB X.K) o
    refine ⟨A, B, D, E, F', a1, o1.mono fun x H1 ⟨u, Hf1, ρ1, m1, p, a1, r1, o1⟩ => ?_⟩
    obtain ⟨A, B, D, E, F', a2, o2⟩ := a1.bind (Rp' := RB X.K) o1
    refine ⟨A, B, D, E, F', a2, o2.mono fun y H2 ⟨u2, Hf2, ρ2, m2, p2, a2, r2, o2⟩ => ?_⟩
    exact RepB_d2 a2 (r1.pres p2) r2 o2
/-- a truth value, behind which a test goes on -/
theorem bl_of {H Hf : Hp} {ρ : List Addr} {ω : Nat → Addr} {σ : L2.St} {env : Env} {m : Mem} {Q : Bool → Hp → Prop} {x : V} {u : U} (a : At X.K H σ Hf ρ ω env m) (r : RepU X.K Hf ρ x u) (o : OutE X.K XR W σ H Hf ρ RBl (asB u m) Q) : ∃ k, x = .bl k ∧ Q k H := by
  cases u with
  | ref i => exact o.elim
  | dat d =>
    cases d with
    | bool b => cases r.1; exact ⟨b, rfl, a.ok o rfl⟩
    | _ => exact o.elim
theorem rt_cmp {F : PyData → PyData → Option PyData} {o : CmpOp} (ha : PE X l (tB X.K XR W fa)) (hb : PE X r (tB X.K XR W fb)) (ho : OpR X (compareOp o) (opD X.K F)) (hp : pl r = true) :
    PT X (.Compare l [o] [r] pos) (tT X.K XR W fun σ m => (fa σ m).bind fun x m1 => (fb σ m1).bind fun y m2 => d2 F x y m2) := by
  have h := pt_cmpR (pos := pos) ho ha hb (mark_pl hp)
  refine PT.imp h fun σ H Q ⟨Hf, ρ, ω, env, m, a, o⟩ => ?_
  dsimp only at o
  rw [R.bind_bind] at o
  obtain ⟨A, B, D, E, F', a1, o1⟩ := a.bind (Rp' := RB X.K) o
  refine ⟨A, B, D, E, F', a1, o1.mono fun x H1 ⟨u, Hf1, ρ1, m1, p, a1, r1, o1⟩ => ?_⟩
  rw [R.bind_bind] at o1
  obtain ⟨A, B, D, E, F', a2, o2⟩ := a1.bind (Rp' := RB X.K) o1
  refine ⟨A, B, D, E, F', a2, o2.mono fun y H2 ⟨u2, Hf2, ρ2, m2, p2, a2, r2, o2⟩ => ?_⟩
  refine RepB_d2 (XR := XR) (W := W) a2 (r1.pres p2) r2 ?_
  exact (OutE.bind (Rp' := RU X.K) o2).mono fun v H3 ⟨u3, Hf3, ρ3, m3, p3, f3, r3, o3⟩ => bl_of (a2.pres p3 f3) r3 o3
theorem tU_of_tT {σ : L2.St} {H : Hp} {Q : Bool → Hp → Prop} (h : tT X.K XR W f σ H Q) : tU X.K XR W f σ H (fun x H' => ∃ k, x = .bl k ∧ Q k H') := by
  obtain ⟨Hf, ρ, ω, env, m, a, o⟩ := h
  exact ⟨Hf, ρ, ω, env, m, a, (OutE.bind (Rp' := RU X.K) o).mono fun v H1 ⟨u, Hf1, ρ1, m1, p, f1, r, o1⟩ => bl_of (a.pres p f1) r o1⟩
theorem im_chain {F F' : PyData → PyData → Option PyData} {σ : L2.St} {H : Hp} {Q : VK} (h : tU X.K XR W (fun σ m => (fa σ m).bind fun x m1 => (fb σ m1).bind fun y m2 => (c2 F x y m2).bind fun k m3 => if k = true then (fc σ m3).bind fun z m4 => d2 F' y z m4 else .ok (.dat (.bool false)) m3) σ H Q) :
    tChain (opD X.K F) (opD X.K F') (tB X.K XR W fa) (tB X.K XR W fb) (tB X.K XR W fc) σ H Q := by
    obtain ⟨Hf, ρ, ω, env, m, a, o⟩ := h
    obtain ⟨A, B, D, E, F0, a1, o1⟩ := a.bind (Rp' := RB X.K) o
    refine ⟨A, B, D, E, F0, a1, o1.mono fun x H1 ⟨u, Hf1, ρ1, m1, p, a1, r1, o1⟩ => ?_⟩
    obtain ⟨A, B, D, E, F0, a2, o2⟩ := a1.bind (Rp' := RB X.K) o1
    refine ⟨A, B, D, E, F0, a2, o2.mono fun y H2 ⟨u2, Hf2, ρ2, m2, p2, a2, r2, o2⟩ => ?_⟩
    have r1 := r1.pres p2
    cases u with
    | ref i => exact o2.elim
    | dat d =>
      cases u2 with
      | ref i => exact o2.elim
      | dat e =>
        simp only [c2_dat] at o2
        cases hz : F d e with
        | none => rw [hz] at o2; exact o2.elim
        | some z =>
          rw [hz] at o2
          cases z with
          | bool k =>
            rw [boolOf_some, R.bind_ok] at o2
            refine ⟨_, _, _, _, _, _, d, e, _, a2, r1, r2, hz, fun v H3 Hf3 ρ3 p3 f3 r3 => ?_⟩
            cases r3.1
            refine ⟨k, rfl, ?_⟩
            have a3 := a2.pres p3 f3
            cases k with
            | true =>
              have o3 := OutE.pres p3 o2
              rw [if_pos rfl] at o3
              obtain ⟨A, B, D, E, F0, a4, o4⟩ := a3.bind (Rp' := RB X.K) o3
              refine ⟨A, B, D, E, F0, a4, o4.mono fun y H4 ⟨u4, Hf4, ρ4, m4, p4, a4, r4, o4⟩ => ?_⟩
              exact RepB_d2 a4 ((r2.pres p3).pres p4) r4 o4
            | false => exact a3.ok (OutE.pres p3 o2) ⟨.bl _, rfl⟩
          | _ => exact o2.elim
theorem rl_chain {F F' : PyData → PyData → Option PyData} {o o' : CmpOp} {b : Expr} (ha : PE X l (tB X.K XR W fa)) (hb : PE X b (tB X.K XR W fb)) (hc : PE X r (tB X.K XR W fc)) (ho : OpR X (compareOp o) (opD X.K F)) (ho' : OpR X (compareOp o') (opD X.K F')) (hp' : pl r = true) :
    PE X (.Compare l [o, o'] [b, r] pos) (tU X.K XR W fun σ m => (fa σ m).bind fun x m1 => (fb σ m1).bind fun y m2 => (c2 F x y m2).bind fun k m3 => if k = true then (fc σ m3).bind fun z m4 => d2 F' y z m4 else .ok (.dat (.bool false)) m3) :=
  PE.imp (pe_chain ho ho' ha hb hc (mark_pl hp')) fun σ H Q h => im_chain h
theorem rt_chain {F F' : PyData → PyData → Option PyData} {o o' : CmpOp} {b : Expr} (ha : PE X l (tB X.K XR W fa)) (hb : PE X b (tB X.K XR W fb)) (hc : PE X r (tB X.K XR W fc)) (ho : OpR X (compareOp o) (opD X.K F)) (ho' : OpR X (compareOp o') (opD X.K F')) (hp' : pl r = true) :
    PT X (.Compare l [o, o'] [b, r] pos) (tT X.K XR W fun σ m => (fa σ m).bind fun x m1 => (fb σ m1).bind fun y m2 => (c2 F x y m2).bind fun k m3 => if k = true then (fc σ m3).bind fun z m4 => d2 F' y z m4 else .ok (.dat (.bool false)) m3) :=
  PT.imp (pt_chain ho ho' ha hb hc (mark_pl hp')) fun σ H Q h => im_chain (tU_of_tT h)
theorem rl_not (ht : PT X e (tT X.K XR W f)) (hv : PE X e (tU X.K XR W f)) : PE X (.UnaryOp .Not e pos) (tU X.K XR W fun σ m => ((f σ m).bind asB).bind fun b m1 => .ok (.dat (.bool (!b))) m1) :=
  PE.imp (pe_not hv) fun σ H Q ⟨Hf, ρ, ω, env, m, a, o⟩ => by
    dsimp only at o
    rw [R.bind_bind] at o
    obtain ⟨A, B, D, E, F', a1, o1⟩ := a.bind (Rp' := RU X.K) o
    refine ⟨A, B, D, E, F', a1, o1.mono fun x H1 ⟨u, Hf1, ρ1, m1, p, a1, r1, o1⟩ => ?_⟩
    cases u with
    | ref i => exact o1.elim
    | dat d =>
      cases d with
      | bool b => cases r1.1; exact ⟨b, rfl, a1.ok o1 ⟨.bl _, rfl⟩⟩
      | _ => exact o1.elim
theorem rt_not (ht : PT X e (tT X.K XR W f)) : PT X (.UnaryOp .Not e pos) (tT X.K XR W fun σ m => ((f σ m).bind asB).bind fun b m1 => .ok (.dat (.bool (!b))) m1) :=
  PT.imp (pt_not ht) fun σ H Q ⟨Hf, ρ, ω, env, m, a, o⟩ => by
    dsimp only at o
    rw [R.bind_bind] at o
    obtain ⟨A, B, D, E, F', a1, o1⟩ := a.bind (f := fun σ m => (f σ m).bind asB) (Rp' := RBl) o
    refine ⟨A, B, D, E, F', a1, o1.mono fun x H1 ⟨u, Hf1, ρ1, m1, p, a1, r1, o1⟩ => ?_⟩
    cases r1
    exact a1.ok o1 rfl
/-- and, or: as a value, as a test; h: the rest (one value, or a further and) -/
theorem rl_and {rest : List Expr} {b : Expr} (ha : PE X l (tU X.K XR W fa)) (hb : PE X (.BoolOp .And (b :: rest) pos) (tU X.K XR W fb)) : PE X (.BoolOp .And (l :: b :: rest) pos) (tU X.K XR W fun σ m => ((fa σ m).bind asB).bind fun c m1 => if c = true then fb σ m1 else .ok (.dat (.bool false)) m1) :=
  PE.imp (pe_and ha hb) fun σ H Q ⟨Hf, ρ, ω, env, m, a, o⟩ => by
    dsimp only at o
    rw [R.bind_bind] at o
    obtain ⟨A, B, D, E, F', a1, o1⟩ := a.bind (Rp' := RU X.K) o
    refine ⟨A, B, D, E, F', a1, o1.mono fun x H1 ⟨u, Hf1, ρ1, m1, p, a1, r1, o1⟩ => ?_⟩
    cases u with
    | ref i => exact o1.elim
    | dat d =>
      cases d with
      | bool k =>
        cases r1.1
        refine ⟨k, rfl, ?_⟩
        cases k with
        | true => exact ⟨_, _, _, _, _, a1, o1⟩
        | false => exact a1.ok o1 ⟨.bl _, rfl⟩
      | _ => exact o1.elim
theorem rl_or {rest : List Expr} {b : Expr} (ha : PE X l (tU X.K XR W fa)) (hb : PE X (.BoolOp .Or (b :: rest) pos) (tU X.K XR W fb)) : PE X (.BoolOp .Or (l :: b :: rest) pos) (tU X.K XR W fun σ m => ((fa σ m).bind asB).bind fun c m1 => if c = true then .ok (.dat (.bool true)) m1 else fb σ m1) :=
  PE.imp (pe_or ha hb) fun σ H Q ⟨Hf, ρ, ω, env, m, a, o⟩ => by
    dsimp only at o
    rw [R.bind_bind] at o
    obtain ⟨A, B, D, E, F', a1, o1⟩ := a.bind (Rp' := RU X.K) o
    refine ⟨A, B, D, E, F', a1, o1.mono fun x H1 ⟨u, Hf1, ρ1, m1, p, a1, r1, o1⟩ => ?_⟩
    cases u with
    | ref i => exact o1.elim
    | dat d =>
      cases d with
      | bool k =>
        cases r1.1
        refine ⟨k, rfl, ?_⟩
        cases k with
        | true => exact a1.ok o1 ⟨.bl _, rfl⟩
        | false => exact ⟨_, _, _, _, _, a1, o1⟩
      | _ => exact o1.elim
theorem rt_and {rest : List Expr} {b : Expr} (ha : PT X l (tT X.K XR W fa)) (hb : PW X (.BoolOp .And (b :: rest) pos) (tT X.K XR W fb)) : PW X (.BoolOp .And (l :: b :: rest) pos) (tT X.K XR W fun σ m => ((fa σ m).bind asB).bind fun c m1 => if c = true then fb σ m1 else .ok (.dat (.bool false)) m1) :=
  PW.imp (pw_and ha hb) fun σ H Q ⟨Hf, ρ, ω, env, m, a, o⟩ => by
    dsimp only at o
    rw [R.bind_bind] at o
    obtain ⟨A, B, D, E, F', a1, o1⟩ := a.bind (f := fun σ m => (fa σ m).bind asB) (Rp' := RBl) o
    refine ⟨A, B, D, E, F', a1, o1.mono fun x H1 ⟨u, Hf1, ρ1, m1, p, a1, r1, o1⟩ => ?_⟩
    cases r1
    cases x with
    | true => exact ⟨_, _, _, _, _, a1, o1⟩
    | false => exact a1.ok o1 rfl
theorem rt_or {rest : List Expr} {b : Expr} (ha : PT X l (tT X.K XR W fa)) (hb : PW X (.BoolOp .Or (b :: rest) pos) (tT X.K XR W fb)) : PW X (.BoolOp .Or (l :: b :: rest) pos) (tT X.K XR W fun σ m => ((fa σ m).bind asB).bind fun c m1 => if c = true then .ok (.dat (.bool true)) m1 else fb σ m1) :=
  PW.imp (pw_or ha hb) fun σ H Q ⟨Hf, ρ, ω, env, m, a, o⟩ => by
    dsimp only at o
    rw [R.bind_bind] at o
    obtain ⟨A, B, D, E, F', a1, o1⟩ := a.bind (f := fun σ m => (fa σ m).bind asB) (Rp' := RBl) o
    refine ⟨A, B, D, E, F', a1, o1.mono fun x H1 ⟨u, Hf1, ρ1, m1, p, a1, r1, o1⟩ => ?_⟩
    cases r1
    cases x with
    | true => exact a1.ok o1 rfl
    | false => exact ⟨_, _, _, _, _, a1, o1⟩
theorem rl_ite {t : Expr} (ht : PT X t (tT X.K XR W f)) (ha : PE X l (tU X.K XR W fa)) (hb : PE X r (tU X.K XR W fb)) : PE X (.IfExp t l r pos) (tU X.K XR W fun σ m => ((f σ m).bind asB).bind fun c m1 => if c = true then fa σ m1 else fb σ m1) :=
  PE.imp (pe_ifExp ht ha hb) fun σ H Q ⟨Hf, ρ, ω, env, m, a, o⟩ => by
    obtain ⟨A, B, D, E, F', a1, o1⟩ := a.bind (f := fun σ m => (f σ m).bind asB) (Rp' := RBl) o
    refine ⟨A, B, D, E, F', a1, o1.mono fun x H1 ⟨u, Hf1, ρ1, m1, p, a1, r1, o1⟩ => ?_⟩
    cases r1
    cases x with
    | true => exact ⟨_, _, _, _, _, a1, o1⟩
    | false => exact ⟨_, _, _, _, _, a1, o1⟩
theorem rl_b1 (g : GX G N C XR X W c) {b : B1} {x : Str} {p : Pos} (hx : x = b1N b) (hg : glB c x = true) (he : PE X e (tB X.K XR W f)) (hp : pl e = true) :
    PE X (.Call (.Name x p) [e] [] pos) (tU X.K XR W fun σ m => (f σ m).bind (d1 (b1Val b))) :=
  PE.imp (pe_b1X g hx hg he hp (op_b1 g.gd (by have := g.un; omega) g.calm b)) fun σ H Q ⟨Hf, ρ, ω, env, m, a, o⟩ => by
    obtain ⟨A, B, D, E, F', a1, o1⟩ := a.bind (Rp' := RB X.K) o
    refine ⟨A, B, D, E, F', a1, o1.mono fun x H1 ⟨u, Hf1, ρ1, m1, p, a1, r1, o1⟩ => ?_⟩
    cases u with
    | ref i => exact o1.elim
    | dat d =>
      simp only [d1_dat] at o1
      cases hz : b1Val b d with
      | none => rw [hz] at o1; exact o1.elim
      | some z => rw [hz] at o1; exact ⟨_, _, _, _, _, _, x, d, z, rfl, a1, r1, hz, o1⟩
theorem valN_sz {kvs : List (NestedKey × PyData)} {k : NestedKey} {d : PyData} (h : valN kvs k = some d) (hs : ∀ p ∈ kvs, szOk p.2 = true ∧ szOk p.1.data = true) : szOk d = true := by
  unfold valN at h
  obtain ⟨p, h1, rfl⟩ := Option.map_eq_some_iff.mp h
  exact (hs p (List.mem_of_find?_eq_some h1)).1
theorem valI_sz {kvs : List (Int × PyData)} {i : Int} {d : PyData} (h : valI kvs i = some d) (hz : ∀ p ∈ kvs, szOk p.2 = true) : szOk d = true := by
  unfold valI at h
  obtain ⟨p, hp, rfl⟩ := Option.map_eq_some_iff.mp h
  exact hz p (List.mem_of_find?_eq_some hp)
theorem rl_ix (hu : X.A.units + 64 < cLine) (ha : PE X l (tB X.K XR W fa)) (hb : PE X r (tU X.K XR W fb)) (hp : pl r = true) : PE X (.Subscript l r pos) (tU X.K XR W fun σ m => (fa σ m).bind fun x m1 => (fb σ m1).bind fun y m2 => ixU x y m2) :=
  PE.imp (pe_ix (ix_D.or ((ix_dic hu).or ((ix_K hu).or ix_list))) ha hb (ix_pl hp)) fun σ H Q ⟨Hf, ρ, ω, env, m, a, o⟩ => by
    obtain ⟨A, B, D, E, F', a1, o1⟩ := a.bind (Rp' := RB X.K) o
    refine ⟨A, B, D, E, F', a1, o1.mono fun x H1 ⟨u, Hf1, ρ1, m1, p, a1, r1, o1⟩ => ?_⟩
    obtain ⟨A, B, D, E, F', a2, o2⟩ := a1.bind (Rp' := RU X.K) o1
    refine ⟨A, B, D, E, F', a2, o2.mono fun y H2 ⟨u2, Hf2, ρ2, m2, p2, a2, r2, o2⟩ => ?_⟩
    have r1 := r1.pres p2
    cases u2 with
    | ref i => cases u <;> exact o2.elim
    | dat i =>
      cases u with
      | dat d =>
        simp only [ixU_dat] at o2
        cases hz : ixVal d i with
        | none => rw [hz] at o2; exact o2.elim
        | some z =>
          rw [hz] at o2
          cases i <;> first
            | (cases d <;> simp [ixVal] at hz; done)
            | (cases r2.1; exact .inl (.inl ⟨_, _, _, _, _, _, d, _, z, a2, r1, rfl, hz, o2⟩))
      | ref k =>
        simp only [ixU] at o2
        cases hk : m2[k]? with
        | none => rw [hk] at o2; exact o2.elim
        | some ob =>
          rw [hk] at o2
          cases ob with
          | tab x => exact o2.elim
          | refs ks =>
            cases i with
            | int j =>
              simp only at o2
              cases r2.1
              cases hz : atI ks j with
              | none => rw [hz] at o2; exact o2.elim
              | some z =>
                rw [hz] at o2
                rcases r1 with ⟨q, e, rfl⟩ | ⟨q, vs, ys, e, _⟩
                · obtain ⟨as, h1, h2, h3⟩ := a2.fine.at_ k q _ e hk
                  unfold atI at hz
                  obtain ⟨jj, e1, e2⟩ := Option.bind_eq_some_iff.mp hz
                  obtain ⟨b, b1, b2⟩ := h2 jj z e2
                  refine .inr (.inr (.inr ⟨q, as.map V.ref, j, .ref b, rfl, rfl, .inl (.inl h1), ?_, a2.ok (u := U.ref z) o2 ⟨b, b2, rfl⟩⟩))
                  unfold atI
                  rw [List.length_map, h3, e1, Option.bind_some, List.getElem?_map, b1]; rfl
                · cases e
            | _ => exact (o2 : False).elim
          | kd kvs =>
            cases i with
            | int j =>
              simp only at o2
              cases r2.1
              cases hz : valI kvs j with
              | none => rw [hz] at o2; exact o2.elim
              | some z =>
                rw [hz] at o2
                rcases r1 with ⟨q, e, rfl⟩ | ⟨q, vs, ys, e, _⟩
                · obtain ⟨ws, h1, h2, h3⟩ := a2.fine.at_ k q _ e hk
                  obtain ⟨v, e1, e2⟩ := h2.val j z hz
                  exact .inr (.inr (.inl ⟨q, ws, j, v, rfl, rfl, h1, e1, a2.ok (u := U.dat z) o2 ⟨e2, valI_sz hz h3⟩⟩))
                · cases e
            | _ => exact (o2 : False).elim
          | lst xs =>
            cases i with
            | int j =>
              simp only at o2
              cases r2.1
              cases hz : atI xs j with
              | none => rw [hz] at o2; exact o2.elim
              | some z => rw [hz] at o2; exact .inl (.inr ⟨_, _, _, _, _, _, k, xs, j, z, a2, r1, rfl, hk, hz, o2⟩)
            | _ => exact (o2 : False).elim
          | dct kvs =>
            simp only at o2
            cases hq : (keyOfD i).bind (valN kvs) with
            | none => rw [hq] at o2; exact o2.elim
            | some z =>
              rw [hq] at o2
              obtain ⟨kk, e1, e2⟩ := Option.bind_eq_some_iff.mp hq
              rcases r1 with ⟨q, e, rfl⟩ | ⟨q, vs, ys, e, _⟩
              · obtain ⟨es, h1, h2, h3, h4, h5, h6⟩ := a2.fine.at_ k q _ e hk
                exact .inr (.inl ⟨q, es, kvs, i, kk, z, Hf2, a2.fine.sub, rfl, h1, h2, h3, Dp.mono a2.fine.sub _ _ r2.1, e1, e2, fun v hv => a2.ok (u := U.dat z) o2 ⟨hv, valN_sz e2 h5⟩⟩)
              · cases e
/-- x in d, x not in d -/
theorem din_imp {n : Bool} {H2 Hf2 : Hp} {ρ2 : List Addr} {ω : Nat → Addr} {σ : L2.St} {env : Env} {m2 : Mem} {x y : V} {u u2 : U} {Q : VK} (a2 : At X.K H2 σ Hf2 ρ2 ω env m2) (r1 : RepU X.K Hf2 ρ2 x u) (r2 : RepU X.K Hf2 ρ2 y u2)
    (o2 : OutE X.K XR W σ H2 Hf2 ρ2 (RU X.K) (dinU n u u2 m2) Q) : rInE X.K n x y H2 Q ∨ rInK n x y H2 Q := by
  cases u with
  | ref i => exact (o2 : False).elim
  | dat i =>
    cases u2 with
    | dat j => exact (o2 : False).elim
    | ref k =>
      simp only [dinU] at o2
      cases hk : m2[k]? with
      | none => rw [hk] at o2; exact o2.elim
      | some ob =>
        rw [hk] at o2
        cases ob with
        | tab x => exact o2.elim
        | refs ks => exact (o2 : False).elim
        | kd kvs =>
          cases i with
          | int j =>
            simp only at o2
            cases r1.1
            obtain ⟨q, e, rfl⟩ := r2
            obtain ⟨ws, h1, h2, h3⟩ := a2.fine.at_ k q _ e hk
            refine .inr ⟨q, ws, j, rfl, rfl, h1, ?_⟩
            rw [h2.isSome j]
            exact a2.ok (u := U.dat (.bool (xor n (valI kvs j).isSome))) o2 ⟨.bl _, rfl⟩
          | _ => exact (o2 : False).elim
        | lst xs => exact o2.elim
        | dct kvs =>
          simp only at o2
          cases hq : keyOfD i with
          | none => rw [hq] at o2; exact o2.elim
          | some kk =>
            rw [hq] at o2
            obtain ⟨q, e, rfl⟩ := r2
            obtain ⟨es, h1, h2, h3, h4, h5, h6⟩ := a2.fine.at_ k q _ e hk
            exact .inl ⟨q, es, kvs, i, kk, Hf2, a2.fine.sub, rfl, h6, h1, h2, h3, Dp.mono a2.fine.sub _ _ r1.1, hq, a2.ok (u := U.dat (.bool (xor n (valN kvs kk).isSome))) o2 ⟨.bl _, rfl⟩⟩
theorem rl_din {n : Bool} {o : CmpOp} (ha : PE X l (tU X.K XR W fa)) (hb : PE X r (tU X.K XR W fb)) (ho : OpR X (compareOp o) (fun x y H Q => rInE X.K n x y H Q ∨ rInK n x y H Q)) (hp : pl r = true) :
    PE X (.Compare l [o] [r] pos) (tU X.K XR W fun σ m => (fa σ m).bind fun x m1 => (fb σ m1).bind fun y m2 => dinU n x y m2) :=
  PE.imp (pe_cmpR ho ha hb (mark_pl hp)) fun σ H Q ⟨Hf, ρ, ω, env, m, a, o⟩ => by
    obtain ⟨A, B, D, E, F', a1, o1⟩ := a.bind (Rp' := RU X.K) o
    refine ⟨A, B, D, E, F', a1, o1.mono fun x H1 ⟨u, Hf1, ρ1, m1, p, a1, r1, o1⟩ => ?_⟩
    obtain ⟨A, B, D, E, F', a2, o2⟩ := a1.bind (Rp' := RU X.K) o1
    refine ⟨A, B, D, E, F', a2, o2.mono fun y H2 ⟨u2, Hf2, ρ2, m2, p2, a2, r2, o2⟩ => ?_⟩
    exact din_imp a2 (r1.pres p2) r2 o2
theorem rt_din {n : Bool} {o : CmpOp} (ha : PE X l (tU X.K XR W fa)) (hb : PE X r (tU X.K XR W fb)) (ho : OpR X (compareOp o) (fun x y H Q => rInE X.K n x y H Q ∨ rInK n x y H Q)) (hp : pl r = true) :
    PT X (.Compare l [o] [r] pos) (tT X.K XR W fun σ m => (fa σ m).bind fun x m1 => (fb σ m1).bind fun y m2 => dinU n x y m2) := by
  have h := pt_cmpR (pos := pos) ho ha hb (mark_pl hp)
  refine PT.imp h fun σ H Q ⟨Hf, ρ, ω, env, m, a, o⟩ => ?_
  dsimp only at o
  rw [R.bind_bind] at o
  obtain ⟨A, B, D, E, F', a1, o1⟩ := a.bind (Rp' := RU X.K) o
  refine ⟨A, B, D, E, F', a1, o1.mono fun x H1 ⟨u, Hf1, ρ1, m1, p, a1, r1, o1⟩ => ?_⟩
  rw [R.bind_bind] at o1
  obtain ⟨A, B, D, E, F', a2, o2⟩ := a1.bind (Rp' := RU X.K) o1
  refine ⟨A, B, D, E, F', a2, o2.mono fun y H2 ⟨u2, Hf2, ρ2, m2, p2, a2, r2, o2⟩ => ?_⟩
  refine din_imp (XR := XR) (W := W) a2 (r1.pres p2) r2 ?_
  exact (OutE.bind (Rp' := RU X.K) o2).mono fun v H3 ⟨u3, Hf3, ρ3, m3, p3, f3, r3, o3⟩ => bl_of (a2.pres p3 f3) r3 o3
theorem new_dct {σ : L2.St} {H1 Hf1 : Hp} {ρ1 : List Addr} {ω : Nat → Addr} {env : Env} {m1 : Mem} {K : PySem.W.Frag} (a1 : At K H1 σ Hf1 ρ1 ω env m1) {b : Addr} (hb : H1 b = none) (hsm : (b == sysModules) = false) :
    Pres H1 Hf1 ρ1 (upd H1 b (.ext (DicPhi b []))) Hf1 (ρ1 ++ [b]) ∧ Fine K (upd H1 b (.ext (DicPhi b []))) Hf1 (ρ1 ++ [b]) (m1 ++ [.dct []]) := by
  have hfb := a1.free hb
  refine ⟨⟨Sub.refl _, ⟨[b], rfl⟩, fun q o e e1 e2 => ⟨Sub.new hb _ _ e, e1, fun hm => ?_⟩⟩, ⟨fun q o e => Sub.new hb _ _ (a1.fine.sub _ _ e), ?_, fun q hq => ?_, ?_, fun i q ob e1 e2 => ?_⟩⟩
  · rcases List.mem_append.mp hm with z | z
    · exact e2 z
    · have : q = b := by simpa using z
      rw [this, hb] at e; cases e
  · rw [List.nodup_append]
    refine ⟨a1.fine.nd, by simp, fun q hq q' hq' e => hfb.2 ?_⟩
    have : q' = b := by simpa using hq'
    rw [← this, ← e]; exact hq
  · rcases List.mem_append.mp hq with z | z
    · exact a1.fine.un q z
    · have : q = b := by simpa using z
      rw [this]; exact hfb.1
  · rw [List.length_append, List.length_append, a1.fine.len]; rfl
  · by_cases hi : i < ρ1.length
    · rw [List.getElem?_append_left hi] at e1
      rw [List.getElem?_append_left (by rw [← a1.fine.len]; exact hi)] at e2
      exact (a1.fine.at_ i q ob e1 e2).grow (fun x e => Sub.new hb _ _ e) (Sub.refl _) ⟨_, rfl⟩
    · have hl : i = ρ1.length := by
        have := (List.getElem?_eq_some_iff.mp e1).1
        rw [List.length_append, List.length_singleton] at this
        omega
      subst hl
      rw [List.getElem?_append_right (by omega), Nat.sub_self] at e1
      rw [a1.fine.len, List.getElem?_append_right (by omega), Nat.sub_self] at e2
      cases e1
      cases e2
      exact ⟨[], upd_same, .nil, List.nodup_nil, Nat.zero_le _, fun p hp => absurd hp (by simp), hsm⟩
theorem new_at {ρ1 : List Addr} {m1 : Mem} {H1 Hf1 : Hp} {K : PySem.W.Frag} (f : Fine K H1 Hf1 ρ1 m1) (b : Addr) : (ρ1 ++ [b])[m1.length]? = some b := by
  rw [← f.len, List.getElem?_append_right (by omega), Nat.sub_self]; rfl
/-- an object that is shared is another one -/
theorem fine_set {K : PySem.W.Frag} {H Hf : Hp} {ρ : List Addr} {m : Mem} (f : Fine K H Hf ρ m) {q : Nat} {a : Addr} {w : HO} {ob' : MObj} (e : ρ[q]? = some a) (hob : MAt K (upd H a w) Hf ρ a ob') : Fine K (upd H a w) Hf ρ (m.set q ob') := by
  have hm : a ∈ ρ := List.mem_of_getElem? e
  have hf : Hf a = none := f.un a hm
  have hq : q < ρ.length := (List.getElem?_eq_some_iff.mp e).1
  refine ⟨fun b x eb => ?_, f.nd, f.un, by rw [List.length_set]; exact f.len, fun i b ob e1 e2 => ?_⟩
  · have : b ≠ a := fun z => by rw [z, hf] at eb; cases eb
    rw [upd_ne this]; exact f.sub _ _ eb
  · by_cases hi : q = i
    · subst hi
      rw [e] at e1; cases e1
      rw [List.getElem?_set, if_pos rfl, if_pos (by rw [← f.len]; exact hq)] at e2
      cases e2
      exact hob
    · rw [List.getElem?_set, if_neg hi] at e2
      have hb : b ≠ a := fun z => by
        subst z
        have hil : i < ρ.length := (List.getElem?_eq_some_iff.mp e1).1
        have h1 := (List.getElem?_eq_some_iff.mp e).2
        have h2 := (List.getElem?_eq_some_iff.mp e1).2
        exact hi ((List.getElem_inj f.nd).mp (h1.trans h2.symm))
      have k := f.at_ i b ob e1 e2
      cases ob with
      | lst xs => obtain ⟨ws, k1, k2, k3⟩ := k; exact ⟨ws, by rw [upd_ne hb]; exact k1, k2, k3⟩
      | dct xs => obtain ⟨ws, k1, k2, k3⟩ := k; exact ⟨ws, by rw [upd_ne hb]; exact k1, k2, k3⟩
      | kd xs => obtain ⟨ws, k1, k2, k3⟩ := k; exact ⟨ws, by rw [upd_ne hb]; exact k1, k2, k3⟩
      | refs xs => obtain ⟨ws, k1, k2, k3⟩ := k; exact ⟨ws, by rw [upd_ne hb]; exact k1, k2, k3⟩
      | tab x => obtain ⟨k0, ps, k1, k2⟩ := k; exact ⟨k0, ps, by rw [upd_ne hb]; exact k1, k2⟩
/-- {k: v} -/
theorem rl_newD1T (hu : X.A.units + 64 < cLine) {k v : Expr} (hk : PE X k (tU X.K XR W fa)) (hv : PE X v (tU X.K XR W fb)) : PE X (.Dict [some k] [v] pos) (tU X.K XR W fun σ m => (fa σ (m ++ [.dct []])).bind fun x m1 => (fb σ m1).bind fun y m2 => newD1T m.length x y m2) :=
  PE.imp (pe_dnew1E hu hk hv) fun σ H Q ⟨Hf, ρ, ω, env, m, a, o⟩ p hp hsm => by
    obtain ⟨P0, F0⟩ := new_dct a hp hsm
    have a0 := a.pres P0 F0
    have hq0 := new_at a.fine p
    have o := OutE.pres P0 o
    dsimp only at o
    generalize hq : m.length = q at hq0 o
    obtain ⟨A, B, D, E, F', a1, o1⟩ := At.bind (f := fun σ m => fa σ m) (Rp' := RU X.K) a0 o
    refine ⟨A, B, D, E, F', a1, o1.mono fun x H1 ⟨u, Hf1, ρ1, m1, p1, a1, r1, o1⟩ => ?_⟩
    obtain ⟨A, B, D, E, F', a2, o2⟩ := a1.bind (Rp' := RU X.K) o1
    refine ⟨A, B, D, E, F', a2, o2.mono fun y H2 ⟨u2, Hf2, ρ2, m2, p2, a2, r2, o2⟩ => ?_⟩
    have r1 := r1.pres p2
    have e2 : ρ2[q]? = some p := by
      obtain ⟨t1, e1⟩ := p1.pre
      obtain ⟨t2, e2⟩ := p2.pre
      rw [e2, e1, List.append_assoc, List.getElem?_append_left (List.getElem?_eq_some_iff.mp hq0).1]
      exact hq0
    cases u with
    | ref i => exact (o2 : False).elim
    | dat kd =>
    cases u2 with
    | ref i => exact (o2 : False).elim
    | dat d =>
      simp only [newD1T] at o2
      cases hm : m2[q]? with
      | none => rw [hm] at o2; exact o2.elim
      | some ob =>
        rw [hm] at o2
        cases ob with
        | tab x => exact o2.elim
        | kd kvs => exact (o2 : False).elim
        | refs ks => exact (o2 : False).elim
        | lst xs => exact o2.elim
        | dct kvs =>
          cases kvs with
          | cons kv kvs => exact o2.elim
          | nil =>
            simp only at o2
            cases hkk : keyOfD kd with
            | none => rw [hkk] at o2; exact o2.elim
            | some kk =>
              rw [hkk] at o2
              obtain ⟨es, h1, h2, h3, h4, h5, h6⟩ := a2.fine.at_ q p _ e2 hm
              cases h2
              refine ⟨kd, kk, d, Hf2, a2.fine.sub, a2.fine.un p (List.mem_of_getElem? e2), h1, r1.1, hkk, r2.1, fun es' g1 g2 => ?_⟩
              have F1 := fine_set a2.fine (w := .ext (DicPhi p es')) (ob' := .dct [(kk, d)]) e2 ⟨es', upd_same, g1, g2, by rw [sizeLine_eq, List.length_singleton]; omega, fun z hz => by
                rw [List.mem_singleton.mp hz]
                exact ⟨r2.2, by rw [(keyOfD_some hkk).2.2.2.1]; exact r1.2⟩, h6⟩
              refine o2 _ _ Hf2 ρ2 ⟨Sub.refl _, ⟨[], by simp⟩, fun b o e e1 e3 => ⟨?_, e1, e3⟩⟩ F1 ⟨p, e2, rfl⟩
              rw [upd_ne fun z => e3 (by rw [z]; exact List.mem_of_getElem? e2)]
              exact e
/-- {k: v} -/
theorem rl_newD1K {k v : Expr} (hk : PE X k (tU X.K XR W fa)) (hv : PE X v (tU X.K XR W fb)) : PE X (.Dict [some k] [v] pos) (tU X.K XR W fun σ m => (fa σ (m ++ [.dct []])).bind fun x m1 => (fb σ m1).bind fun y m2 => newD1K m.length x y m2) :=
  PE.imp (pe_dnew1K hk hv) fun σ H Q ⟨Hf, ρ, ω, env, m, a, o⟩ p hp hsm => by
    obtain ⟨P0, F0⟩ := new_dct a hp hsm
    have a0 := a.pres P0 F0
    have hq0 := new_at a.fine p
    have o := OutE.pres P0 o
    dsimp only at o
    generalize hq : m.length = q at hq0 o
    obtain ⟨A, B, D, E, F', a1, o1⟩ := At.bind (f := fun σ m => fa σ m) (Rp' := RU X.K) a0 o
    refine ⟨A, B, D, E, F', a1, o1.mono fun x H1 ⟨u, Hf1, ρ1, m1, p1, a1, r1, o1⟩ => ?_⟩
    obtain ⟨A, B, D, E, F', a2, o2⟩ := a1.bind (Rp' := RU X.K) o1
    refine ⟨A, B, D, E, F', a2, o2.mono fun y H2 ⟨u2, Hf2, ρ2, m2, p2, a2, r2, o2⟩ => ?_⟩
    have r1 := r1.pres p2
    have e2 : ρ2[q]? = some p := by
      obtain ⟨t1, e1⟩ := p1.pre
      obtain ⟨t2, e2⟩ := p2.pre
      rw [e2, e1, List.append_assoc, List.getElem?_append_left (List.getElem?_eq_some_iff.mp hq0).1]
      exact hq0
    cases u with
    | ref i => exact (o2 : False).elim
    | dat kd =>
    cases u2 with
    | ref i => exact (o2 : False).elim
    | dat d =>
      simp only [newD1K] at o2
      cases hm : m2[q]? with
      | none => rw [hm] at o2; exact o2.elim
      | some ob =>
        rw [hm] at o2
        cases ob with
        | tab x => exact o2.elim
        | kd kvs => exact (o2 : False).elim
        | refs ks => exact (o2 : False).elim
        | lst xs => exact o2.elim
        | dct kvs =>
          cases kvs with
          | cons kv kvs => exact o2.elim
          | nil =>
            simp only at o2
            cases kd with
            | int i =>
              obtain ⟨es, h1, h2, h3, h4, h5, h6⟩ := a2.fine.at_ q p _ e2 hm
              cases h2
              cases r1.1
              refine ⟨i, rfl, h1, ?_⟩
              have F1 := fine_set a2.fine (w := .dK [(Sum.inl i, y)]) (ob' := .kd [(i, d)]) e2 ⟨_, upd_same, ⟨rfl, r2.1, True.intro⟩, fun z hz => by
                rw [List.mem_singleton.mp hz]; exact r2.2⟩
              refine o2 _ _ Hf2 ρ2 ⟨Sub.refl _, ⟨[], by simp⟩, fun b o e e1 e3 => ⟨?_, e1, e3⟩⟩ F1 ⟨p, e2, rfl⟩
              rw [upd_ne fun z => e3 (by rw [z]; exact List.mem_of_getElem? e2)]
              exact e
            | _ => exact (o2 : False).elim
/-- {k: v}: what the key is, is seen in the evaluator first -/
theorem rl_newD1 (hu : X.A.units + 64 < cLine) {k v : Expr} (hk : PE X k (tU X.K XR W fa)) (hv : PE X v (tU X.K XR W fb)) : PE X (.Dict [some k] [v] pos) (tU X.K XR W fun σ m => (fa σ (m ++ [.dct []])).bind fun x m1 => (fb σ m1).bind fun y m2 => newD1U m.length x y m2) := by
  refine ⟨fun pins s σ H Q I h => ?_⟩
  obtain ⟨Hf, ρ, ω, env, m, a, o⟩ := h
  by_cases c : (fa env (m ++ [.dct []])).bind (fun x m1 => (fb env m1).bind fun y m2 => newD1U m.length x y m2) = (fa env (m ++ [.dct []])).bind (fun x m1 => (fb env m1).bind fun y m2 => newD1T m.length x y m2)
  · refine (rl_newD1T hu hk hv).run pins s σ H Q I ⟨Hf, ρ, ω, env, m, a, ?_⟩
    dsimp only; rw [← c]; exact o
  · refine (rl_newD1K hk hv).run pins s σ H Q I ⟨Hf, ρ, ω, env, m, a, ?_⟩
    have : (fa env (m ++ [.dct []])).bind (fun x m1 => (fb env m1).bind fun y m2 => newD1U m.length x y m2) = (fa env (m ++ [.dct []])).bind (fun x m1 => (fb env m1).bind fun y m2 => newD1K m.length x y m2) := by
      cases e1 : fa env (m ++ [.dct []]) with
      | bad => exact absurd (by rw [e1]; rfl) c
      | exc c' x' m' => exact absurd (by rw [e1]; rfl) c
      | ok x m1 =>
        rw [e1] at c
        simp only [R.bind_ok] at c ⊢
        cases e2 : fb env m1 with
        | bad => exact absurd (by rw [e2]; rfl) c
        | exc c' x' m' => exact absurd (by rw [e2]; rfl) c
        | ok y m2 =>
          rw [e2] at c
          simp only [R.bind_ok] at c ⊢
          exact newD1_or c
    dsimp only; rw [← this]; exact o
theorem new_mem {σ : L2.St} {H1 Hf1 : Hp} {ρ1 : List Addr} {ω : Nat → Addr} {env : Env} {m1 : Mem} {K : PySem.W.Frag} (a1 : At K H1 σ Hf1 ρ1 ω env m1) {b : Addr} {w : HO} {ob' : MObj} (hb : H1 b = none) (hM : MAt K (upd H1 b w) Hf1 (ρ1 ++ [b]) b ob') :
    Pres H1 Hf1 ρ1 (upd H1 b w) Hf1 (ρ1 ++ [b]) ∧ Fine K (upd H1 b w) Hf1 (ρ1 ++ [b]) (m1 ++ [ob']) := by
  have hfb := a1.free hb
  refine ⟨⟨Sub.refl _, ⟨[b], rfl⟩, fun q o e e1 e2 => ⟨Sub.new hb _ _ e, e1, fun hm => ?_⟩⟩, ⟨fun q o e => Sub.new hb _ _ (a1.fine.sub _ _ e), ?_, fun q hq => ?_, ?_, fun i q ob e1 e2 => ?_⟩⟩
  · rcases List.mem_append.mp hm with z | z
    · exact e2 z
    · have : q = b := by simpa using z
      rw [this, hb] at e; cases e
  · rw [List.nodup_append]
    refine ⟨a1.fine.nd, by simp, fun q hq q' hq' e => hfb.2 ?_⟩
    have : q' = b := by simpa using hq'
    rw [← this, ← e]; exact hq
  · rcases List.mem_append.mp hq with z | z
    · exact a1.fine.un q z
    · have : q = b := by simpa using z
      rw [this]; exact hfb.1
  · rw [List.length_append, List.length_append, a1.fine.len]; rfl
  · by_cases hi : i < ρ1.length
    · rw [List.getElem?_append_left hi] at e1
      rw [List.getElem?_append_left (by rw [← a1.fine.len]; exact hi)] at e2
      exact (a1.fine.at_ i q ob e1 e2).grow (fun x e => Sub.new hb _ _ e) (Sub.refl _) ⟨_, rfl⟩
    · have hl : i = ρ1.length := by
        have := (List.getElem?_eq_some_iff.mp e1).1
        rw [List.length_append, List.length_singleton] at this
        omega
      subst hl
      rw [List.getElem?_append_right (by omega), Nat.sub_self] at e1
      rw [a1.fine.len, List.getElem?_append_right (by omega), Nat.sub_self] at e2
      cases e1
      cases e2
      exact hM
theorem DpAll.pairs {K : PySem.W.Frag} {H : Hp} : ∀ {ds : List PyData} {vs : List V} {kvs : List (Int × PyData)}, DpAll K H vs ds → asPairs ds = some kvs → szAll ds = true → ∃ (ps : List Addr) (ws : List (Key × V)), vs = ps.map V.ref ∧ Paired (fun p kv => SqT K H p [kV kv.1, kv.2]) ps ws ∧ KdAt K H ws kvs ∧ ws.map (·.1) = kvs.map (fun q => Sum.inl q.1) ∧ ∀ p ∈ kvs, szOk p.2 = true
  | [], _, kvs, h, e, _ => by
    cases h
    simp [asPairs] at e
    subst e
    exact ⟨[], [], rfl, .nil, trivial, rfl, fun p hp => by simp at hp⟩
  | d :: ds, _, kvs, h, e, hz => by
    cases h with
    | cons h1 h2 =>
      unfold asPairs at e
      split at e
      · rename_i he; cases he
      · rename_i i d' r he
        cases he
        obtain ⟨kv, ek, rfl⟩ := Option.map_eq_some_iff.mp e
        simp only [szAll, Bool.and_eq_true] at hz
        obtain ⟨ps, ws, rfl, hp, hk, hm, hs⟩ := DpAll.pairs h2 ek hz.2
        cases h1 with
        | tup hq ha =>
          cases ha with
          | cons a1 a2 =>
            cases a1
            cases a2 with
            | cons b1 b2 =>
              cases b2
              refine ⟨_ :: ps, (.inl i, _) :: ws, rfl, .cons hq hp, ⟨rfl, b1, hk⟩, by rw [List.map_cons, List.map_cons, hm], fun p hp => ?_⟩
              rcases List.mem_cons.mp hp with z | z
              · rw [z]
                have := hz.1
                simp only [szOk, szAll, Bool.and_eq_true] at this
                exact this.2.2.1
              · exact hs p z
      · cases e
/-- sorted(set(xs)) -/
theorem asInts_map : ∀ ns : List Int, asInts (ns.map .int) = some ns
  | [] => rfl
  | n :: ns => by simp only [List.map_cons, asInts, asInts_map ns, Option.map_some]
theorem asInts_eq : ∀ {xs : List PyData} {ns : List Int}, asInts xs = some ns → xs = ns.map .int
  | [], ns, h => by simp [asInts] at h; subst h; rfl
  | d :: r, ns, h => by
    cases d with
    | int i =>
      simp only [asInts, Option.map_eq_some_iff] at h
      obtain ⟨z, h, rfl⟩ := h
      rw [asInts_eq h]; rfl
    | _ => simp [asInts] at h
theorem nodup_eraseDups {α : Type} [BEq α] [LawfulBEq α] : ∀ (n : Nat) (l : List α), l.length ≤ n → l.eraseDups.Nodup
  | _, [], _ => by simp
  | 0, x :: l, h => by simp at h
  | n + 1, x :: l, h => by
    rw [List.eraseDups_cons, List.nodup_cons]
    refine ⟨fun hx => ?_, nodup_eraseDups n _ ?_⟩
    · have := List.mem_eraseDups.mp hx
      rw [List.mem_filter] at this
      simp at this
    · have := List.length_filter_le (fun b => !b == x) l
      simp only [List.length_cons] at h
      omega
theorem asTupI_map : ∀ {ds : List PyData} {ks : List (List Int)}, asTupI ds = some ks → ds = ks.map fun k => .tuple (k.map .int)
  | [], ks, e => by simp [asTupI] at e; subst e; rfl
  | d :: ds, ks, e => by
    cases d with
    | tuple ys =>
      simp only [asTupI, Option.bind_eq_some_iff, Option.map_eq_some_iff] at e
      obtain ⟨k, ek, r, er, rfl⟩ := e
      rw [asTupI_map er, asInts_eq ek]; rfl
    | _ => simp [asTupI] at e
theorem _root_.EngN.KeyD.mono {K : PySem.W.Frag} {H H' : Hp} (s : Sub H H') {p : Addr × NestedKey} (h : EngN.KeyD K H p) : EngN.KeyD K H' p := ⟨Dp.mono s _ _ h.1, h.2⟩
theorem dp_keyref {K : PySem.W.Frag} {H : Hp} {v : V} {d : PyData} {k : NestedKey} (h : Dp K H v d) (e : keyOfD d = some k) : ∃ b, v = .ref b := by
  cases d with
  | tuple ds =>
    cases h
    exact ⟨_, rfl⟩
  | _ => simp [keyOfD] at e
theorem DpAll.keysN {K : PySem.W.Frag} {H : Hp} : ∀ {vs : List V} {ds : List PyData} {ks : List NestedKey}, DpAll K H vs ds → keysD ds = some ks → ∃ ps : List (Addr × NestedKey), vs = ps.map (fun p => V.ref p.1) ∧ ps.map (·.2) = ks ∧ ∀ p ∈ ps, EngN.KeyD K H p
  | _, [], ks, h, e => by cases h; simp [keysD] at e; subst e; exact ⟨[], rfl, rfl, fun p hp => by simp at hp⟩
  | _, d :: ds, ks, h, e => by
    cases h with
    | cons h1 h2 =>
      simp only [keysD, Option.bind_eq_some_iff, Option.map_eq_some_iff] at e
      obtain ⟨k, ek, r, er, rfl⟩ := e
      obtain ⟨ps, rfl, rfl, hp⟩ := DpAll.keysN h2 er
      obtain ⟨b, rfl⟩ := dp_keyref h1 ek
      obtain ⟨k1, k2, k3, k4, _⟩ := keyOfD_some ek
      refine ⟨(b, k) :: ps, rfl, rfl, fun p hq => ?_⟩
      rcases List.mem_cons.mp hq with z | z
      · subst z
        refine ⟨?_, ?_, k2⟩
        · show Dp K H (.ref b) k.data
          rw [k4]; exact h1
        · show nk k.data = some k
          rw [k4]; exact k1
      · exact hp p z
/-- len(set(xs)) -/
theorem rl_lset (g : GX G N C XR X W c) {x y : Str} {p p2 q : Pos} (hx : x = "len") (hg : glB c x = true) (hy : y = "set") (hg2 : glB c y = true) (he : PE X e (tU X.K XR W f)) (hp : pl e = true) :
    PE X (.Call (.Name x p) [.Call (.Name y p2) [e] [] q] [] pos) (tU X.K XR W fun σ m => (f σ m).bind (d1 lsetV)) := by
  obtain ⟨a1, a2⟩ := g.glo hg
  obtain ⟨b1, b2⟩ := g.glo hg2
  subst hx; subst hy
  refine PE.imp (pe_callB EngN.cr_lenN a1 (g.bn _ (by decide)) (by decide +kernel) (pa_cons (pe_callTy (EngN.cr_setN g.calm (by have := g.un; omega)) b1 (g.bn _ (by decide)) (by decide +kernel) (pa_cons he pa_nil (star_pl hp)) (by decide) b2 (star_pl hp)) pa_nil rfl) (by decide) a2 rfl) fun σ H Q ⟨Hf, ρ, ω, env, m, a, o⟩ => ?_
  obtain ⟨A, B, D, E, F', a1, o1⟩ := a.bind (Rp' := RU X.K) o
  refine ⟨A, B, D, E, F', a1, o1.mono fun x H1 ⟨u, Hf1, ρ1, m1, p, a1, r1, o1⟩ => ?_⟩
  cases u with
  | ref k => exact (o1 : False).elim
  | dat d =>
    simp only [d1_dat] at o1
    cases hvx : lsetV d with
    | none => rw [hvx] at o1; exact (o1 : False).elim
    | some z =>
      rw [hvx] at o1
      cases d with
      | list xs =>
        obtain ⟨rd, rz⟩ := r1
        cases rd with
        | lst hs ha =>
        simp only [lsetV, Option.bind_eq_some_iff] at hvx
        obtain ⟨ks, ek, hvx⟩ := hvx
        split at hvx
        case isFalse => cases hvx
        rename_i hc
        cases hvx
        obtain ⟨ps, rfl, eks, hT⟩ := DpAll.keysN ha ek
        have hTH : ∀ p ∈ ps, EngN.KeyD X.K H1 p := fun p hp => (hT p hp).mono a1.fine.sub
        have inks : ∀ p ∈ ps, p.2 ∈ ks := fun p hp => by rw [← eks]; exact List.mem_map_of_mem hp
        refine ⟨_, ps, ks.eraseDups, rfl, SqL.mono a1.fine.sub hs, hTH, fun p hp => List.mem_eraseDups.mpr (inks p hp), by omega, fun pp L hn hL1 hL2 hL3 => ?_⟩
        have hLk : ∀ k, k ∈ L.map (·.2) ↔ k ∈ ks := fun k => by
          constructor
          · intro hk
            obtain ⟨p, hp, rfl⟩ := List.mem_map.mp hk
            exact inks p (hL1 p hp)
          · intro hk
            rw [← eks] at hk
            obtain ⟨p, hp, rfl⟩ := List.mem_map.mp hk
            exact hL2 p hp
        have hPK : (L.map (·.2)).Perm ks.eraseDups := (List.perm_ext_iff_of_nodup hL3 (nodup_eraseDups _ ks (Nat.le_refl _))).mpr fun k => by rw [hLk, List.mem_eraseDups]
        have hl : L.length = ks.eraseDups.length := by have := hPK.length_eq; rwa [List.length_map] at this
        have a2 := a1.pres (Pres.fresh (o := EngN.SetTO X.prog X.w pp L) hn) (a1.fine.fresh hn)
        have o2 := OutE.pres (Pres.fresh (o := EngN.SetTO X.prog X.w pp L) hn) o1
        have hTL : ∀ p ∈ L, EngN.KeyD X.K (upd H1 pp (EngN.SetTO X.prog X.w pp L)) p := fun p hp => (hTH p (hL1 p hp)).mono (Sub.new hn)
        refine ⟨pp, L, rfl, upd_same, hTL, ?_⟩
        rw [hl]
        exact a2.ok o2 ⟨.int _, rfl⟩
      | _ => simp [lsetV] at hvx
/-! a list lent to a call -/
def thin (Hf : Hp) (q : Addr) : Hp := fun b => if b = q then none else Hf b
theorem thin_ne {Hf : Hp} {q b : Addr} (h : b ≠ q) : thin Hf q b = Hf b := if_neg h
theorem thin_of {Hf : Hp} {q b : Addr} {vs : List V} {o : HO} (hq : Hf q = some (.lst vs)) (ho : ∀ ws, o ≠ .lst ws) (h : Hf b = some o) : thin Hf q b = some o := by
  have : b ≠ q := fun z => by subst z; rw [hq] at h; cases h; exact ho _ rfl
  rw [thin_ne this]; exact h
mutual
theorem Dp.thin {K : PySem.W.Frag} {Hf : Hp} {q : Addr} {vs : List V} (hq : Hf q = some (.lst vs)) : ∀ (d : PyData) (v : V), noL d = true → Dp K Hf v d → Dp K (thin Hf q) v d
  | .none, _, _, h => by cases h; exact .non
  | .bool b, _, _, h => by cases h; exact .bl b
  | .int i, _, _, h => by cases h; exact .int i
  | .str x, _, _, h => by cases h; exact .str x
  | .list ds, _, hn, _ => by simp [noL] at hn
  | .tuple ds, _, hn, h => by
    cases h with
    | tup hs ha =>
      refine .tup ?_ (DpAll.thin hq ds _ (by simpa [noL] using hn) ha)
      rcases hs with (h | ⟨o, h⟩) | h
      · exact .inl (.inl (thin_of hq (fun _ z => by cases z) h))
      · exact .inl (.inr ⟨o, thin_of hq (fun _ z => by cases z) h⟩)
      · exact .inr h
  | .dict _, _, _, h => by cases h
theorem DpAll.thin {K : PySem.W.Frag} {Hf : Hp} {q : Addr} {vs : List V} (hq : Hf q = some (.lst vs)) : ∀ (ds : List PyData) (ws : List V), noLs ds = true → DpAll K Hf ws ds → DpAll K (thin Hf q) ws ds
  | [], _, _, h => by cases h; exact .nil
  | d :: ds, _, hn, h => by
    simp only [noLs, Bool.and_eq_true] at hn
    cases h with
    | cons h1 h2 => exact .cons (Dp.thin hq d _ hn.1 h1) (DpAll.thin hq ds _ hn.2 h2)
end
theorem DicAt.thin {K : PySem.W.Frag} {Hf : Hp} {q : Addr} {vs : List V} (hq : Hf q = some (.lst vs)) {es : List (NestedKey × Addr × Value)} {kvs : List (NestedKey × PyData)} (hl : ∀ a b, (a, b) ∈ kvs → noL a.data = true ∧ noL b = true) (h : DicAt K Hf es kvs) : DicAt K (Eng.thin Hf q) es kvs := by
  induction h with
  | nil => exact .nil
  | @cons x p xs ps h t ih =>
    obtain ⟨h1, h2, h3, h4, h5, v, h6, h7⟩ := h
    obtain ⟨n1, n2⟩ := hl p.1 p.2 List.mem_cons_self
    exact .cons ⟨h1, h2, h3, h4, Dp.thin hq _ _ (by rw [h1]; exact n1) h5, v, h6, Dp.thin hq _ _ n2 h7⟩ (ih fun a b hab => hl a b (List.mem_cons_of_mem _ hab))
theorem KdAt.thin {K : PySem.W.Frag} {Hf : Hp} {q : Addr} {vs : List V} (hq : Hf q = some (.lst vs)) : ∀ {ws : List (Key × V)} {kvs : List (Int × PyData)}, (∀ a b, (a, b) ∈ kvs → noL b = true) → KdAt K Hf ws kvs → KdAt K (Eng.thin Hf q) ws kvs
  | [], [], _, h => h
  | p :: ws, r :: kvs, hl, h => ⟨h.1, Dp.thin hq _ _ (hl r.1 r.2 List.mem_cons_self) h.2.1, KdAt.thin hq (fun a b hab => hl a b (List.mem_cons_of_mem _ hab)) h.2.2⟩
  | [], _ :: _, _, h => h.elim
  | _ :: _, [], _, h => h.elim
theorem MAt.thin {K : PySem.W.Frag} {H Hf : Hp} {ρ : List Addr} {a q : Addr} {vs : List V} {o : MObj} (hq : Hf q = some (.lst vs)) (hl : memL [o] = true) (h : MAt K H Hf ρ a o) : MAt K H (thin Hf q) ρ a o := by
  cases o with
  | refs ks => exact h
  | lst xs => obtain ⟨ws, e, ha, hz⟩ := h; exact ⟨ws, e, DpAll.thin hq _ _ (by simpa [memL] using hl) ha, hz⟩
  | dct kvs =>
    obtain ⟨es, e, ha, hz⟩ := h
    exact ⟨es, e, DicAt.thin hq (by simpa [memL] using hl) ha, hz⟩
  | kd kvs =>
    obtain ⟨ws, e, ha, hz⟩ := h
    exact ⟨ws, e, KdAt.thin hq (by simpa [memL] using hl) ha, hz⟩
  | tab x =>
    obtain ⟨h0, ps, e, ht, hc⟩ := h
    exact ⟨h0, ps, e, ht, fun pos cv z => let ⟨c, e1, e2⟩ := hc pos cv z; ⟨c, e1, thin_of hq (fun _ z => by unfold LamX.CodeO at z; cases z) e2⟩⟩
theorem At.frzV {K : PySem.W.Frag} {H Hf : Hp} {σ : L2.St} {ρ : List Addr} {ω : Nat → Addr} {env : Env} {m : Mem} (s : At K H σ Hf ρ ω env m) {i : Nat} {xs : List PyData} (e : env[i]? = some (.own xs)) : ∃ vs, H (ω i) = some (.lst vs) ∧ Hf (ω i) = none ∧ ω i ∉ ρ ∧ At K H σ (upd Hf (ω i) (.lst vs)) ρ ω (env.set i (.v (.dat (.list xs)))) m := by
  obtain ⟨q1, q2, q3, ⟨vs, q4, q5⟩, q6⟩ := s.slots.own i xs e
  have hi : i < env.length := (List.getElem?_eq_some_iff.mp e).1
  have sb : Sub Hf (upd Hf (ω i) (.lst vs)) := Sub.new q2
  have so : ∀ {j : Nat} {zs : List PyData}, (env.set i (.v (.dat (.list xs))))[j]? = some (.own zs) → i ≠ j ∧ env[j]? = some (.own zs) := fun {j zs} e' => by
    rw [List.getElem?_set] at e'
    by_cases hj : i = j
    · subst hj; rw [if_pos rfl, if_pos hi] at e'; cases e'
    · rw [if_neg hj] at e'; exact ⟨hj, e'⟩
  refine ⟨vs, q4, q2, q3, ⟨s.fine.freeze q4 q2 q3, ⟨by rw [List.length_set]; exact s.slots.len, fun j w e' => ?_, fun j zs e' => ?_, fun j k us zs e1 e2 he => ?_⟩⟩⟩
  · rw [List.getElem?_set] at e'
    by_cases hj : i = j
    · subst hj; rw [if_pos rfl, if_pos hi] at e'; cases e'
      exact ⟨_, q1, .lst (.inl (.inl upd_same)) (DpAll.mono sb _ _ q5), q6⟩
    · rw [if_neg hj] at e'
      obtain ⟨v, a1, a2⟩ := s.slots.val j w e'
      refine ⟨v, a1, ?_⟩
      cases w with
      | dat d => exact ⟨Dp.mono sb _ _ a2.1, a2.2⟩
      | ref k => exact a2
  · obtain ⟨hj, e''⟩ := so e'
    obtain ⟨a1, a2, a3, ⟨ws, a4, a5⟩, a6⟩ := s.slots.own j zs e''
    exact ⟨a1, by rw [upd_ne fun z => hj (s.slots.inj j i zs xs e'' e z).symm]; exact a2, a3, ⟨ws, a4, DpAll.mono sb _ _ a5⟩, a6⟩
  · exact s.slots.inj j k us zs (so e1).2 (so e2).2 he
end
end Eng

set_option Elab.async false
set_option linter.all false
set_option maxRecDepth 100000
set_option maxHeartbeats 1000000
/-! Expressions: displays, calls, slices. -/
namespace Eng
open PySem PySem.Spec PyProof.Rows L2
section
variable {α α' β β' : Type} {K : PySem.W.Frag} {XR : XRel} {W : WX} {σ : L2.St} {H Hf : Hp} {ρ : List Addr} {ω : Nat → Addr} {env : Env} {m : Mem} {Rp : Hp → Hp → List Addr → β → α → Prop} {Rp' : Hp → Hp → List Addr → β' → α' → Prop} {Q : β → Hp → Prop}
theorem OutE.bindE {r : R α'} {k : α' → Mem → R α} (h : OutE K XR W σ H Hf ρ Rp (r.bind k) Q) :
    OutE K XR W σ H Hf ρ Rp' r fun v H1 => ∃ u Hf1 ρ1 m1, Pres H Hf ρ H1 Hf1 ρ1 ∧ Fine K H1 Hf1 ρ1 m1 ∧ Rp' H1 Hf1 ρ1 v u ∧ OutE K XR W σ H1 Hf1 ρ1 Rp (k u m1) Q ∧ r = .ok u m1 := by
  cases r with
  | ok u m' => exact fun v H' Hf' ρ' p f r => ⟨u, Hf', ρ', m', p, f, r, OutE.pres p h, rfl⟩
  | exc c x m' => exact h
  | bad => exact h
theorem At.bindE {Rp' : Hp → Hp → List Addr → β' → α' → Prop} (a : At K H σ Hf ρ ω env m) {f : Env → Mem → R α'} {k : α' → Mem → R α} (h : OutE K XR W σ H Hf ρ Rp ((f env m).bind k) Q) :
    tR K XR W Rp' f σ H (fun v H1 => ∃ u Hf1 ρ1 m1, Pres H Hf ρ H1 Hf1 ρ1 ∧ At K H1 σ Hf1 ρ1 ω env m1 ∧ Rp' H1 Hf1 ρ1 v u ∧ OutE K XR W σ H1 Hf1 ρ1 Rp (k u m1) Q ∧ f env m = .ok u m1) :=
  ⟨Hf, ρ, ω, env, m, a, (OutE.bindE h).mono fun v H' ⟨u, Hf1, ρ1, m1, p, f1, r, o, e⟩ => ⟨u, Hf1, ρ1, m1, p, a.pres p f1, r, o, e⟩⟩
end
def Es.len : Es → Nat
  | .nil => 0
  | .cons _ es => es.len + 1
theorem evEs_len {C : Calls} : ∀ (es : Es) {σ : Env} {m m' : Mem} {us : List U}, evEs C es σ m = .ok us m' → us.length = es.len
  | .nil, σ, m, m', us, h => by simp only [evEs, R.ok.injEq] at h; rw [← h.1]; rfl
  | .cons e es, σ, m, m', us, h => by
    simp only [evEs] at h
    cases h1 : evE C e σ m with
    | ok u m1 =>
      rw [h1, R.bind_ok] at h
      cases h2 : evEs C es σ m1 with
      | ok us2 m2 =>
        rw [h2, R.bind_ok] at h
        simp only [R.ok.injEq] at h
        rw [← h.1, List.length_cons, evEs_len es h2]; rfl
      | exc c x m => rw [h2] at h; simp at h
      | bad => rw [h2] at h; simp at h
    | exc c x m => rw [h1] at h; simp at h
    | bad => rw [h1] at h; simp at h
theorem okEs_len {G : Cfg} {N : List Str} : ∀ (es : Es) {c : Sc} {xs : List Expr}, okEs G N es c xs = true → es.len = xs.length
  | .nil, c, xs, h => by
    cases xs with
    | nil => rfl
    | cons _ _ => simp [okEs] at h
  | .cons e es, c, xs, h => by
    cases xs with
    | nil => simp [okEs] at h
    | cons x xs =>
      simp only [okEs, Bool.and_eq_true] at h
      rw [List.length_cons, ← okEs_len es h.2]; rfl
theorem small1001 {n : Nat} (h : n ≤ 1000) : n ≤ sizeLine := by rw [sizeLine_eq]; omega
section
variable {G : Cfg} {N : List Str} {C : Calls} {XR : XRel} {X : Cx} {W : WX} {c : Sc} {e e' l r : Expr} {es : List Expr} {pos : Pos} {f fa fb fc : Env → Mem → R U} {fs : Env → Mem → R (List U)}
abbrev tL (K : PySem.W.Frag) (XR : XRel) (W : WX) (f : Env → Mem → R (List U)) : TA := tR K XR W (RL K) f
theorem ra_nil : PA X [] (tL X.K XR W fun _ m => .ok [] m) := PA.imp pa_nil fun σ H Q ⟨Hf, ρ, ω, env, m, a, o⟩ => a.ok o trivial
theorem ra_cons (he : PE X e (tU X.K XR W f)) (hr : PA X es (tL X.K XR W fs)) (hp : pl e = true) : PA X (e :: es) (tL X.K XR W fun σ m => (f σ m).bind fun u m1 => (fs σ m1).bind fun us m2 => .ok (u :: us) m2) :=
  PA.imp (pa_cons he hr (star_pl hp)) fun σ H Q ⟨Hf, ρ, ω, env, m, a, o⟩ => by
    obtain ⟨A, B, D, E, F', a1, o1⟩ := a.bind (Rp' := RU X.K) o
    refine ⟨A, B, D, E, F', a1, o1.mono fun x H1 ⟨u, Hf1, ρ1, m1, p, a1, r1, o1⟩ => ?_⟩
    obtain ⟨A, B, D, E, F', a2, o2⟩ := a1.bind (Rp' := RL X.K) o1
    refine ⟨A, B, D, E, F', a2, o2.mono fun y H2 ⟨u2, Hf2, ρ2, m2, p2, a2, r2, o2⟩ => ?_⟩
    exact a2.ok o2 ⟨r1.pres p2, r2⟩
theorem rl_tup {k : Nat} (h : PA X es (tL X.K XR W fs)) (hl : ∀ σ m us m', fs σ m = .ok us m' → us.length ≤ 1000) : PE X (.Tuple es k pos) (tU X.K XR W fun σ m => (fs σ m).bind asTup) :=
  PE.imp (pe_tup h) fun σ H Q ⟨Hf, ρ, ω, env, m, a, o⟩ => by
    obtain ⟨A, B, D, E, F', a1, o1⟩ := a.bindE (Rp' := RL X.K) o
    refine ⟨A, B, D, E, F', a1, o1.mono fun x H1 ⟨u, Hf1, ρ1, m1, p, a1, r1, o1, eq⟩ => ?_⟩
    have hlen := small1001 (hl _ _ _ _ eq)
    have hl1 := r1.len
    refine ⟨by omega, fun b hb => ?_⟩
    unfold asTup at o1
    cases hz : datL u with
    | none => rw [hz] at o1; exact o1.elim
    | some ds =>
      rw [hz] at o1
      obtain ⟨h1, h2⟩ := r1.dats hz
      have hfb := a1.free hb
      refine a1.okN o1 hb ⟨.tup (.inl (.inl upd_same)) (DpAll.mono (Sub.new hfb.1) _ _ h1), sz_tuple.mpr ⟨?_, h2⟩⟩
      rw [← h1.len]; omega
theorem rl_lst (h : PA X es (tL X.K XR W fs)) (hl : ∀ σ m us m', fs σ m = .ok us m' → us.length ≤ 1000) : PE X (.List es pos) (tF X.K XR W fun σ m => (fs σ m).bind asLst) :=
  PE.imp (pe_lst h) fun σ H Q ⟨Hf, ρ, ω, env, m, a, o⟩ => by
    obtain ⟨A, B, D, E, F', a1, o1⟩ := a.bindE (Rp' := RL X.K) o
    refine ⟨A, B, D, E, F', a1, o1.mono fun x H1 ⟨u, Hf1, ρ1, m1, p, a1, r1, o1, eq⟩ => ?_⟩
    have hlen := small1001 (hl _ _ _ _ eq)
    have hl1 := r1.len
    refine ⟨by omega, fun b hb => ?_⟩
    unfold asLst at o1
    cases hz : datL u with
    | none => rw [hz] at o1; exact o1.elim
    | some ds =>
      rw [hz] at o1
      obtain ⟨h1, h2⟩ := r1.dats hz
      have hfb := a1.free hb
      refine o1 _ _ _ _ (Pres.fresh hb) (a1.fine.fresh hb) ⟨b, _, ds, rfl, rfl, p.none a.fine a1.fine hb, upd_same, hfb.1, hfb.2, h1, sz_list.mpr ⟨?_, h2⟩⟩
      rw [← h1.len]; omega
/-- [..] * k -/
theorem rl_lmul (ha : PE X l (tF X.K XR W fa)) (hb : PE X r (tU X.K XR W fb)) : PE X (.BinOp l .Mult r pos) (tF X.K XR W fun σ m => (fa σ m).bind fun x m1 => (fb σ m1).bind fun y m2 => d2 lmulV x y m2) :=
  PE.imp (pe_op op_rep ha hb) fun σ H Q ⟨Hf, ρ, ω, env, m, a, o⟩ => by
    obtain ⟨A, B, D, E, F', a1, o1⟩ := a.bind (Rp' := RF X.K H) o
    refine ⟨A, B, D, E, F', a1, o1.mono fun x H1 ⟨u, Hf1, ρ1, m1, p, a1, r1, o1⟩ => ?_⟩
    obtain ⟨A, B, D, E, F', a2, o2⟩ := a1.bind (Rp' := RU X.K) o1
    refine ⟨A, B, D, E, F', a2, o2.mono fun y H2 ⟨u2, Hf2, ρ2, m2, p2, a2, r2, o2⟩ => ?_⟩
    obtain ⟨q, vs, xs, rfl, rfl, h0, h1, h2, h3, h4, h5⟩ := r1
    obtain ⟨k1, k2, k3⟩ := p2.kp q _ h1 h2 h3
    cases u2 with
    | ref i => exact (o2 : False).elim
    | dat d =>
      cases d with
      | int k =>
        simp only [d2_dat, lmulV] at o2
        split at o2
        · rename_i hs
          have h4' := DpAll.mono p2.fz _ _ h4
          cases r2.1
          refine ⟨q, k, vs, rfl, rfl, k1, hs.1, hs.2.1, by rw [h4'.len]; exact hs.2.2, fun b hb => ?_⟩
          have hfb := a2.free hb
          have rep : ∀ n : Nat, DpAll X.K Hf2 (List.replicate n vs).flatten (List.replicate n xs).flatten := fun n => by
            induction n with
            | zero => exact .nil
            | succ n ih => rw [List.replicate_succ, List.replicate_succ, List.flatten_cons, List.flatten_cons]; exact h4'.app ih
          have sz : ∀ n : Nat, szAll (List.replicate n xs).flatten = true ∧ (List.replicate n xs).flatten.length = n * xs.length := fun n => by
            induction n with
            | zero => exact ⟨rfl, by simp⟩
            | succ n ih => rw [List.replicate_succ, List.flatten_cons]; exact ⟨sz_app (sz_list.mp h5).2 ih.1, by rw [List.length_append, ih.2, Nat.succ_mul]; omega⟩
          refine o2 _ _ _ _ (Pres.fresh hb) (a2.fine.fresh hb) ⟨b, _, _, rfl, rfl, (p.trans p2).none a.fine a2.fine hb, upd_same, hfb.1, hfb.2, rep _, sz_list.mpr ⟨?_, (sz _).1⟩⟩
          rw [(sz _).2, Nat.mul_comm]; exact hs.2.2
        · exact o2.elim
      | _ => exact (o2 : False).elim
/-- xs + ys, a list of its own -/
theorem rl_ladd (ha : PE X l (tB X.K XR W fa)) (hb : PE X r (tB X.K XR W fb)) : PE X (.BinOp l .Add r pos) (tF X.K XR W fun σ m => (fa σ m).bind fun x m1 => (fb σ m1).bind fun y m2 => d2 laddV x y m2) :=
  PE.imp (pe_op op_catL ha hb) fun σ H Q ⟨Hf, ρ, ω, env, m, a, o⟩ => by
    obtain ⟨A, B, D, E, F', a1, o1⟩ := a.bind (Rp' := RB X.K) o
    refine ⟨A, B, D, E, F', a1, o1.mono fun x H1 ⟨u, Hf1, ρ1, m1, p, a1, r1, o1⟩ => ?_⟩
    obtain ⟨A, B, D, E, F', a2, o2⟩ := a1.bind (Rp' := RB X.K) o1
    refine ⟨A, B, D, E, F', a2, o2.mono fun y H2 ⟨u2, Hf2, ρ2, m2, p2, a2, r2, o2⟩ => ?_⟩
    have r1' := r1.pres p2
    cases u with
    | ref i => exact (o2 : False).elim
    | dat d =>
      cases u2 with
      | ref i => cases d <;> exact (o2 : False).elim
      | dat e =>
        simp only [d2_dat] at o2
        cases d <;> first | (exact (o2 : False).elim) | skip
        rename_i xs
        cases e <;> first | (exact (o2 : False).elim) | skip
        rename_i ys
        simp only [laddV] at o2
        split at o2
        · rename_i hs
          obtain ⟨q, vs, rfl, h1, h2, h3⟩ := r1'.list a2.fine.sub
          obtain ⟨q', vs', rfl, h1', h2', h3'⟩ := r2.list a2.fine.sub
          refine ⟨q, q', vs, vs', rfl, rfl, h1, h1', by rw [h2.len, h2'.len]; exact hs, fun b hb => ?_⟩
          have hfb := a2.free hb
          refine o2 _ _ _ _ (Pres.fresh hb) (a2.fine.fresh hb) ⟨b, _, _, rfl, rfl, (p.trans p2).none a.fine a2.fine hb, upd_same, hfb.1, hfb.2, h2.app h2', ?_⟩
          rw [sz_list] at *
          exact ⟨by rw [List.length_append]; exact hs, sz_app h3.2 h3'.2⟩
        · exact o2.elim
theorem rl_newl (h : PA X es (tL X.K XR W fs)) (hl : ∀ σ m us m', fs σ m = .ok us m' → us.length ≤ 1000) : PE X (.List es pos) (tU X.K XR W fun σ m => (fs σ m).bind asNew) :=
  PE.imp (pe_lst h) fun σ H Q ⟨Hf, ρ, ω, env, m, a, o⟩ => by
    obtain ⟨A, B, D, E, F', a1, o1⟩ := a.bindE (Rp' := RL X.K) o
    refine ⟨A, B, D, E, F', a1, o1.mono fun x H1 ⟨u, Hf1, ρ1, m1, p, a1, r1, o1, eq⟩ => ?_⟩
    have hlen := small1001 (hl _ _ _ _ eq)
    have hl1 := r1.len
    refine ⟨by omega, fun b hb => ?_⟩
    unfold asNew at o1
    cases hz : datL u with
    | none => rw [hz] at o1; exact o1.elim
    | some ds =>
      rw [hz] at o1
      obtain ⟨h1, h2⟩ := r1.dats hz
      have hfb := a1.free hb
      have hsz : szOk (.list ds) = true := sz_list.mpr ⟨by rw [← h1.len]; omega, h2⟩
      refine o1 _ (upd H1 b (.lst x)) Hf1 (ρ1 ++ [b]) ⟨Sub.refl _, ⟨[b], rfl⟩, fun q o e e1 e2 => ⟨Sub.new hb _ _ e, e1, fun hm => ?_⟩⟩ ⟨fun q o e => Sub.new hb _ _ (a1.fine.sub _ _ e), ?_, fun q hq => ?_, ?_, fun i q ob e1 e2 => ?_⟩ ⟨b, ?_, rfl⟩
      · rcases List.mem_append.mp hm with z | z
        · exact e2 z
        · have : q = b := by simpa using z
          rw [this, hb] at e; cases e
      · rw [List.nodup_append]
        refine ⟨a1.fine.nd, by simp, fun q hq q' hq' e => hfb.2 ?_⟩
        have : q' = b := by simpa using hq'
        rw [← this, ← e]; exact hq
      · rcases List.mem_append.mp hq with z | z
        · exact a1.fine.un q z
        · have : q = b := by simpa using z
          rw [this]; exact hfb.1
      · rw [List.length_append, List.length_append, a1.fine.len]; rfl
      · by_cases hi : i < ρ1.length
        · rw [List.getElem?_append_left hi] at e1
          rw [List.getElem?_append_left (by rw [← a1.fine.len]; exact hi)] at e2
          exact (a1.fine.at_ i q ob e1 e2).grow (fun x e => Sub.new hb _ _ e) (Sub.refl _) ⟨_, rfl⟩
        · rw [List.getElem?_append_right (by omega)] at e1
          rw [List.getElem?_append_right (by rw [← a1.fine.len]; omega)] at e2
          rw [a1.fine.len] at e1
          cases hk : i - m1.length with
          | zero =>
            rw [hk] at e1 e2
            simp at e1 e2
            subst e1 e2
            exact ⟨x, upd_same, h1, hsz⟩
          | succ k => rw [hk] at e1; simp at e1
      · rw [List.getElem?_append_right (by rw [a1.fine.len]; exact Nat.le_refl _), a1.fine.len, Nat.sub_self]; rfl
theorem OutE.conv {α β : Type} {K : PySem.W.Frag} {σ : L2.St} {H Hf : Hp} {ρ : List Addr} {Rp : Hp → Hp → List Addr → β → α → Prop} {Q : β → Hp → Prop} {q : R α} (h : OutE K XR W σ H Hf ρ Rp q Q) : OutE K XR (fun cls d _ H => WE W σ cls d H) [] H Hf ρ Rp q Q := by
  cases q with
  | ok u m => exact h
  | exc c x m => exact h
  | bad => exact h
theorem rl_call (g : GX G N C XR X W c) {i : Nat} {x : Str} {p : Pos} (hn : G.nm i = some x) (hkw : G.kwo.contains i = false) (hg : glB c x = true) (ha : PA X es (tL X.K XR W fs)) (hes : es = [] → ∀ σ m, fs σ m = .ok [] m) (hpl : es.all pl = true) :
    PE X (.Call (.Name x p) es [] pos) (tU X.K XR W fun σ m => (fs σ m).bind fun us m1 => C i us m1) := by
  obtain ⟨q1, q2⟩ := g.glo hg
  obtain ⟨a, fd, ps, k, hm, hk, hb, hr, F, _⟩ := g.fns i x hn
  have hb := hb hkw
  have him : ∀ σ H Q, tU X.K XR W (fun σ m => (fs σ m).bind fun us m1 => C i us m1) σ H Q → tL X.K XR W fs σ H fun vs H1 => spC X.K XR (C i) vs H1 Q (WE W σ) := fun σ H Q ⟨Hf, ρ, ω, env, m, a, o⟩ => by
    obtain ⟨A, B, D, E, F', a1, o1⟩ := a.bind (Rp' := RL X.K) o
    exact ⟨A, B, D, E, F', a1, o1.mono fun x H1 ⟨u, Hf1, ρ1, m1, p, a1, r1, o1⟩ => ⟨Hf1, ρ1, m1, u, a1.fine, r1, o1.conv⟩⟩
  have hst : ∀ l : List Expr, l.all pl = true → (starEach l X.env).any (·.1) = false := fun l => by
    induction l with
    | nil => intro _; rfl
    | cons x r ih => intro h; simp only [List.all_cons, Bool.and_eq_true] at h; rw [star_pl h.1, List.any_cons, ih h.2]; rfl
  cases es with
  | nil =>
    refine PE.imp (pe_callG0 F hr g.gd q1 hm hk hb g.takes q2) fun σ H Q h => ?_
    obtain ⟨Hf, ρ, ω, env, m, a, o⟩ := him σ H Q h
    rw [hes rfl] at o
    exact o _ H Hf ρ (Pres.refl _ _ _) a.fine trivial
  | cons e r =>
    simp only [List.all_cons, Bool.and_eq_true] at hpl
    exact PE.imp (pe_callG F hr g.gd q1 hm hk hb g.takes ha q2 (star_pl hpl.1) (hst r hpl.2)) him
end
end Eng

set_option Elab.async false
set_option linter.all false
set_option maxRecDepth 100000
set_option maxHeartbeats 1000000
/-! Expressions: keywords, isinstance, slices. -/
namespace Eng
open PySem PySem.Spec PyProof.Rows L2
section
variable {G : Cfg} {N : List Str} {C : Calls} {XR : XRel} {X : Cx} {W : WX} {c : Sc} {e e' l r : Expr} {es : List Expr} {pos : Pos} {f fa fb fc : Env → Mem → R U} {fs fk : Env → Mem → R (List U)} {kws : List Keyword}
theorem rk_nil : PK X [] (tL X.K XR W fun _ m => .ok [] m) := ⟨fun pos pins s σ H Q I ⟨Hf, ρ, ω, env, m, a, o⟩ => pk_nil.run pos pins s σ H Q I (a.ok (v := ([] : List V)) o trivial)⟩
theorem rk_cons {nm : Option Str} {kp : Pos} (he : PE X e (tU X.K XR W f)) (hr : PK X kws (tL X.K XR W fs)) : PK X (⟨nm, e, kp⟩ :: kws) (tL X.K XR W fun σ m => (f σ m).bind fun u m1 => (fs σ m1).bind fun us m2 => .ok (u :: us) m2) :=
  ⟨fun pos pins s σ H Q I ⟨Hf, ρ, ω, env, m, a, o⟩ => (pk_cons he hr).run pos pins s σ H Q I (by
    obtain ⟨A, B, D, E, F', a1, o1⟩ := a.bind (Rp' := RU X.K) o
    refine ⟨A, B, D, E, F', a1, o1.mono fun x H1 ⟨u, Hf1, ρ1, m1, p, a1, r1, o1⟩ => ?_⟩
    obtain ⟨A, B, D, E, F', a2, o2⟩ := a1.bind (Rp' := RL X.K) o1
    refine ⟨A, B, D, E, F', a2, o2.mono fun y H2 ⟨u2, Hf2, ρ2, m2, p2, a2, r2, o2⟩ => ?_⟩
    exact a2.ok (v := x :: y) o2 ⟨r1.pres p2, r2⟩)⟩
theorem permL_cons (us : List U) (i : Nat) (r : List Nat) : permL us (i :: r) = (us[i]?).bind fun u => (permL us r).bind fun w => some (u :: w) := by
  unfold permL
  rw [List.mapM_cons]
  rfl
theorem RUs.get {K : PySem.W.Frag} {Hf : Hp} {ρ : List Addr} : ∀ {vs : List V} {us : List U} {i : Nat} {u : U}, RUs K Hf ρ vs us → us[i]? = some u → ∃ v, vs[i]? = some v ∧ RepU K Hf ρ v u
  | v :: vs, u :: us, 0, w, h, e => by simp at e; subst e; exact ⟨v, rfl, h.1⟩
  | v :: vs, u :: us, i + 1, w, h, e => by simp at e; obtain ⟨v', e', r⟩ := RUs.get h.2 e; exact ⟨v', by simpa using e', r⟩
  | [], [], i, w, h, e => by simp at e
  | [], _ :: _, _, _, h, _ => h.elim
  | _ :: _, [], _, _, h, _ => h.elim
theorem RUs.app {K : PySem.W.Frag} {Hf : Hp} {ρ : List Addr} : ∀ {vs ws : List V} {us zs : List U}, RUs K Hf ρ vs us → RUs K Hf ρ ws zs → RUs K Hf ρ (vs ++ ws) (us ++ zs)
  | [], _, [], _, _, h => h
  | _ :: _, _, _ :: _, _, h, h' => ⟨h.1, RUs.app h.2 h'⟩
  | [], _, _ :: _, _, h, _ => h.elim
  | _ :: _, _, [], _, h, _ => h.elim
theorem RUs.perm {K : PySem.W.Frag} {Hf : Hp} {ρ : List Addr} {vs : List V} {us : List U} (h : RUs K Hf ρ vs us) : ∀ {p : List Nat} {ws : List U}, permL us p = some ws → ∃ zs, p.mapM (fun i => vs[i]?) = some zs ∧ RUs K Hf ρ zs ws
  | [], ws, e => by simp [permL] at e; subst e; exact ⟨[], rfl, trivial⟩
  | i :: p, ws, e => by
    rw [permL_cons] at e
    simp only [Option.bind_eq_some_iff, Option.some.injEq] at e
    obtain ⟨u, e1, w, e2, rfl⟩ := e
    obtain ⟨v, e3, r⟩ := h.get e1
    obtain ⟨zs, e4, r'⟩ := h.perm e2
    refine ⟨v :: zs, ?_, r, r'⟩
    rw [List.mapM_cons, e3, e4]; rfl
theorem rl_callk (g : GX G N C XR X W c) {i : Nat} {x : Str} {p : Pos} {ks : List Str} {perm : List Nat} (hn : G.nm i = some x) (hg : glB c x = true) (ha : PA X es (tL X.K XR W fs)) (hes : es = [] → ∀ σ m, fs σ m = .ok [] m) (hpl : es.all pl = true)
    (hk : PK X kws (tL X.K XR W fk)) (hks : kws.map (·.arg) = ks.map some) (hkb : (i, es.length, ks, perm) ∈ G.kb) (hl : ∀ σ m us m', fs σ m = .ok us m' → us.length = es.length) (hl' : ∀ σ m us m', fk σ m = .ok us m' → us.length = ks.length) :
    PE X (.Call (.Name x p) es kws pos) (tU X.K XR W fun σ m => (fs σ m).bind fun us m1 => (fk σ m1).bind fun zs m2 => (R.ofO (permL (us ++ zs) perm) m2).bind fun ws m3 => C i ws m3) := by
  obtain ⟨q1, q2⟩ := g.glo hg
  obtain ⟨a, fd, ps, k, hm, hkp, hb, hr, F, hKB⟩ := g.fns i x hn
  have hst : ∀ l : List Expr, l.all pl = true → (starEach l X.env).any (·.1) = false := fun l => by
    induction l with
    | nil => intro _; rfl
    | cons x r ih => intro h; simp only [List.all_cons, Bool.and_eq_true] at h; rw [star_pl h.1, List.any_cons, ih h.2]; rfl
  have fin : ∀ {σ : L2.St} {H : Hp} {Q : VK} {Hf ρ ω env m} {us : List U} {vs : List V}, At X.K H σ Hf ρ ω env m → RUs X.K Hf ρ vs us → vs.length = es.length →
      OutE X.K XR W σ H Hf ρ (RU X.K) ((fk env m).bind fun zs m2 => (R.ofO (permL (us ++ zs) perm) m2).bind fun ws m3 => C i ws m3) Q →
      tL X.K XR W fk σ H fun zs H2 => vs.length = es.length ∧ zs.length = ks.length ∧ ∃ vs', perm.mapM (fun i => (vs ++ zs)[i]?) = some vs' ∧ spC X.K XR (C i) vs' H2 Q (WE W σ) := fun {σ H Q Hf ρ ω env m us vs} a1 r1 hv o1 => by
    obtain ⟨A, B, D, E, F', a2, o2⟩ := a1.bindE (Rp' := RL X.K) o1
    refine ⟨A, B, D, E, F', a2, o2.mono fun y H2 ⟨u2, Hf2, ρ2, m2, p2, a2, r2, o2, eq2⟩ => ?_⟩
    cases hz : permL (us ++ u2) perm with
    | none => rw [hz] at o2; exact o2.elim
    | some ws =>
      rw [hz, R.ofO_some, R.bind_ok] at o2
      obtain ⟨zs, e4, r4⟩ := ((r1.pres p2).app r2).perm hz
      exact ⟨hv, by rw [r2.len]; exact hl' _ _ _ _ eq2, zs, e4, Hf2, ρ2, m2, ws, a2.fine, r4, o2.conv⟩
  cases es with
  | nil =>
    refine PE.imp (pe_callGK F hr g.gd q1 hm hkp (hKB _ _ _ hkb) g.takes pa_nil hk hks q2 (fun _ => rfl) (fun _ _ h => by cases h) (hst [] rfl)) fun σ H Q ⟨Hf, ρ, ω, env, m, a, o⟩ => ?_
    dsimp only at o
    rw [hes rfl, R.bind_ok] at o
    exact fin (us := []) (vs := []) a trivial rfl o
  | cons e r =>
    refine PE.imp (pe_callGK F hr g.gd q1 hm hkp (hKB _ _ _ hkb) g.takes ha hk hks q2 (fun h => by cases h) (fun e' r' h => by cases h; simp only [List.all_cons, Bool.and_eq_true] at hpl; exact star_pl hpl.1) (hst _ hpl)) fun σ H Q ⟨Hf, ρ, ω, env, m, a, o⟩ => ?_
    obtain ⟨A, B, D, E, F', a1, o1⟩ := a.bindE (Rp' := RL X.K) o
    refine ⟨A, B, D, E, F', a1, o1.mono fun x H1 ⟨u, Hf1, ρ1, m1, p, a1, r1, o1, eq⟩ => ?_⟩
    exact fin a1 r1 (by rw [r1.len]; exact hl _ _ _ _ eq) o1
/-- a built-in class as a value -/
theorem cls_pe (g : GX G N C XR X W c) {k : ClsT} {t : Expr} (h : isName c (clsN k) t = true) : ∃ n : String, PE X t (tC (.ty n)) ∧ n = clsS k ∧ pl t = true := by
  cases t <;> simp only [isName, Bool.false_eq_true] at h
  simp only [Bool.and_eq_true, decide_eq_true_eq] at h
  obtain ⟨rfl, h2⟩ := h
  obtain ⟨q1, q2⟩ := g.glo h2
  have hm : X.mg (clsN k) = none := g.bn _ (by cases k <;> decide)
  refine ⟨_, pe_bltn (v := .ty _) q1 hm (u := .type (clsS k)) (by cases k <;> decide +kernel) rfl (by cases k <;> decide) q2, rfl, rfl⟩
theorem rl_isi (g : GX G N C XR X W c) {k : ClsT} {t : Expr} {p : Pos} (hg : glB c "isinstance" = true) (he : PE X e (tU X.K XR W f)) (hp : pl e = true) (ht : isName c (clsN k) t = true) :
    PE X (.Call (.Name "isinstance" p) [e, t] [] pos) (tU X.K XR W fun σ m => (f σ m).bind (d1 fun d => some (.bool (clsVal k d)))) := by
  obtain ⟨q1, q2⟩ := g.glo hg
  obtain ⟨n, h1, hn, hpt⟩ := cls_pe g ht
  have hm : X.mg "isinstance" = none := g.bn _ (by decide)
  refine PE.imp (pe_callB call_isi q1 hm (by decide +kernel) (pa_cons he (pa_cons h1 pa_nil (star_pl hpt)) (star_pl hp)) (by decide) q2 (star_pl hp) (by rw [star_pl hpt]; rfl)) fun σ H Q ⟨Hf, ρ, ω, env, m, a, o⟩ => ?_
  obtain ⟨A, B, D, E, F', a1, o1⟩ := a.bind (Rp' := RU X.K) o
  refine ⟨A, B, D, E, F', a1, o1.mono fun x H1 ⟨u, Hf1, ρ1, m1, p, a1, r1, o1⟩ => ?_⟩
  cases u with
  | ref i => exact o1.elim
  | dat d =>
    subst hn
    exact ⟨x, _, _, _, _, rfl, .ty _, ty_of (Dp.mono a1.fine.sub _ _ r1.1), cls_kit k d r1.2, a1.ok o1 ⟨.bl _, rfl⟩⟩
theorem rl_isi2 (g : GX G N C XR X W c) {k k' : ClsT} {t t' : Expr} {p p' : Pos} {kk : Nat} (hg : glB c "isinstance" = true) (he : PE X e (tU X.K XR W f)) (hp : pl e = true) (ht : isName c (clsN k) t = true) (ht' : isName c (clsN k') t' = true) :
    PE X (.Call (.Name "isinstance" p) [e, .Tuple [t, t'] kk p'] [] pos) (tU X.K XR W fun σ m => (f σ m).bind (d1 fun d => some (.bool (clsVal k d || clsVal k' d)))) := by
  obtain ⟨q1, q2⟩ := g.glo hg
  obtain ⟨n, h1, hn, hpt⟩ := cls_pe g ht
  obtain ⟨n', h1', hn', hpt'⟩ := cls_pe g ht'
  have hm : X.mg "isinstance" = none := g.bn _ (by decide)
  have hT : PE X (.Tuple [t, t'] kk p') (tTup (tCons (tC (.ty n)) (tCons (tC (.ty n')) tNil))) := pe_tup (pa_cons h1 (pa_cons h1' pa_nil (star_pl hpt')) (star_pl hpt))
  refine PE.imp (pe_callB call_isiT q1 hm (by decide +kernel) (pa_cons he (pa_cons hT pa_nil) (star_pl hp)) (by decide) q2 (star_pl hp) (by rfl)) fun σ H Q ⟨Hf, ρ, ω, env, m, a, o⟩ => ?_
  obtain ⟨A, B, D, E, F', a1, o1⟩ := a.bind (Rp' := RU X.K) o
  refine ⟨A, B, D, E, F', a1, o1.mono fun x H1 ⟨u, Hf1, ρ1, m1, p, a1, r1, o1⟩ => ⟨by show 2 ≤ sizeLine; decide, fun b hb => ?_⟩⟩
  cases u with
  | ref i => exact o1.elim
  | dat d =>
    subst hn hn'
    refine ⟨x, b, _, _, _, (clsVal k d || clsVal k' d), rfl, upd_same, .cons (.ty _) (.cons (.ty _) .nil), ty_of (Dp.mono (a1.fine.sub.trans (Sub.new hb)) _ _ r1.1), ?_, ?_⟩
    · refine kitAny_cons (cls_kit k d r1.2) (fun hb => ?_) fun hb => by rw [hb]; rfl
      refine kitAny_cons (cls_kit k' d r1.2) (fun hb' => ?_) fun hb' => by rw [hb']; exact Bool.or_true _
      rw [hb, hb']; exact kitAny_nil
    · exact o1 _ _ _ _ (Pres.fresh hb) (a1.fine.fresh hb) ⟨.bl _, rfl⟩
abbrev tO (K : PySem.W.Frag) (XR : XRel) (W : WX) (f : Env → Mem → R (Option Int)) : TO := tR K XR W (fun _ _ _ (a b : Option Int) => a = b) f
/-- list(..), a list of its own -/
theorem rl_listF (g : GX G N C XR X W c) {p : Pos} (hg : glB c "list" = true) (he : PE X e (tB X.K XR W f)) (hp : pl e = true) :
    PE X (.Call (.Name "list" p) [e] [] pos) (tF X.K XR W fun σ m => (f σ m).bind (d1 (b1Val .list))) :=
  PE.imp (pe_b1X g (f := .list) rfl hg he hp op_listF) fun σ H Q ⟨Hf, ρ, ω, env, m, a, o⟩ => by
    obtain ⟨A, B, D, E, F', a1, o1⟩ := a.bind (Rp' := RB X.K) o
    refine ⟨A, B, D, E, F', a1, o1.mono fun x H1 ⟨u, Hf1, ρ1, m1, p, a1, r1, o1⟩ => ?_⟩
    cases u with
    | ref i => exact o1.elim
    | dat d =>
      simp only [d1_dat] at o1
      cases hz : b1Val .list d with
      | none => rw [hz] at o1; exact o1.elim
      | some w =>
        rw [hz] at o1
        obtain ⟨ds, rfl⟩ : ∃ ds, w = .list ds := by
          cases d <;> simp only [b1Val, reduceCtorEq, Option.some.injEq] at hz
          · exact ⟨_, hz.symm⟩
          · exact ⟨_, hz.symm⟩
        refine ⟨_, _, _, _, _, _, x, d, ds, rfl, a1, r1, hz, fun b vs hb h1 h2 => ?_⟩
        have hfb := a1.free hb
        exact o1 _ _ _ _ (Pres.fresh hb) (a1.fine.fresh hb) ⟨b, vs, ds, rfl, rfl, p.none a.fine a1.fine hb, upd_same, hfb.1, hfb.2, h1, h2⟩
end
end Eng

set_option Elab.async false
set_option linter.all false
set_option maxRecDepth 100000
set_option maxHeartbeats 1000000
/-! enumerate of a tuple. -/
namespace PySem
open Sem (wp)
open AutoSeq1 (wpAny_loadPart')
theorem engMeets_enum1 {v : Value} {o : Obj} {H : Heap → Prop} (B : Begins v o H) :
    Meets (Builtin.«enumerate.__new__» ⟨[.type "enumerate", v], []⟩) (fun _ R s => H s.heap ∧
      R (.ok (.ret (.ref (s.heap.push o).objs.size))) { s with heap := (s.heap.push o).push { cls := .type "enumerate", data := .fields #[.none, .bool false, .ref s.heap.objs.size, rawInt 0, .none, .none] } }) :=
  .of_wp fun prog w A R s h => by
    obtain ⟨hp, g, d, tk, os⟩ := s; obtain ⟨h1, h⟩ := h
    have hsub := sub_enumerate
    have q1 : ∀ {A' : Around} {E : Value → Shared → Prop} {Q : Value → Shared → Prop}, Q (.ref hp.objs.size) ⟨hp.push o, g, d, tk, os⟩ → wpAny (model prog w) A' (pyIter v) Q E ⟨hp, g, d, tk, os⟩ :=
      fun q => B.iter prog w _ _ ⟨hp, g, d, tk, os⟩ _ h1 q
    wp_walk using q1
    refine wpAny_stack_any fun st => wpAny_pure ?_
    split
    · rename_i c _ _ _ _ _
      cases (c == Value.type "enumerate")
      · wp_walk using q1
        exact ⟨_, rfl, h⟩
      · wp_walk using q1
        exact ⟨_, rfl, h⟩
    · wp_walk using q1
      exact ⟨_, rfl, h⟩
section
variable {prog : Program} {w : World} {A : Around} {E : Value → Shared → Prop} {s : Shared}
theorem engEnum1 {v : Value} {o : Obj} {H : Heap → Prop} {Q : Value → Shared → Prop} (B : Begins v o H) (h1 : H s.heap)
    (h : ∀ h', IsEnum h' (s.heap.objs.size + 1) s.heap.objs.size 0 .none → h'.get? s.heap.objs.size = some o → h'.objs.size = s.heap.objs.size + 2 →
      (∀ b o, s.heap.get? b = some o → h'.get? b = some o) → Q (.ref (s.heap.objs.size + 1)) { s with heap := h' }) :
    wpAny (model prog w) A (call (.type "enumerate") [v]) Q E s := by
  refine callType_new F.called_enumerate (by decide) (F.typeCall_enumerate_1 _) (F.newCall_enumerate_1 _) (fun obj => F.args_object_init_2 obj _) F.entry_enumerate_new
    (engMeets_enum1 B) ⟨h1, ?_⟩
  have hz : (s.heap.push o).objs.size = s.heap.objs.size + 1 := Heap.size_push ..
  show _ ∧ _
  rw [hz]
  have he : IsEnum ((s.heap.push o).push { cls := .type "enumerate", data := .fields #[.none, .bool false, .ref s.heap.objs.size, rawInt 0, .none, .none] }) (s.heap.objs.size + 1) s.heap.objs.size 0 .none := by
    have := Heap.get?_push_size (s.heap.push o) (o := { cls := .type "enumerate", data := .fields #[.none, .bool false, .ref s.heap.objs.size, rawInt 0, .none, .none] }) rfl
    rw [hz] at this; exact this
  refine ⟨⟨_, he, rfl⟩, h _ he (Heap.get?_push_of_some _ (Heap.get?_push_size _ B.free)) (by rw [Heap.size_push, hz]) fun b o x => Heap.get?_push_of_some _ (Heap.get?_push_of_some _ x)⟩
end
end PySem
namespace Eng
open PySem PySem.Spec PyProof.Rows L2
def IteT (K : PySem.W.Frag) (a : Addr) : L2.It :=
  ⟨fun i H => ∃ (xs : List V) (x : V), SqT K H a xs ∧ xs[i]? = some x, fun i H v H' => ∃ T x, v = .ref T ∧ H T = none ∧ H' = upd H T (.tup [.int (i : Nat), x]) ∧ ∀ xs, SqT K H a xs → xs[i]? = some x, fun i H => ∃ xs : List V, SqT K H a xs ∧ xs.length = i⟩
theorem turn_enumT {P : Program} {w : World} {K : PySem.W.Frag} {elts : List Expr} {kk : Nat} {tpos : Pos} (a e it : Addr) (hae : e ≠ a) (hai : a ≠ it) :
    Turn P w K (.Tuple elts kk tpos) (IteT K a) [e, it] e (fun i h => (∃ old, IsEnum h e it ((i : Nat) : Int) old) ∧ h.IsTupleIter it a i ∧ e ≠ it) where
  mem := by simp
  obj := fun i h st b hb => by
    obtain ⟨⟨old, he⟩, ⟨o, ho, hc, hd⟩, _⟩ := st
    have e' : b = e ∨ b = it := by simpa using hb
    rcases e' with z | z
    · rw [z]; exact ⟨_, he, fun v q => nomatch q⟩
    · rw [z]; exact ⟨o, ho, fun v q => by rw [hd] at q; cases q⟩
  keep := fun i h h' st k => let ⟨⟨old, he⟩, hi, hne⟩ := st; ⟨⟨old, k e (by simp) _ he⟩, hi.at fun o q => k it (by simp) o q, hne⟩
  item := by
    intro X hP hw hK hc i pins s σ H E I hf st hg
    subst hP hw hK
    obtain ⟨⟨old, he⟩, hit, hne⟩ := st
    obtain ⟨xs, x, hq, hx⟩ := hg
    obtain ⟨its, rv, p, hz⟩ := I.tuple hq
    obtain ⟨u, hu, ru⟩ := rv.get hx
    have hel : e < s.heap.objs.size := Heap.lt_size he
    have hil : it < s.heap.objs.size := by obtain ⟨_, q, _⟩ := hit; exact Heap.lt_size q
    have hh : X.A.in1.handled = none := I.ok.hd hc
    have hil2 : i < its.toArray.size := by have := (List.getElem?_eq_some_iff.mp hu).1; simpa using this
    refine wpAny_pyNext_enum_itemD (Draws.tuple (prog := X.prog) (w := X.w) (A := X.A.in1) hh it a hai its.toArray) he ⟨hit, show s.heap.IsTuple a its.toArray from p⟩ hil2 hne (by
      intro z; rcases List.mem_cons.mp z with z | z
      · exact hne z
      · exact hae (by simpa using z)) fun y h' tk hy ho hst hT hsz hk => ?_
    have ey : y = u := by
      have h1 : its.toArray[i]? = some u := by simpa using hu
      rw [h1] at hy; exact (Option.some.inj hy).symm
    subst ey
    refine ⟨_, rfl, wpAny_letOwnedTupleGo_enum (s := { s with heap := h', toks := tk + 1 }) ho fun h'' he' sb => ?_⟩
    have hT2 : h''.get? s.heap.objs.size = some { cls := .type "tuple", data := .seq #[.int i tk, y] } := (sb.2 _ (Nat.ne_of_gt hel)).trans hT
    have new : ObjOk X.prog X.w (upd H s.heap.objs.size (.tup [.int (i : Nat), x])) h'' s.heap.objs.size (.tup [.int (i : Nat), x]) :=
      ⟨by show 2 ≤ sizeLine; decide, [.int i tk, y], .cons ⟨_, rfl⟩ (.cons ru .nil), ⟨_, hT2, rfl, _, rfl⟩⟩
    have I1 : L2.Inv X pins σ (upd H s.heap.objs.size (.tup [.int (i : Nat), x])) { s with heap := h'', toks := tk + 1 } :=
      I.turnedNew (ch := [e, it]) (fun b ob hb q => (sb.2 b (fun z => hb (by simp [z]))).trans (hk b ob (fun z => hb (by simp [z])) (fun z => hb (by simp [z])) q)) hf (Nat.le_refl _) new
    refine ⟨.ref s.heap.objs.size, _, I1, rfl, ⟨_, x, rfl, I.hok.fresh (Nat.le_refl _), rfl, fun ys hy => by rw [I.tuple_inj hy hq]; exact hx⟩, ⟨⟨y, ?_⟩, hst.1.at fun o q => (sb.2 it (Ne.symm hne)).trans q, hne⟩, fun b hb => ?_⟩
    · have e1 : ((i + 1 : Nat) : Int) = (i : Int) + 1 := by omega
      rw [e1]; exact he'
    · have hb' : b < s.heap.objs.size := by
        have e' : b = e ∨ b = it := by simpa using hb
        rcases e' with z | z
        · rw [z]; exact hel
        · rw [z]; exact hil
      rw [upd_ne (Nat.ne_of_lt hb')]
      exact (hf b hb).1
  done := by
    intro X hP hw hK hc i pins s σ H E I hf st hg
    subst hP hw hK
    obtain ⟨⟨old, he⟩, hit, hne⟩ := st
    obtain ⟨xs, hq, hx⟩ := hg
    obtain ⟨its, rv, p, hz⟩ := I.tuple hq
    obtain ⟨f0, f1, f2, f3, f4, f5⟩ := hf it (by simp)
    have hl := rv.length
    have hh : X.A.in1.handled = none := I.ok.hd hc
    have hsz : its.toArray.size = i := by rw [List.size_toArray]; omega
    exact wpAny_pyNext_enum_endD (Draws.tuple (prog := X.prog) (w := X.w) (A := X.A.in1) hh it a hai its.toArray) he ⟨by rw [hsz]; exact hit, show s.heap.IsTuple a its.toArray from p⟩ fun h' eb => ⟨rfl, I.turned (t' := s.toks) (fun b o hb q => eb b o hb q) f0 f1 f3 f4 f5⟩
  self := fun A i s Q E st h => let ⟨⟨_, he⟩, _⟩ := st; wpAny_pyIter_enum he h
def iEnumT (K : PySem.W.Frag) (ta : TA) : TI := fun σ H R => ta σ H fun vs H1 => ∃ a xs, vs = [.ref a] ∧ SqT K H1 a xs ∧ R (IteT K a) H1
theorem pi_enumT {X : Cx} {e : Expr} {ta : TA} {p pos tpos : Pos} {elts : List Expr} {kk : Nat} (hg : Gl X "enumerate") (hm : X.mg "enumerate" = none) (ha : PA X [e] ta) (hs : starEach [e] X.env = [(false, eval e X.env)]) :
    PI X (.Tuple elts kk tpos) (.Call (.Name "enumerate" p) [e] [] pos) (iEnumT X.K ta) := by
  refine ⟨fun pins s σ H R I h => ?_⟩
  refine Call_ (ld_blt I hg hm boot_enumerate (PyProof.Rows.callWith_type1 (thn (ha.run pos pins s σ H _ I h) fun us s1 ⟨vs, H1, I1, r1, q1⟩ => ?_) hs rfl))
  obtain ⟨a, xs, ex, hq, q⟩ := q1
  subst ex
  cases r1 with
  | cons r rr =>
    cases rr
    cases r
    obtain ⟨its, rv, p', hz⟩ := I1.tuple hq
    have hal : a < s1.heap.objs.size := by obtain ⟨o, e1, _⟩ := p'; exact Heap.lt_size e1
    refine engEnum1 (begins_tuple a its.toArray) (show s1.heap.IsTuple a its.toArray from p') fun h' he hit hsz hk => wpAny_pyIter_enum he ?_
    have I2 : L2.Inv X pins σ H1 { s1 with heap := h' } := I1.kept (t' := s1.toks) hk
    refine ⟨s1.heap.objs.size + 1, [s1.heap.objs.size + 1, s1.heap.objs.size], _, _, H1, rfl, I2, turn_enumT a (s1.heap.objs.size + 1) s1.heap.objs.size (Nat.ne_of_gt (Nat.lt_succ_of_lt hal)) (Nat.ne_of_lt hal), ⟨⟨.none, he⟩, ⟨_, hit, rfl, rfl⟩, Nat.succ_ne_self _⟩, fun b hb => ?_, q⟩
    have e' : b = s1.heap.objs.size + 1 ∨ b = s1.heap.objs.size := by simpa using hb
    have hle : s1.heap.objs.size ≤ b := by
      rcases e' with z | z
      · rw [z]; exact Nat.le_add_right _ _
      · rw [z]; exact Nat.le_refl _
    exact I1.fpOk hle (I1.hok.fresh hle)
end Eng

set_option Elab.async false
set_option linter.all false
set_option maxRecDepth 100000
set_option maxHeartbeats 1000000
/-! What is walked; targets. -/
namespace Eng
open PySem PySem.Spec PyProof.Rows L2

/-- an iterator that gives these data -/
def ItOk (K : PySem.W.Frag) (J : L2.It) (Hf : Hp) (ds : List PyData) : Prop := ∀ (H1 Hf1 : Hp), Sub Hf Hf1 → Sub Hf1 H1 → ∀ i : Nat,
  (∀ d, ds[i]? = some d → J.go i H1 ∧ ∀ x H2, J.yld i H1 x H2 → ∃ Hf2, Sub Hf1 Hf2 ∧ Sub H1 H2 ∧ Sub Hf2 H2 ∧ (∀ a, H1 a ≠ none → Hf1 a = none → Hf2 a = none) ∧ Dp K Hf2 x d) ∧ (ds.length = i → J.stop i H1)
abbrev RI (K : PySem.W.Frag) : Hp → Hp → List Addr → L2.It → List PyData → Prop := fun _ Hf _ J ds => ItOk K J Hf ds ∧ szAll ds = true
abbrev tI (K : PySem.W.Frag) (XR : XRel) (W : WX) (f : Env → Mem → R (List PyData)) : TI := tR K XR W (RI K) f
section
variable {G : Cfg} {N : List Str} {C : Calls} {XR : XRel} {X : Cx} {W : WX} {c : Sc} {e e' l r t : Expr} {pos : Pos} {f fa fb : Env → Mem → R U}
theorem itOk_list {K : PySem.W.Frag} {Hf : Hp} {a : Addr} {vs : List V} {ds : List PyData} (h : SqL K Hf a vs) (ha : DpAll K Hf vs ds) : ItOk K (Itl K a) Hf ds := by
  intro H1 Hf1 s1 s2 i
  have h1 : SqL K H1 a vs := SqL.mono (s1.trans s2) h
  refine ⟨fun d hd => ?_, fun e => ⟨vs, h1, by rw [ha.len]; omega⟩⟩
  obtain ⟨v, hv, hdp⟩ := ha.get hd
  refine ⟨⟨vs, v, h1, hv⟩, fun x H2 ⟨e1, e2⟩ => ?_⟩
  subst e1
  have := e2 vs h1
  rw [hv] at this; cases this
  exact ⟨Hf1, Sub.refl _, Sub.refl _, s2, fun _ _ h => h, Dp.mono s1 _ _ hdp⟩
theorem itOk_tup {K : PySem.W.Frag} {Hf : Hp} {a : Addr} {vs : List V} {ds : List PyData} (h : SqT K Hf a vs) (ha : DpAll K Hf vs ds) : ItOk K (Itt K a) Hf ds := by
  intro H1 Hf1 s1 s2 i
  have h1 : SqT K H1 a vs := SqT.mono (s1.trans s2) h
  refine ⟨fun d hd => ?_, fun e => ⟨vs, h1, by rw [ha.len]; omega⟩⟩
  obtain ⟨v, hv, hdp⟩ := ha.get hd
  refine ⟨⟨vs, v, h1, hv⟩, fun x H2 ⟨e1, e2⟩ => ?_⟩
  subst e1
  have := e2 vs h1
  rw [hv] at this; cases this
  exact ⟨Hf1, Sub.refl _, Sub.refl _, s2, fun _ _ h => h, Dp.mono s1 _ _ hdp⟩
theorem rng_get {lo : Int} {n i : Nat} {d : PyData} (h : (rngD lo n)[i]? = some d) : i < n ∧ d = .int (lo + i) := by
  unfold rngD at h
  rw [List.getElem?_map] at h
  by_cases hi : i < n
  · rw [List.getElem?_eq_getElem (by simpa using hi)] at h
    simp at h
    exact ⟨hi, h.symm⟩
  · rw [List.getElem?_eq_none (by simp; omega)] at h; cases h
theorem itOk_rng {K : PySem.W.Frag} {Hf : Hp} (lo : Int) (n : Nat) : ItOk K (Itr lo n) Hf (rngD lo n) := by
  intro H1 Hf1 s1 s2 i
  refine ⟨fun d hd => ?_, fun e => ?_⟩
  · obtain ⟨h1, rfl⟩ := rng_get hd
    refine ⟨h1, fun x H2 ⟨e1, e2⟩ => ?_⟩
    subst e1 e2
    exact ⟨Hf1, Sub.refl _, Sub.refl _, s2, fun _ _ h => h, .int _⟩
  · have : (rngD lo n).length = n := by unfold rngD; simp
    show n ≤ i
    omega
theorem rng_sz (lo : Int) (n : Nat) : szAll (rngD lo n) = true := by
  rw [szAll_iff]
  intro d hd
  unfold rngD at hd
  obtain ⟨i, _, rfl⟩ := List.mem_map.mp hd
  rfl
theorem enum_get : ∀ {ds : List PyData} {k i : Nat} {d : PyData}, (enumD k ds)[i]? = some d → ∃ x, ds[i]? = some x ∧ d = .tuple [.int ((k + i : Nat) : Int), x]
  | [], _, _, _, h => by simp [enumD] at h
  | x :: ds, k, 0, d, h => by simp [enumD] at h; exact ⟨x, rfl, by simp [h]⟩
  | x :: ds, k, i + 1, d, h => by
    simp only [enumD, List.getElem?_cons_succ] at h ⊢
    obtain ⟨y, h1, h2⟩ := enum_get h
    exact ⟨y, h1, by rw [h2]; congr 3; omega⟩
theorem enum_len : ∀ (ds : List PyData) (k : Nat), (enumD k ds).length = ds.length
  | [], _ => rfl
  | _ :: ds, k => by show (enumD (k + 1) ds).length + 1 = _; rw [enum_len ds (k + 1)]; rfl
theorem sz_two {x y : PyData} (h : szOk x = true) (h' : szOk y = true) : szOk (.tuple [x, y]) = true := by
  rw [sz_tuple]; refine ⟨by show 2 ≤ sizeLine; decide, ?_⟩
  simp [szAll, h, h']
theorem enum_sz {ds : List PyData} {k : Nat} (h : szAll ds = true) : szAll (enumD k ds) = true := by
  rw [szAll_iff] at *
  intro d hd
  obtain ⟨i, hi⟩ := List.mem_iff_getElem?.mp hd
  obtain ⟨x, h1, rfl⟩ := enum_get hi
  exact sz_two rfl (h x (List.mem_of_getElem? h1))
theorem new_pair {K : PySem.W.Frag} {H1 Hf1 : Hp} {T : Addr} {x y : V} {d d' : PyData} (hT : H1 T = none) (s2 : Sub Hf1 H1) (hx : Dp K Hf1 x d) (hy : Dp K Hf1 y d') :
    ∃ Hf2, Sub Hf1 Hf2 ∧ Sub H1 (upd H1 T (.tup [x, y])) ∧ Sub Hf2 (upd H1 T (.tup [x, y])) ∧ (∀ a, H1 a ≠ none → Hf1 a = none → Hf2 a = none) ∧ Dp K Hf2 (.ref T) (.tuple [d, d']) := by
  have hfT := s2.none hT
  refine ⟨upd Hf1 T (.tup [x, y]), Sub.new hfT, Sub.new hT, fun b o e => ?_, fun a h1 h2 => ?_, .tup (.inl (.inl upd_same)) (.cons (Dp.mono (Sub.new hfT) _ _ hx) (.cons (Dp.mono (Sub.new hfT) _ _ hy) .nil))⟩
  · by_cases hb : b = T
    · subst hb; rw [upd_same] at e ⊢; exact e
    · rw [upd_ne hb] at e ⊢; exact s2 _ _ e
  · have : a ≠ T := fun z => h1 (by rw [z]; exact hT)
    rw [upd_ne this]; exact h2
theorem itOk_enumL {K : PySem.W.Frag} {Hf : Hp} {a : Addr} {vs : List V} {ds : List PyData} (h : SqL K Hf a vs) (ha : DpAll K Hf vs ds) : ItOk K (Ite K a) Hf (enumD 0 ds) := by
  intro H1 Hf1 s1 s2 i
  have h1 : SqL K H1 a vs := SqL.mono (s1.trans s2) h
  refine ⟨fun d hd => ?_, fun e => ⟨vs, h1, by rw [enum_len] at e; rw [ha.len]; omega⟩⟩
  obtain ⟨y, hy, rfl⟩ := enum_get hd
  obtain ⟨v, hv, hdp⟩ := ha.get hy
  refine ⟨⟨vs, v, h1, hv⟩, fun x H2 ⟨T, x', e1, e2, e3, e4⟩ => ?_⟩
  subst e1 e3
  have := e4 vs h1
  rw [hv] at this; cases this
  rw [Nat.zero_add]
  exact new_pair e2 s2 (.int _) (Dp.mono s1 _ _ hdp)
theorem itOk_enumT {K : PySem.W.Frag} {Hf : Hp} {a : Addr} {vs : List V} {ds : List PyData} (h : SqT K Hf a vs) (ha : DpAll K Hf vs ds) : ItOk K (IteT K a) Hf (enumD 0 ds) := by
  intro H1 Hf1 s1 s2 i
  have h1 : SqT K H1 a vs := SqT.mono (s1.trans s2) h
  refine ⟨fun d hd => ?_, fun e => ⟨vs, h1, by rw [enum_len] at e; rw [ha.len]; omega⟩⟩
  obtain ⟨y, hy, rfl⟩ := enum_get hd
  obtain ⟨v, hv, hdp⟩ := ha.get hy
  refine ⟨⟨vs, v, h1, hv⟩, fun x H2 ⟨T, x', e1, e2, e3, e4⟩ => ?_⟩
  subst e1 e3
  have := e4 vs h1
  rw [hv] at this; cases this
  rw [Nat.zero_add]
  exact new_pair e2 s2 (.int _) (Dp.mono s1 _ _ hdp)
theorem zip_get : ∀ {ds es : List PyData} {i : Nat} {d : PyData}, (zipD ds es)[i]? = some d → ∃ x y, ds[i]? = some x ∧ es[i]? = some y ∧ d = .tuple [x, y]
  | [], _, _, _, h => by simp [zipD] at h
  | _ :: _, [], _, _, h => by simp [zipD] at h
  | x :: ds, y :: es, 0, d, h => by simp [zipD] at h; exact ⟨x, y, rfl, rfl, h.symm⟩
  | x :: ds, y :: es, i + 1, d, h => by
    simp only [zipD, List.getElem?_cons_succ] at h ⊢
    exact zip_get h
theorem zip_len : ∀ (ds es : List PyData), (zipD ds es).length = min ds.length es.length
  | [], es => by simp [zipD]
  | _ :: _, [] => by simp [zipD]
  | _ :: ds, _ :: es => by simp only [zipD, List.length_cons, zip_len ds es]; omega
theorem zip_sz {ds es : List PyData} (h : szAll ds = true) (h' : szAll es = true) : szAll (zipD ds es) = true := by
  rw [szAll_iff] at *
  intro d hd
  obtain ⟨i, hi⟩ := List.mem_iff_getElem?.mp hd
  obtain ⟨x, y, h1, h2, rfl⟩ := zip_get hi
  exact sz_two (h x (List.mem_of_getElem? h1)) (h' y (List.mem_of_getElem? h2))
theorem SqK.mono {K : PySem.W.Frag} {k : Bool} {H H' : Hp} (s : Sub H H') {a : Addr} {xs : List V} (h : SqK K k H a xs) : SqK K k H' a xs := by
  cases k
  · exact SqT.mono s h
  · exact SqL.mono s h
theorem itOk_zipK {K : PySem.W.Frag} (k1 k2 : Bool) {Hf : Hp} {a b : Addr} {vs ws : List V} {ds es : List PyData} (h : SqK K k1 Hf a vs) (ha : DpAll K Hf vs ds) (h' : SqK K k2 Hf b ws) (hb : DpAll K Hf ws es) : ItOk K (ItzK K k1 k2 a b) Hf (zipD ds es) := by
  intro H1 Hf1 s1 s2 i
  have h1 : SqK K k1 H1 a vs := SqK.mono (s1.trans s2) h
  have h2 : SqK K k2 H1 b ws := SqK.mono (s1.trans s2) h'
  refine ⟨fun d hd => ?_, fun e => ⟨vs, ws, h1, h2, by rw [zip_len] at e; rw [ha.len, hb.len]; omega⟩⟩
  obtain ⟨x, y, hx, hy, rfl⟩ := zip_get hd
  obtain ⟨v, hv, hdp⟩ := ha.get hx
  obtain ⟨w, hw, hdp'⟩ := hb.get hy
  refine ⟨⟨vs, ws, v, w, h1, h2, hv, hw⟩, fun x H2 ⟨T, x', y', e1, e2, e3, e4, e5⟩ => ?_⟩
  subst e1 e3
  have := e4 vs h1
  rw [hv] at this; cases this
  have := e5 ws h2
  rw [hw] at this; cases this
  exact new_pair e2 s2 (Dp.mono s1 _ _ hdp) (Dp.mono s1 _ _ hdp')
/-- of data: a list's, a tuple's address in the part that stays -/
theorem RepU.list {K : PySem.W.Frag} {Hf : Hp} {ρ : List Addr} {v : V} {xs : List PyData} (r : RepU K Hf ρ v (.dat (.list xs))) : ∃ p vs, v = .ref p ∧ SqL K Hf p vs ∧ DpAll K Hf vs xs ∧ szAll xs = true := by
  obtain ⟨d, hz⟩ := r
  cases d with
  | lst hs ha => exact ⟨_, _, rfl, hs, ha, (sz_list.mp hz).2⟩
theorem RepU.tup {K : PySem.W.Frag} {Hf : Hp} {ρ : List Addr} {v : V} {xs : List PyData} (r : RepU K Hf ρ v (.dat (.tuple xs))) : ∃ p vs, v = .ref p ∧ SqT K Hf p vs ∧ DpAll K Hf vs xs ∧ szAll xs = true := by
  obtain ⟨d, hz⟩ := r
  cases d with
  | tup hs ha => exact ⟨_, _, rfl, hs, ha, (sz_tuple.mp hz).2⟩
theorem ri_seq (he : PE X e (tU X.K XR W f)) : PI X t e (tI X.K XR W fun σ m => (f σ m).bind seqU) :=
  PI.imp (PI.or (pi_list he) (pi_tup he)) fun σ H Q ⟨Hf, ρ, ω, env, m, a, o⟩ => by
    cases hf : f env m with
    | bad => dsimp only at o; rw [hf] at o; exact o.elim
    | exc cc xx mm =>
      obtain ⟨A, B, D, E, F', a1, o1⟩ := a.bindE (Rp' := RU X.K) o
      exact .inl ⟨A, B, D, E, F', a1, o1.mono fun x H1 ⟨u, Hf1, ρ1, m1, p, a1, r1, o1, eq⟩ => by rw [hf] at eq; cases eq⟩
    | ok u0 m0 =>
      obtain ⟨A, B, D, E, F', a1, o1⟩ := a.bindE (Rp' := RU X.K) o
      cases u0 with
      | ref i => dsimp only at o; rw [hf] at o; exact (o : False).elim
      | dat d =>
        cases d with
        | list xs =>
          refine .inl ⟨A, B, D, E, F', a1, o1.mono fun x H1 ⟨u, Hf1, ρ1, m1, p, a1, r1, o1, eq⟩ => ?_⟩
          rw [hf] at eq; cases eq
          obtain ⟨q, vs, rfl, h1, h2, h3⟩ := r1.list
          exact ⟨q, rfl, ⟨vs, SqL.mono a1.fine.sub h1⟩, a1.ok o1 ⟨itOk_list h1 h2, h3⟩⟩
        | tuple xs =>
          refine .inr ⟨A, B, D, E, F', a1, o1.mono fun x H1 ⟨u, Hf1, ρ1, m1, p, a1, r1, o1, eq⟩ => ?_⟩
          rw [hf] at eq; cases eq
          obtain ⟨q, vs, rfl, h1, h2, h3⟩ := r1.tup
          exact ⟨q, rfl, ⟨vs, SqT.mono a1.fine.sub h1⟩, a1.ok o1 ⟨itOk_tup h1 h2, h3⟩⟩
        | _ => dsimp only at o; rw [hf] at o; exact (o : False).elim
theorem ri_rng1 (g : GX G N C XR X W c) {p : Pos} (hg : glB c "range" = true) (he : PE X e (tU X.K XR W f)) (hp : pl e = true) : PI X t (.Call (.Name "range" p) [e] [] pos) (tI X.K XR W fun σ m => ((f σ m).bind asInt).bind rng1U) := by
  obtain ⟨q1, q2⟩ := g.glo hg
  refine PI.imp (pi_range1 q1 (g.bn _ (by decide)) (pa_cons he pa_nil (star_pl hp)) (star_pl hp)) fun σ H Q ⟨Hf, ρ, ω, env, m, a, o⟩ => ?_
  dsimp only at o
  rw [R.bind_bind] at o
  obtain ⟨A, B, D, E, F', a1, o1⟩ := a.bind (Rp' := RU X.K) o
  refine ⟨A, B, D, E, F', a1, o1.mono fun x H1 ⟨u, Hf1, ρ1, m1, p, a1, r1, o1⟩ => ?_⟩
  cases u with
  | ref i => exact o1.elim
  | dat d =>
    cases d with
    | int j =>
      cases r1.1
      rw [asInt_int, R.bind_ok] at o1
      unfold rng1U at o1
      split at o1
      · rename_i hj
        exact ⟨j, rfl, hj.1, hj.2, a1.ok o1 ⟨itOk_rng _ _, rng_sz _ _⟩⟩
      · exact o1.elim
    | _ => exact (o1 : False).elim
theorem ri_rng2 (g : GX G N C XR X W c) {p : Pos} (hg : glB c "range" = true) (he : PE X e (tU X.K XR W fa)) (hp : pl e = true) (he' : PE X e' (tU X.K XR W fb)) (hp' : pl e' = true) : PI X t (.Call (.Name "range" p) [e, e'] [] pos) (tI X.K XR W fun σ m => ((fa σ m).bind asInt).bind fun i m1 => ((fb σ m1).bind asInt).bind fun j m2 => rng2U i j m2) := by
  obtain ⟨q1, q2⟩ := g.glo hg
  refine PI.imp (pi_range2 q1 (g.bn _ (by decide)) (pa_cons he (pa_cons he' pa_nil (star_pl hp')) (star_pl hp)) (by rw [star_pl hp, star_pl hp']; rfl) (star_pl hp')) fun σ H Q ⟨Hf, ρ, ω, env, m, a, o⟩ => ?_
  dsimp only at o
  rw [R.bind_bind] at o
  obtain ⟨A, B, D, E, F', a1, o1⟩ := a.bind (Rp' := RU X.K) o
  refine ⟨A, B, D, E, F', a1, o1.mono fun x H1 ⟨u, Hf1, ρ1, m1, p, a1, r1, o1⟩ => ?_⟩
  cases u with
  | ref i => exact o1.elim
  | dat d =>
    cases d with
    | int j =>
      cases r1.1
      rw [asInt_int, R.bind_ok, R.bind_bind] at o1
      obtain ⟨A, B, D, E, F', a2, o2⟩ := a1.bind (Rp' := RU X.K) o1
      refine ⟨A, B, D, E, F', a2, o2.mono fun y H2 ⟨u2, Hf2, ρ2, m2, p2, a2, r2, o2⟩ => ?_⟩
      cases u2 with
      | ref i => exact o2.elim
      | dat d2 =>
        cases d2 with
        | int k =>
          cases r2.1
          rw [asInt_int, R.bind_ok] at o2
          unfold rng2U at o2
          split at o2
          · rename_i hj
            exact ⟨j, k, rfl, hj, a2.ok o2 ⟨itOk_rng _ _, rng_sz _ _⟩⟩
          · exact o2.elim
        | _ => exact (o2 : False).elim
    | _ => exact (o1 : False).elim
theorem ri_enum (g : GX G N C XR X W c) {p : Pos} (hg : glB c "enumerate" = true) (he : PE X e (tU X.K XR W f)) (hp : pl e = true) (ht : isTp t = true) : PI X t (.Call (.Name "enumerate" p) [e] [] pos) (tI X.K XR W fun σ m => ((f σ m).bind seqU).bind enumU) := by
  obtain ⟨q1, q2⟩ := g.glo hg
  have hm := g.bn "enumerate" (by decide)
  cases t <;> simp only [isTp, Bool.false_eq_true] at ht
  refine PI.imp (PI.or (pi_enum q1 hm (pa_cons he pa_nil (star_pl hp)) (star_pl hp)) (pi_enumT q1 hm (pa_cons he pa_nil (star_pl hp)) (star_pl hp))) fun σ H Q ⟨Hf, ρ, ω, env, m, a, o⟩ => ?_
  dsimp only at o
  rw [R.bind_bind] at o
  cases hf : f env m with
  | bad => rw [hf] at o; exact o.elim
  | exc cc xx mm =>
    obtain ⟨A, B, D, E, F', a1, o1⟩ := a.bindE (Rp' := RU X.K) o
    exact .inl ⟨A, B, D, E, F', a1, o1.mono fun x H1 ⟨u, Hf1, ρ1, m1, p, a1, r1, o1, eq⟩ => by rw [hf] at eq; cases eq⟩
  | ok u0 m0 =>
    obtain ⟨A, B, D, E, F', a1, o1⟩ := a.bindE (Rp' := RU X.K) o
    cases u0 with
    | ref i => rw [hf] at o; exact (o : False).elim
    | dat d =>
      cases d with
      | list xs =>
        refine .inl ⟨A, B, D, E, F', a1, o1.mono fun x H1 ⟨u, Hf1, ρ1, m1, p, a1, r1, o1, eq⟩ => ?_⟩
        rw [hf] at eq; cases eq
        obtain ⟨q, vs, rfl, h1, h2, h3⟩ := r1.list
        exact ⟨q, vs, rfl, SqL.mono a1.fine.sub h1, a1.ok o1 ⟨itOk_enumL h1 h2, enum_sz h3⟩⟩
      | tuple xs =>
        refine .inr ⟨A, B, D, E, F', a1, o1.mono fun x H1 ⟨u, Hf1, ρ1, m1, p, a1, r1, o1, eq⟩ => ?_⟩
        rw [hf] at eq; cases eq
        obtain ⟨q, vs, rfl, h1, h2, h3⟩ := r1.tup
        exact ⟨q, vs, rfl, SqT.mono a1.fine.sub h1, a1.ok o1 ⟨itOk_enumT h1 h2, enum_sz h3⟩⟩
      | _ => rw [hf] at o; exact (o : False).elim
theorem ri_zip (g : GX G N C XR X W c) {p : Pos} (hg : glB c "zip" = true) (he : PE X e (tU X.K XR W fa)) (hp : pl e = true) (he' : PE X e' (tU X.K XR W fb)) (hp' : pl e' = true) (ht : isTp t = true) :
    PI X t (.Call (.Name "zip" p) [e, e'] [] pos) (tI X.K XR W fun σ m => (fa σ m).bind fun x m1 => (fb σ m1).bind fun y m2 => zipU x y m2) := by
  obtain ⟨q1, q2⟩ := g.glo hg
  have hm := g.bn "zip" (by decide)
  cases t <;> simp only [isTp, Bool.false_eq_true] at ht
  refine PI.imp (pi_zipK q1 hm (pa_cons he (pa_cons he' pa_nil (star_pl hp')) (star_pl hp)) (star_pl hp) (by rw [star_pl hp']; rfl)) fun σ H Q ⟨Hf, ρ, ω, env, m, a, o⟩ => ?_
  obtain ⟨A, B, D, E, F', a1, o1⟩ := a.bind (Rp' := RU X.K) o
  refine ⟨A, B, D, E, F', a1, o1.mono fun x H1 ⟨u, Hf1, ρ1, m1, p, a1, r1, o1⟩ => ?_⟩
  obtain ⟨A, B, D, E, F', a2, o2⟩ := a1.bind (Rp' := RU X.K) o1
  refine ⟨A, B, D, E, F', a2, o2.mono fun y H2 ⟨u2, Hf2, ρ2, m2, p2, a2, r2, o2⟩ => ?_⟩
  have r1 := r1.pres p2
  cases u with
  | ref i => exact (o2 : False).elim
  | dat d =>
    cases u2 with
    | ref i => cases d <;> exact (o2 : False).elim
    | dat d2 =>
      cases d <;> cases d2 <;> first
        | exact (o2 : False).elim
        | (rw [zipU_list] at o2
           obtain ⟨q, vs, rfl, h1, h2, h3⟩ := r1.list
           obtain ⟨q', vs', rfl, h1', h2', h3'⟩ := r2.list
           exact ⟨true, true, q, q', vs, vs', rfl, SqL.mono a2.fine.sub h1, SqL.mono a2.fine.sub h1', a2.ok o2 ⟨itOk_zipK true true h1 h2 h1' h2', zip_sz h3 h3'⟩⟩)
        | (rw [zipU_tuple] at o2
           obtain ⟨q, vs, rfl, h1, h2, h3⟩ := r1.tup
           obtain ⟨q', vs', rfl, h1', h2', h3'⟩ := r2.tup
           exact ⟨false, false, q, q', vs, vs', rfl, SqT.mono a2.fine.sub h1, SqT.mono a2.fine.sub h1', a2.ok o2 ⟨itOk_zipK false false h1 h2 h1' h2', zip_sz h3 h3'⟩⟩)
        | (rw [zipU_lt] at o2
           obtain ⟨q, vs, rfl, h1, h2, h3⟩ := r1.list
           obtain ⟨q', vs', rfl, h1', h2', h3'⟩ := r2.tup
           exact ⟨true, false, q, q', vs, vs', rfl, SqL.mono a2.fine.sub h1, SqT.mono a2.fine.sub h1', a2.ok o2 ⟨itOk_zipK true false h1 h2 h1' h2', zip_sz h3 h3'⟩⟩)
        | (rw [zipU_tl] at o2
           obtain ⟨q, vs, rfl, h1, h2, h3⟩ := r1.tup
           obtain ⟨q', vs', rfl, h1', h2', h3'⟩ := r2.list
           exact ⟨false, true, q, q', vs, vs', rfl, SqT.mono a2.fine.sub h1, SqL.mono a2.fine.sub h1', a2.ok o2 ⟨itOk_zipK false true h1 h2 h1' h2', zip_sz h3 h3'⟩⟩)
end
end Eng

set_option Elab.async false
set_option linter.all false
set_option maxRecDepth 100000
set_option maxHeartbeats 1000000
/-! Targets; list comprehensions. -/
namespace Eng
open PySem PySem.Spec PyProof.Rows L2

def Off (vs : List Nat) (σ σ' : L2.St) : Prop := ∀ j, j ∉ vs → σ'[j]? = σ[j]?
section
variable {K : PySem.W.Frag} {H Hf : Hp} {ρ : List Addr} {ω : Nat → Addr} {σ : L2.St} {env : Env}
theorem Slots.setV (s : Slots K H Hf ρ ω σ env) {i : Nat} {v : V} {u : U} (hi : i < env.length) (r : RepU K Hf ρ v u) : Slots K H Hf ρ ω (σ.set i (some v)) (env.set i (.v u)) := by
  have hl : i < σ.length := by rw [s.len]; exact hi
  refine ⟨by rw [List.length_set, List.length_set]; exact s.len, fun j w e => ?_, fun j xs e => ?_, fun j k xs ys e e' => ?_⟩
  · rw [List.getElem?_set] at e ⊢
    by_cases hj : i = j
    · subst hj
      rw [if_pos rfl, if_pos hi] at e
      cases e
      rw [if_pos rfl, if_pos hl]
      exact ⟨v, rfl, r⟩
    · rw [if_neg hj] at e ⊢
      exact s.val j w e
  · rw [List.getElem?_set] at e ⊢
    by_cases hj : i = j
    · subst hj
      rw [if_pos rfl, if_pos hi] at e
      cases e
    · rw [if_neg hj] at e ⊢
      exact s.own j xs e
  · rw [List.getElem?_set] at e e'
    by_cases hj : i = j
    · subst hj; rw [if_pos rfl, if_pos hi] at e; cases e
    · by_cases hk : i = k
      · subst hk; rw [if_pos rfl, if_pos hi] at e'; cases e'
      · rw [if_neg hj] at e; rw [if_neg hk] at e'
        exact s.inj j k xs ys e e'
theorem Slots.setNo (s : Slots K H Hf ρ ω σ env) {i : Nat} {o : Option V} : Slots K H Hf ρ ω (σ.set i o) (env.set i .no) := by
  refine ⟨by rw [List.length_set, List.length_set]; exact s.len, fun j w e => ?_, fun j xs e => ?_, fun j k xs ys e e' => ?_⟩
  · rw [List.getElem?_set] at e ⊢
    by_cases hj : i = j
    · subst hj
      rw [if_pos rfl] at e
      split at e <;> cases e
    · rw [if_neg hj] at e ⊢
      exact s.val j w e
  · rw [List.getElem?_set] at e ⊢
    by_cases hj : i = j
    · subst hj
      rw [if_pos rfl] at e
      split at e <;> cases e
    · rw [if_neg hj] at e ⊢
      exact s.own j xs e
  · rw [List.getElem?_set] at e e'
    by_cases hj : i = j
    · subst hj; rw [if_pos rfl] at e; split at e <;> cases e
    · by_cases hk : i = k
      · subst hk; rw [if_pos rfl] at e'; split at e' <;> cases e'
      · rw [if_neg hj] at e; rw [if_neg hk] at e'
        exact s.inj j k xs ys e e'
theorem Slots.wipe (s : Slots K H Hf ρ ω σ env) : ∀ vs : List Nat, Slots K H Hf ρ ω (L2.wipe σ vs) (wipeE env vs)
  | [] => s
  | v :: vs => (s.wipe vs).setNo
theorem wipe_get (σ : L2.St) (i : Nat) : ∀ vs : List Nat, (L2.wipe σ vs)[i]? = if i ∈ vs then σ[i]?.map (fun _ => none) else σ[i]?
  | [] => by rw [if_neg (by simp)]; rfl
  | v :: vs => by
    unfold L2.wipe
    rw [List.getElem?_set, wipe_length, wipe_get σ i vs]
    by_cases h : v = i
    · subst h
      rw [if_pos rfl, if_pos (show v ∈ v :: vs by simp)]
      by_cases hl : v < σ.length
      · rw [if_pos hl, List.getElem?_eq_getElem hl]; rfl
      · rw [if_neg hl, List.getElem?_eq_none (by omega)]; rfl
    · rw [if_neg h]
      by_cases hi : i ∈ vs
      · rw [if_pos hi, if_pos (by simp [hi])]
      · rw [if_neg hi, if_neg (by simp [hi, Ne.symm h])]
theorem wipe_off {σ σ' : L2.St} {vs ws : List Nat} (h : Off ws σ σ') (hl : σ'.length = σ.length) (hs : ∀ i ∈ ws, i ∈ vs) : L2.wipe σ' vs = L2.wipe σ vs := by
  apply List.ext_getElem?
  intro i
  rw [wipe_get, wipe_get]
  by_cases hi : i ∈ vs
  · rw [if_pos hi, if_pos hi]
    by_cases hb : i < σ.length
    · rw [List.getElem?_eq_getElem hb, List.getElem?_eq_getElem (by omega)]; rfl
    · rw [List.getElem?_eq_none (by omega), List.getElem?_eq_none (by omega)]
  · rw [if_neg hi, if_neg hi]
    exact h i fun z => hi (hs i z)
theorem wipe_wipe (σ : L2.St) (vs : List Nat) : L2.wipe (L2.wipe σ vs) vs = L2.wipe σ vs := wipe_off (ws := vs) (fun j hj => by rw [wipe_get, if_neg hj]) (wipe_length _ _) fun _ h => h
end

def gT (K : PySem.W.Frag) (tg : Tg) : TG := fun v σ H Q => ∃ Hf ρ ω env m d env', At K H σ Hf ρ ω env m ∧ Dp K Hf v d ∧ szOk d = true ∧ asgTg tg d env = some env' ∧ ∀ σ', At K H σ' Hf ρ ω env' m → Off (slotsTg tg) σ σ' → Q σ' H
def gTs (K : PySem.W.Frag) (tgs : List Tg) : TGs := fun vs σ H Q => ∃ Hf ρ ω env m ds env', At K H σ Hf ρ ω env m ∧ DpAll K Hf vs ds ∧ szAll ds = true ∧ asgTgs tgs ds env = some env' ∧ ∀ σ', At K H σ' Hf ρ ω env' m → Off (slotsTgs tgs) σ σ' → Q σ' H
theorem okTgs_len {N : List Str} {c : Sc} : ∀ {ts : List Tg} {es : List Expr}, okTgs N c ts es = true → ts.length = es.length
  | [], [], _ => rfl
  | t :: ts, e :: es, h => by
    simp only [okTgs, Bool.and_eq_true] at h
    rw [List.length_cons, List.length_cons, okTgs_len h.2]
  | [], _ :: _, h => by simp [okTgs] at h
  | _ :: _, [], h => by simp [okTgs] at h
theorem asgTgs_len : ∀ {ts : List Tg} {ds : List PyData} {σ σ' : Env}, asgTgs ts ds σ = some σ' → ts.length = ds.length
  | [], [], _, _, _ => rfl
  | t :: ts, d :: ds, σ, σ', h => by
    simp only [asgTgs, Option.bind_eq_some_iff] at h
    obtain ⟨s, _, h⟩ := h
    rw [List.length_cons, List.length_cons, asgTgs_len h]
  | [], _ :: _, _, _, h => by simp [asgTgs] at h
  | _ :: _, [], _, _, h => by simp [asgTgs] at h
mutual
theorem asgTg_len : ∀ {t : Tg} {d : PyData} {σ σ' : Env}, asgTg t d σ = some σ' → σ'.length = σ.length
  | .nm i, d, σ, σ', h => by
    simp only [asgTg] at h
    split at h
    · cases h; rw [List.length_set]
    · cases h
  | .tp ts, d, σ, σ', h => by
    cases d <;> simp only [asgTg, reduceCtorEq] at h
    exact asgTgs_lenE h
theorem asgTgs_lenE : ∀ {ts : List Tg} {ds : List PyData} {σ σ' : Env}, asgTgs ts ds σ = some σ' → σ'.length = σ.length
  | [], [], _, _, h => by simp only [asgTgs, Option.some.injEq] at h; rw [h]
  | t :: ts, d :: ds, σ, σ', h => by
    simp only [asgTgs, Option.bind_eq_some_iff] at h
    obtain ⟨s, h1, h⟩ := h
    rw [asgTgs_lenE h, asgTg_len h1]
  | [], _ :: _, _, _, h => by simp [asgTgs] at h
  | _ :: _, [], _, _, h => by simp [asgTgs] at h
end
theorem plTg {N : List Str} {c : Sc} {t : Tg} {e : Expr} (h : okTg N c t e = true) : isTp e = true ∨ ∃ x p, e = .Name x p := by
  cases t <;> cases e <;> simp [okTg] at h
  · exact .inr ⟨_, _, rfl⟩
  · exact .inl rfl
theorem tgs_each {N : List Str} {c : Sc} {env : PySem.Env} : ∀ {ts : List Tg} {es : List Expr}, okTgs N c ts es = true → assignEach es env = es.map fun e => (false, assign e env)
  | [], [], _ => rfl
  | t :: ts, e :: es, h => by
    simp only [okTgs, Bool.and_eq_true] at h
    have := tgs_each (env := env) h.2
    rw [List.map_cons, ← this]
    rcases plTg h.1 with q | ⟨x, p, rfl⟩
    · cases e <;> simp [isTp] at q
      rfl
    · rfl
  | [], _ :: _, h => by simp [okTgs] at h
  | _ :: _, [], h => by simp [okTgs] at h
section
variable {G : Cfg} {N : List Str} {C : Calls} {XR : XRel} {X : Cx} {W : WX} {c : Sc}
mutual
theorem pg_T (g : GX G N C XR X W c) : ∀ {tg : Tg} {e : Expr}, okTg N c tg e = true → PG X e (gT X.K tg)
  | .nm i, e, h => by
    cases e <;> simp only [okTg, Bool.false_eq_true, Bool.and_eq_true, decide_eq_true_eq] at h
    rename_i x p
    obtain ⟨h1, h2⟩ := h
    have hl : Loc X.env.scope x ∧ (X.fn x = true ∨ X.env.scope.names.lookup x = some .local) := by
      unfold locB at h2
      simp only [Bool.or_eq_true, Bool.and_eq_true, decide_eq_true_eq] at h2
      rw [g.sc, g.fn]
      rcases h2 with h2 | ⟨h2, h3⟩
      · exact ⟨.inl h2, .inr h2⟩
      · exact ⟨.inr h2, .inl h3⟩
    refine PG.imp (pg_name (i := i) g.nd (by rw [g.hN]; exact h1) hl.1 hl.2) fun v σ H Q ⟨Hf, ρ, ω, env, m, d, env', a, hd, hz, he, q⟩ => ?_
    simp only [asgTg] at he
    split at he
    · rename_i hi
      cases he
      refine q _ ⟨a.fine, a.slots.setV hi ⟨hd, hz⟩⟩ fun j hj => ?_
      simp only [slotsTg, List.mem_singleton] at hj
      rw [List.getElem?_set_ne (Ne.symm hj)]
    · cases he
  | .tp ts, e, h => by
    cases e <;> simp only [okTg, Bool.false_eq_true] at h
    rename_i es k p
    have he := tgs_each (env := X.env) h
    refine PG.imp (pg_tup (n := es.length) g.calm (pgs_T g h) (by rw [he, List.length_map]) (by rw [he]; rw [List.findIdx?_eq_none_iff]; intro x hx; obtain ⟨y, _, rfl⟩ := List.mem_map.mp hx; rfl)) fun v σ H Q ⟨Hf, ρ, ω, env, m, d, env', a, hd, hz, he, q⟩ => ?_
    cases d <;> simp only [asgTg, reduceCtorEq] at he
    rename_i ds
    cases hd with
    | tup hs ha => exact ⟨_, _, rfl, SqT.mono a.fine.sub hs, by rw [ha.len, ← asgTgs_len he, okTgs_len h], Hf, ρ, ω, env, m, ds, env', a, ha, (sz_tuple.mp hz).2, he, q⟩
theorem pgs_T (g : GX G N C XR X W c) : ∀ {tgs : List Tg} {es : List Expr}, okTgs N c tgs es = true → PGs X es (gTs X.K tgs)
  | [], [], h => ⟨fun pins s σ H vs us Q I r ⟨Hf, ρ, ω, env, m, ds, env', a, ha, hz, he, q⟩ => by
      cases ds with
      | cons d ds => simp [asgTgs] at he
      | nil =>
        cases ha
        simp only [asgTgs, Option.some.injEq] at he
        subst he
        exact pgs_nil.run pins s σ H _ us Q I r ⟨rfl, q σ a fun _ _ => rfl⟩⟩
  | t :: ts, e :: es, h => by
    have hh := h
    simp only [okTgs, Bool.and_eq_true] at h
    have hea := tgs_each (env := X.env) hh
    have heb := tgs_each (env := X.env) h.2
    have key := pgs_cons (pg_T g h.1) (pgs_T g h.2) (by rw [hea, heb]; rfl)
    refine ⟨fun pins s σ H vs us Q I r ⟨Hf, ρ, ω, env, m, ds, env', a, ha, hz, he, q⟩ => key.run pins s σ H vs us Q I r ?_⟩
    cases ds with
    | nil => simp [asgTgs] at he
    | cons d ds =>
      cases ha with
      | cons h1 h2 =>
        simp only [asgTgs, Option.bind_eq_some_iff] at he
        obtain ⟨env1, e1, e2⟩ := he
        simp only [szAll, Bool.and_eq_true] at hz
        refine ⟨_, _, rfl, Hf, ρ, ω, env, m, d, env1, a, h1, hz.1, e1, fun σ1 a1 o1 => ⟨Hf, ρ, ω, env1, m, ds, env', a1, h2, hz.2, e2, fun σ2 a2 o2 => q σ2 a2 fun j hj => ?_⟩⟩
        simp only [slotsTgs, List.mem_append, not_or] at hj
        rw [o2 j hj.2, o1 j hj.1]
  | [], _ :: _, h => by simp [okTgs] at h
  | _ :: _, [], h => by simp [okTgs] at h
end
/-- a, b, .. = a list of that length -/
def gTL (K : PySem.W.Frag) (ts : List Tg) : TG := fun v σ H Q => ∃ Hf ρ ω env m ds env', At K H σ Hf ρ ω env m ∧ Dp K Hf v (.list ds) ∧ szOk (.list ds) = true ∧ asgTgs ts ds env = some env' ∧ ∀ σ', At K H σ' Hf ρ ω env' m → Off (slotsTgs ts) σ σ' → Q σ' H
theorem pg_TL (g : GX G N C XR X W c) {ts : List Tg} {es : List Expr} {k : Nat} {p : Pos} (h : okTgs N c ts es = true) : PG X (.Tuple es k p) (gTL X.K ts) := by
  have he := tgs_each (env := X.env) h
  refine PG.imp (pg_lst (n := es.length) g.calm (pgs_T g h) (by rw [he, List.length_map]) (by rw [he]; rw [List.findIdx?_eq_none_iff]; intro x hx; obtain ⟨y, _, rfl⟩ := List.mem_map.mp hx; rfl)) fun v σ H Q ⟨Hf, ρ, ω, env, m, ds, env', a, hd, hz, he, q⟩ => ?_
  cases hd with
  | lst hs ha => exact ⟨_, _, rfl, SqL.mono a.fine.sub hs, by rw [ha.len, ← asgTgs_len he, okTgs_len h], Hf, ρ, ω, env, m, ds, env', a, ha, (sz_list.mp hz).2, he, q⟩
def PG_or (t1 t2 : TG) : TG := fun v σ H Q => t1 v σ H Q ∨ t2 v σ H Q
theorem pg_or {e : Expr} {t1 t2 : TG} (h1 : PG X e t1) (h2 : PG X e t2) : PG X e (PG_or t1 t2) :=
  ⟨fun pins s σ H v u Q I r hw => hw.elim (fun w => h1.run pins s σ H v u Q I r w) fun w => h2.run pins s σ H v u Q I r w⟩
end

/-! ### a list comprehension -/
def WF : WX := fun _ _ _ _ => False
def tC (K : PySem.W.Frag) (XR : XRel) (o : Option (Env → Mem → R U)) : TT := match o with
  | none => tYes
  | some f => tT K XR WF f
def oQ (o : Option (Env → Mem → R U)) : Option (Env → Mem → R U) := o.map fun f σ m => (f σ m).quiet
theorem quiet_ok {α : Type} {r : R α} {a : α} {m : Mem} (h : r.quiet = .ok a m) : r = .ok a m := by
  cases r with
  | ok x y => exact h
  | exc _ _ _ => cases h
  | bad => cases h
theorem bind_ok' {α β : Type} {r : R α} {k : α → Mem → R β} {b : β} {m : Mem} (h : r.bind k = .ok b m) : ∃ a m1, r = .ok a m1 ∧ k a m1 = .ok b m := by
  cases r with
  | ok x y => exact ⟨x, y, rfl, h⟩
  | exc _ _ _ => cases h
  | bad => cases h
theorem asB_ok {u : U} {m m' : Mem} {b : Bool} (h : asB u m = .ok b m') : u = .dat (.bool b) ∧ m' = m := by
  cases u with
  | ref i => cases h
  | dat d => cases d <;> cases h; exact ⟨rfl, rfl⟩
theorem asD_ok {u : U} {m m' : Mem} {b : PyData} (h : asD u m = .ok b m') : u = .dat b ∧ m' = m := by
  cases u with
  | ref i => cases h
  | dat d => cases h; exact ⟨rfl, rfl⟩
theorem compGo_cons {elt : Env → Mem → R U} {cond : Option (Env → Mem → R U)} {tg : Tg} {σ : Env} {d : PyData} {ds : List PyData} {m mf : Mem} {xs : List PyData} (h : compGo elt cond tg σ (d :: ds) m = .ok xs mf) :
    ∃ σ' b m1, asgTg tg d σ = some σ' ∧ condGo cond σ' m = .ok b m1 ∧ (b = true → ∃ x m2 xs', elt σ' m1 = .ok (.dat x) m2 ∧ compGo elt cond tg σ ds m2 = .ok xs' mf ∧ xs = x :: xs') ∧ (b = false → compGo elt cond tg σ ds m1 = .ok xs mf) := by
  unfold compGo at h
  cases e : asgTg tg d σ with
  | none => rw [e] at h; cases h
  | some σ' =>
    rw [e] at h
    obtain ⟨b, m1, h1, h2⟩ := bind_ok' h
    refine ⟨σ', b, m1, rfl, h1, fun hb => ?_, fun hb => ?_⟩
    · subst hb
      rw [if_pos rfl] at h2
      obtain ⟨u, m2, h3, h4⟩ := bind_ok' h2
      obtain ⟨x, m3, h5, h6⟩ := bind_ok' h4
      obtain ⟨rfl, rfl⟩ := asD_ok h5
      obtain ⟨xs', m4, h7, h8⟩ := bind_ok' h6
      cases h8
      exact ⟨x, _, xs', h3, h7, rfl⟩
    · subst hb
      rw [if_neg (by simp)] at h2
      exact h2
/-- the list that grows -/
structure CIn (K : PySem.W.Frag) (H1 Hf1 : Hp) (ρ1 : List Addr) (D : Addr) (H Hf : Hp) (ρ : List Addr) (m : Mem) (acc : List PyData) : Prop where
  pres : Pres H1 Hf1 ρ1 H Hf ρ
  fine : Fine K H Hf ρ m
  at_ : ∃ vs, H D = some (.lst vs) ∧ DpAll K Hf vs acc
  fr : Hf D = none
  nt : D ∉ ρ
  sz : szAll acc = true
section
variable {K : PySem.W.Frag} {H1 Hf1 : Hp} {ρ1 : List Addr} {D : Addr} {H Hf : Hp} {ρ : List Addr} {m : Mem} {acc : List PyData}
theorem CIn.start {m1 : Mem} (f : Fine K H1 Hf1 ρ1 m1) (hD : H1 D = none) : CIn K H1 Hf1 ρ1 D (upd H1 D (.lst [])) Hf1 ρ1 m1 [] :=
  ⟨Pres.fresh hD, f.fresh hD, ⟨[], upd_same, .nil⟩, f.sub.none hD, (fun hm => by obtain ⟨o, e⟩ := f.tracked hm; rw [hD] at e; cases e), rfl⟩
theorem CIn.step (c : CIn K H1 Hf1 ρ1 D H Hf ρ m acc) {H' Hf' : Hp} {ρ' : List Addr} {m' : Mem} (p : Pres H Hf ρ H' Hf' ρ') (f : Fine K H' Hf' ρ' m') : CIn K H1 Hf1 ρ1 D H' Hf' ρ' m' acc := by
  obtain ⟨vs, e, ha⟩ := c.at_
  obtain ⟨q, q1, q2⟩ := p.kp _ _ e c.fr c.nt
  exact ⟨c.pres.trans p, f, ⟨vs, q, DpAll.mono p.fz _ _ ha⟩, q1, q2, c.sz⟩
theorem Fine.poke (f : Fine K H Hf ρ m) {p : Addr} {o : HO} (h1 : Hf p = none) (h2 : p ∉ ρ) : Fine K (upd H p o) Hf ρ m := by
  refine ⟨fun b x e => ?_, f.nd, f.un, f.len, fun i a ob e1 e2 => ?_⟩
  · have : b ≠ p := fun z => by subst z; rw [h1] at e; cases e
    rw [upd_ne this]; exact f.sub _ _ e
  · have : a ≠ p := fun z => h2 (by rw [← z]; exact List.mem_of_getElem? e1)
    have q := f.at_ i a ob e1 e2
    cases ob with
    | lst xs => obtain ⟨vs, e, ha, hz⟩ := q; exact ⟨vs, by rw [upd_ne this]; exact e, ha, hz⟩
    | dct xs => obtain ⟨vs, e, ha, hz⟩ := q; exact ⟨vs, by rw [upd_ne this]; exact e, ha, hz⟩
    | kd xs => obtain ⟨vs, e, ha, hz⟩ := q; exact ⟨vs, by rw [upd_ne this]; exact e, ha, hz⟩
    | refs xs => obtain ⟨vs, e, ha, hz⟩ := q; exact ⟨vs, by rw [upd_ne this]; exact e, ha, hz⟩
    | tab x => obtain ⟨k0, ps, k1, k2⟩ := q; exact ⟨k0, ps, by rw [upd_ne this]; exact k1, k2⟩
theorem CIn.push (c : CIn K H1 Hf1 ρ1 D H Hf ρ m acc) (hD : H1 D = none) {y : V} {x : PyData} (r : Dp K Hf y x) (hz : szOk x = true) : ∃ vs, H D = some (.lst vs) ∧ vs.length = acc.length ∧ CIn K H1 Hf1 ρ1 D (upd H D (.lst (vs ++ [y]))) Hf ρ m (acc ++ [x]) := by
  obtain ⟨vs, e, ha⟩ := c.at_
  refine ⟨vs, e, ha.len, ⟨c.pres.fz, c.pres.pre, fun a o h h1 h2 => ?_⟩, c.fine.poke c.fr c.nt, ⟨_, upd_same, ha.app (.cons r .nil)⟩, c.fr, c.nt, ?_⟩
  · obtain ⟨q, q1, q2⟩ := c.pres.kp a o h h1 h2
    have : a ≠ D := ne_of_none h hD
    exact ⟨by rw [upd_ne this]; exact q, q1, q2⟩
  · have := c.sz
    rw [szAll_iff] at this ⊢
    intro d hd
    rcases List.mem_append.mp hd with hd | hd
    · exact this d hd
    · simp only [List.mem_singleton] at hd; rw [hd]; exact hz
/-- a turn's value has come -/
theorem ItOk.turn {J : L2.It} {ds : List PyData} (hJ : ItOk K J Hf1 ds) (c : CIn K H1 Hf1 ρ1 D H Hf ρ m acc) {i : Nat} {d : PyData} (hd : ds[i]? = some d) :
    J.go i H ∧ ∀ x H', J.yld i H x H' → ∃ Hf', CIn K H1 Hf1 ρ1 D H' Hf' ρ m acc ∧ Dp K Hf' x d := by
  obtain ⟨h1, h2⟩ := (hJ H Hf c.pres.fz c.fine.sub i).1 d hd
  refine ⟨h1, fun x H' hy => ?_⟩
  obtain ⟨Hf2, s1, s2, s3, s4, s5⟩ := h2 x H' hy
  refine ⟨Hf2, c.step ⟨s1, ⟨[], by simp⟩, fun a o e e1 e2 => ⟨s2 _ _ e, s4 a (by rw [e]; simp) e1, e2⟩⟩ ⟨s3, c.fine.nd, fun a ha => ?_, c.fine.len, fun i a o e1 e2 => (c.fine.at_ i a o e1 e2).grow (fun x e => s2 _ _ e) s1⟩, s5⟩
  obtain ⟨o, e⟩ := c.fine.tracked ha
  exact s4 a (by rw [e]; simp) (c.fine.un a ha)
end
end Eng

set_option Elab.async false
set_option linter.all false
set_option maxRecDepth 100000
set_option maxHeartbeats 1000000
/-! List comprehensions: one loop, two loops. -/
namespace Eng
open PySem PySem.Spec PyProof.Rows L2

section
variable {K : PySem.W.Frag} {XR : XRel} {W : WX} {H Hf : Hp} {ρ : List Addr} {ω : Nat → Addr} {σ : L2.St} {env : Env} {m : Mem}
theorem tU_ok {f : Env → Mem → R U} {u : U} {m' : Mem} {P : VK} (a : At K H σ Hf ρ ω env m) (h : f env m = .ok u m') (k : ∀ v H' Hf' ρ', Pres H Hf ρ H' Hf' ρ' → Fine K H' Hf' ρ' m' → RepU K Hf' ρ' v u → P v H') : tU K XR W f σ H P :=
  ⟨Hf, ρ, ω, env, m, a, by rw [h]; exact k⟩
theorem tI_ok {f : Env → Mem → R (List PyData)} {u : List PyData} {m' : Mem} {P : L2.It → Hp → Prop} (a : At K H σ Hf ρ ω env m) (h : f env m = .ok u m') (k : ∀ v H' Hf' ρ', Pres H Hf ρ H' Hf' ρ' → Fine K H' Hf' ρ' m' → RI K H' Hf' ρ' v u → P v H') : tI K XR W f σ H P :=
  ⟨Hf, ρ, ω, env, m, a, by rw [h]; exact k⟩
theorem tC_ok {o : Option (Env → Mem → R U)} {b : Bool} {m' : Mem} {P : Bool → Hp → Prop} (a : At K H σ Hf ρ ω env m) (h : condGo (oQ o) env m = .ok b m') (k : ∀ H' Hf' ρ', Pres H Hf ρ H' Hf' ρ' → Fine K H' Hf' ρ' m' → P b H') : tC K XR o σ H P := by
  cases o with
  | none => cases h; exact k _ _ _ (Pres.refl _ _ _) a.fine
  | some f =>
    obtain ⟨u, m1, h1, h2⟩ := bind_ok' h
    obtain ⟨rfl, rfl⟩ := asB_ok h2
    refine ⟨Hf, ρ, ω, env, m, a, ?_⟩
    show OutE K XR WF σ H Hf ρ RBl ((f env m).bind asB) P
    rw [quiet_ok h1]
    show OutE K XR WF σ H Hf ρ RBl (.ok b m') P
    intro v H' Hf' ρ' p f' r
    cases r
    exact k _ _ _ p f'
theorem gT_ok {tg : Tg} {d : PyData} {env' : Env} {v : V} {P : L2.St → Hp → Prop} (a : At K H σ Hf ρ ω env m) (hd : Dp K Hf v d) (hz : szOk d = true) (he : asgTg tg d env = some env') (k : ∀ σ', At K H σ' Hf ρ ω env' m → Off (slotsTg tg) σ σ' → P σ' H) : gT K tg v σ H P :=
  ⟨Hf, ρ, ω, env, m, d, env', a, hd, hz, he, k⟩
end
theorem compGo_len {elt : Env → Mem → R U} {cond : Option (Env → Mem → R U)} {tg : Tg} {σ : Env} : ∀ {ds : List PyData} {m mf : Mem} {xs : List PyData}, compGo elt cond tg σ ds m = .ok xs mf → xs.length ≤ ds.length
  | [], m, mf, xs, h => by cases h; exact Nat.le_refl _
  | d :: ds, m, mf, xs, h => by
    obtain ⟨σ', b, m1, h1, h2, h3, h4⟩ := compGo_cons h
    cases b with
    | true =>
      obtain ⟨x, m2, xs', _, h5, rfl⟩ := h3 rfl
      have := compGo_len h5
      simp only [List.length_cons]; omega
    | false => have := compGo_len (h4 rfl); simp only [List.length_cons]; omega
theorem drop_cons {α : Type} {ds : List α} {i : Nat} (h : i < ds.length) : ds.drop i = ds[i] :: ds.drop (i + 1) := List.drop_eq_getElem_cons h
theorem wipe_At {K : PySem.W.Frag} {H Hf H' Hf' : Hp} {ρ ρ' : List Addr} {ω : Nat → Addr} {σ : L2.St} {env : Env} {m m' : Mem} (a : At K H σ Hf ρ ω env m) (p : Pres H Hf ρ H' Hf' ρ') (f : Fine K H' Hf' ρ' m') (vs : List Nat) : At K H' (L2.wipe σ vs) Hf' ρ' ω (wipeE env vs) m' := ⟨f, (a.slots.pres p).wipe vs⟩
theorem lc_imp {K : PySem.W.Frag} {XR : XRel} {W : WX} {fI : Env → Mem → R (List PyData)} {fe : Env → Mem → R U} {oc : Option (Env → Mem → R U)} {tg : Tg} {vs : List Nat} {σ : L2.St} {H : Hp} {Q : VK} (hs : ∀ i ∈ slotsTg tg, i ∈ vs)
    (h : tF K XR W (fun σ m => ((fI σ m).bind sizeU).bind fun ds m1 => (compGo (fun σ m => (fe σ m).quiet) (oQ oc) tg (wipeE σ vs) ds m1).quiet.bind fun xs m2 => .ok (.dat (.list xs)) m2) σ H Q) :
    tLc (tI K XR W fI) (gT K tg) (tC K XR oc) (tU K XR WF fe) vs σ H Q := by
  obtain ⟨Hf, ρ, ω, env, m, a, o⟩ := h
  dsimp only at o
  rw [R.bind_bind] at o
  refine ⟨Hf, ρ, ω, env, m, a, (OutE.bind (Rp' := RI K) o).mono fun J H1 ⟨ds, Hf1, ρ1, m1, p, f1, r, o1⟩ => ?_⟩
  obtain ⟨hJ, hz⟩ := r
  have a1 : At K H1 σ Hf1 ρ1 ω env m1 := a.pres p f1
  unfold sizeU at o1
  have hl : ds.length ≤ sizeLine := by
    by_cases hl : ds.length ≤ sizeLine
    · exact hl
    · rw [if_neg hl] at o1; exact (o1 : False).elim
  rw [if_pos hl, R.bind_ok] at o1
  obtain ⟨xs, mf, hc⟩ : ∃ xs mf, compGo (fun σ m => (fe σ m).quiet) (oQ oc) tg (wipeE env vs) ds m1 = .ok xs mf := by
    cases hc : compGo (fun σ m => (fe σ m).quiet) (oQ oc) tg (wipeE env vs) ds m1 with
    | bad => rw [hc] at o1; exact (o1 : False).elim
    | exc => rw [hc] at o1; exact (o1 : False).elim
    | ok xs mf => exact ⟨xs, mf, rfl⟩
  rw [hc, R.quiet_ok, R.bind_ok] at o1
  have hxl := compGo_len hc
  have hlen : ∀ {acc xs' : List PyData}, acc ++ xs' = xs → acc.length + xs'.length = xs.length := fun e => by rw [← e, List.length_append]
  intro D hD
  refine ⟨fun i k H' => ∃ Hf' ρ' m' acc xs', i ≤ ds.length ∧ k = ds.length - i ∧ CIn K H1 Hf1 ρ1 D H' Hf' ρ' m' acc ∧ compGo (fun σ m => (fe σ m).quiet) (oQ oc) tg (wipeE env vs) (ds.drop i) m' = .ok xs' mf ∧ acc ++ xs' = xs,
    ⟨_, Hf1, ρ1, m1, [], xs, Nat.zero_le _, rfl, CIn.start f1 hD, hc, rfl⟩, fun i k H' ⟨Hf', ρ', m', acc, xs', hi, hk, c, hg, hx⟩ => ?_⟩
  by_cases he : i = ds.length
  · subst he
    rw [List.drop_length] at hg
    cases hg
    rw [List.append_nil] at hx
    subst hx
    refine .inl ⟨(hJ H' Hf' c.pres.fz c.fine.sub _).2 rfl, ?_⟩
    obtain ⟨vs', e, ha⟩ := c.at_
    exact o1 _ H' Hf' ρ' c.pres c.fine ⟨D, vs', _, rfl, rfl, Pres.none p a.fine f1 hD, e, c.fr, c.nt, ha, sz_list.mpr ⟨by omega, c.sz⟩⟩
  · have hlt : i < ds.length := by omega
    rw [drop_cons hlt] at hg
    obtain ⟨env', b, m2, g1, g2, g3, g4⟩ := compGo_cons hg
    obtain ⟨hgo, hy⟩ := hJ.turn c (List.getElem?_eq_getElem hlt)
    have hzd : szOk ds[i] = true := szAll_iff.mp hz _ (List.getElem_mem hlt)
    refine .inr ⟨hgo, fun H' => ∃ Hf' ρ' m' acc xs', CIn K H1 Hf1 ρ1 D H' Hf' ρ' m' acc ∧ compGo (fun σ m => (fe σ m).quiet) (oQ oc) tg (wipeE env vs) (ds.drop (i + 1)) m' = .ok xs' mf ∧ acc ++ xs' = xs, fun H' ⟨Hf', ρ', m', acc, xs', c, q1, q2⟩ => ⟨_, (by omega : ds.length - (i + 1) < k), Hf', ρ', m', acc, xs', hlt, rfl, c, q1, q2⟩, fun x H2 hyl => ?_⟩
    obtain ⟨Hf2, c2, hdp⟩ := hy x H2 hyl
    have at2 := wipe_At a1 c2.pres c2.fine vs
    refine gT_ok at2 hdp hzd g1 fun σ2 a2 off => ⟨?_, ?_⟩
    · rw [wipe_off off (by rw [a2.slots.len, at2.slots.len]; exact asgTg_len g1) hs, wipe_wipe]
    refine tC_ok a2 g2 fun H3 Hf3 ρ3 p3 f3 => ?_
    have c3 := c2.step p3 f3
    cases b with
    | false => exact ⟨Hf3, ρ3, m2, acc, xs', c3, g4 rfl, hx⟩
    | true =>
      obtain ⟨xv, m4, xs2, g5, g6, g7⟩ := g3 rfl
      refine tU_ok (a2.pres p3 f3) (quiet_ok g5) fun y H4 Hf4 ρ4 p4 f4 r4 => ?_
      obtain ⟨vs', e, el, c4⟩ := (c3.step p4 f4).push hD r4.1 r4.2
      have := hlen hx
      rw [g7, List.length_cons] at this
      exact ⟨vs', e, by omega, Hf4, ρ4, m4, acc ++ [xv], xs2, c4, g6, by rw [← hx, g7, List.append_assoc]; rfl⟩
end Eng

set_option Elab.async false
set_option linter.all false
set_option maxRecDepth 100000
set_option maxHeartbeats 1000000
/-! List comprehensions: two loops. -/
namespace Eng
open PySem PySem.Spec PyProof.Rows L2

theorem set_own {σ : Env} {i j : Nat} {s : Sl} (hs : ∀ xs, s ≠ .own xs) {xs : List PyData} (h : (σ.set i s)[j]? = some (.own xs)) : σ[j]? = some (.own xs) := by
  rw [List.getElem?_set] at h
  by_cases hj : i = j
  · subst hj
    rw [if_pos rfl] at h
    split at h
    · cases h; exact absurd rfl (hs xs)
    · cases h
  · rw [if_neg hj] at h; exact h
mutual
theorem asgTg_own : ∀ {t : Tg} {d : PyData} {σ σ' : Env} {j : Nat} {xs : List PyData}, asgTg t d σ = some σ' → σ'[j]? = some (.own xs) → σ[j]? = some (.own xs)
  | .nm i, d, σ, σ', j, xs, h, h' => by
    simp only [asgTg] at h
    split at h
    · cases h; exact set_own (fun _ e => by cases e) h'
    · cases h
  | .tp ts, d, σ, σ', j, xs, h, h' => by
    cases d <;> simp only [asgTg, reduceCtorEq] at h
    exact asgTgs_own h h'
theorem asgTgs_own : ∀ {ts : List Tg} {ds : List PyData} {σ σ' : Env} {j : Nat} {xs : List PyData}, asgTgs ts ds σ = some σ' → σ'[j]? = some (.own xs) → σ[j]? = some (.own xs)
  | [], [], _, _, _, _, h, h' => by simp only [asgTgs, Option.some.injEq] at h; rw [h]; exact h'
  | t :: ts, d :: ds, σ, σ', j, xs, h, h' => by
    simp only [asgTgs, Option.bind_eq_some_iff] at h
    obtain ⟨s, h1, h⟩ := h
    exact asgTg_own h1 (asgTgs_own h h')
  | [], _ :: _, _, _, _, _, h, _ => by simp [asgTgs] at h
  | _ :: _, [], _, _, _, _, h, _ => by simp [asgTgs] at h
end
theorem wipeE_own {σ : Env} {j : Nat} {xs : List PyData} : ∀ {vs : List Nat}, (wipeE σ vs)[j]? = some (.own xs) → σ[j]? = some (.own xs)
  | [], h => h
  | v :: vs, h => wipeE_own (vs := vs) (set_own (fun _ e => by cases e) h)
theorem Slots.poke {K : PySem.W.Frag} {H Hf : Hp} {ρ : List Addr} {ω : Nat → Addr} {σ : L2.St} {env : Env} (s : Slots K H Hf ρ ω σ env) {p : Addr} {o : HO} (h : ∀ i xs, env[i]? = some (.own xs) → ω i ≠ p) : Slots K (upd H p o) Hf ρ ω σ env := by
  refine ⟨s.len, s.val, fun i xs e => ?_, s.inj⟩
  obtain ⟨h1, h2, h3, ⟨vs, h4, h5⟩, h6⟩ := s.own i xs e
  exact ⟨h1, h2, h3, ⟨vs, by rw [upd_ne (h i xs e)]; exact h4, h5⟩, h6⟩
theorem ItOk.mono {K : PySem.W.Frag} {J : L2.It} {Hf Hf' : Hp} {ds : List PyData} (h : ItOk K J Hf ds) (s : Sub Hf Hf') : ItOk K J Hf' ds := fun H1 Hf1 s1 s2 i => h H1 Hf1 (s.trans s1) s2 i
theorem Pres.turn {K : PySem.W.Frag} {H Hf : Hp} {ρ : List Addr} {m : Mem} {J : L2.It} {ds : List PyData} (hJ : ItOk K J Hf ds) (f : Fine K H Hf ρ m) {i : Nat} {d : PyData} (hd : ds[i]? = some d) :
    J.go i H ∧ ∀ x H', J.yld i H x H' → ∃ Hf', Pres H Hf ρ H' Hf' ρ ∧ Fine K H' Hf' ρ m ∧ Dp K Hf' x d := by
  obtain ⟨h1, h2⟩ := (hJ H Hf (Sub.refl _) f.sub i).1 d hd
  refine ⟨h1, fun x H' hy => ?_⟩
  obtain ⟨Hf2, s1, s2, s3, s4, s5⟩ := h2 x H' hy
  refine ⟨Hf2, ⟨s1, ⟨[], by simp⟩, fun a o e e1 e2 => ⟨s2 _ _ e, s4 a (by rw [e]; simp) e1, e2⟩⟩, ⟨s3, f.nd, fun a ha => ?_, f.len, fun i a o e1 e2 => (f.at_ i a o e1 e2).grow (fun x e => s2 _ _ e) s1⟩, s5⟩
  obtain ⟨o, e⟩ := f.tracked ha
  exact s4 a (by rw [e]; simp) (f.un a ha)
theorem comp2Go_cons {elt : Env → Mem → R U} {cond : Option (Env → Mem → R U)} {tg tg' : Tg} {it : Env → Mem → R (List PyData)} {σ : Env} {d : PyData} {ds : List PyData} {m mf : Mem} {xs : List PyData} (h : comp2Go elt cond tg it tg' σ (d :: ds) m = .ok xs mf) :
    ∃ σ' es m1 ys m2 zs, asgTg tg d σ = some σ' ∧ it σ' m = .ok es m1 ∧ compGo elt cond tg' (wipeE σ' (slotsTg tg')) es m1 = .ok ys m2 ∧ comp2Go elt cond tg it tg' σ ds m2 = .ok zs mf ∧ xs = ys ++ zs := by
  unfold comp2Go at h
  cases e : asgTg tg d σ with
  | none => rw [e] at h; cases h
  | some σ' =>
    rw [e] at h
    obtain ⟨es, m1, h1, h2⟩ := bind_ok' h
    obtain ⟨ys, m2, h3, h4⟩ := bind_ok' h2
    obtain ⟨zs, m3, h5, h6⟩ := bind_ok' h4
    cases h6
    exact ⟨σ', es, m1, ys, m2, zs, rfl, h1, h3, h5, rfl⟩
theorem lc2_imp {K : PySem.W.Frag} {XR : XRel} {W : WX} {fI fI2 : Env → Mem → R (List PyData)} {fe : Env → Mem → R U} {oc : Option (Env → Mem → R U)} {tg tg' : Tg} {vs : List Nat} {σ : L2.St} {H : Hp} {Q : VK} (hs : ∀ i ∈ slotsTg tg, i ∈ vs)
    (h : tF K XR W (fun σ m => ((fI σ m).bind sizeU).bind fun ds m1 => ((comp2Go (fun σ m => (fe σ m).quiet) (oQ oc) tg (fun σ m => (fI2 σ m).quiet) tg' (wipeE σ vs) ds m1).quiet.bind sizeU).bind fun xs m2 => .ok (.dat (.list xs)) m2) σ H Q) :
    tLc2 (tI K XR W fI) (gT K tg) tYes (tI K XR WF fI2) (gT K tg') (tC K XR oc) (tU K XR WF fe) vs (slotsTg tg') σ H Q := by
  obtain ⟨Hf, ρ, ω, env, m, a, o⟩ := h
  dsimp only at o
  rw [R.bind_bind] at o
  refine ⟨Hf, ρ, ω, env, m, a, (OutE.bind (Rp' := RI K) o).mono fun J H1 ⟨ds, Hf1, ρ1, m1, p, f1, r, o1⟩ => ?_⟩
  obtain ⟨hJ, hz⟩ := r
  have a1 : At K H1 σ Hf1 ρ1 ω env m1 := a.pres p f1
  unfold sizeU at o1
  have hl : ds.length ≤ sizeLine := by
    by_cases hl : ds.length ≤ sizeLine
    · exact hl
    · rw [if_neg hl] at o1; exact (o1 : False).elim
  rw [if_pos hl, R.bind_ok] at o1
  obtain ⟨xs, mf, hc⟩ : ∃ xs mf, comp2Go (fun σ m => (fe σ m).quiet) (oQ oc) tg (fun σ m => (fI2 σ m).quiet) tg' (wipeE env vs) ds m1 = .ok xs mf := by
    cases hc : comp2Go (fun σ m => (fe σ m).quiet) (oQ oc) tg (fun σ m => (fI2 σ m).quiet) tg' (wipeE env vs) ds m1 with
    | bad => rw [hc] at o1; exact (o1 : False).elim
    | exc => rw [hc] at o1; exact (o1 : False).elim
    | ok xs mf => exact ⟨xs, mf, rfl⟩
  rw [hc, R.quiet_ok, R.bind_ok] at o1
  have hxl : xs.length ≤ sizeLine := by
    by_cases hl : xs.length ≤ sizeLine
    · exact hl
    · rw [if_neg hl] at o1; exact (o1 : False).elim
  rw [if_pos hxl, R.bind_ok] at o1
  intro D hD
  refine ⟨fun i k H' => ∃ Hf' ρ' m' acc xs', i ≤ ds.length ∧ k = ds.length - i ∧ CIn K H1 Hf1 ρ1 D H' Hf' ρ' m' acc ∧ comp2Go (fun σ m => (fe σ m).quiet) (oQ oc) tg (fun σ m => (fI2 σ m).quiet) tg' (wipeE env vs) (ds.drop i) m' = .ok xs' mf ∧ acc ++ xs' = xs,
    ⟨_, Hf1, ρ1, m1, [], xs, Nat.zero_le _, rfl, CIn.start f1 hD, hc, rfl⟩, fun i k H' ⟨Hf', ρ', m', acc, xs', hi, hk, c, hg, hx⟩ => ?_⟩
  by_cases he : i = ds.length
  · subst he
    rw [List.drop_length] at hg
    cases hg
    rw [List.append_nil] at hx
    subst hx
    refine .inl ⟨(hJ H' Hf' c.pres.fz c.fine.sub _).2 rfl, ?_⟩
    obtain ⟨vs', e, ha⟩ := c.at_
    exact o1 _ H' Hf' ρ' c.pres c.fine ⟨D, vs', _, rfl, rfl, Pres.none p a.fine f1 hD, e, c.fr, c.nt, ha, sz_list.mpr ⟨hxl, c.sz⟩⟩
  · have hlt : i < ds.length := by omega
    rw [drop_cons hlt] at hg
    obtain ⟨env', es, m2, ys, m3, zs, g1, g2, g3, g4, g5⟩ := comp2Go_cons hg
    obtain ⟨hgo, hy⟩ := Pres.turn (hJ.mono c.pres.fz) c.fine (List.getElem?_eq_getElem hlt)
    have hzd : szOk ds[i] = true := szAll_iff.mp hz _ (List.getElem_mem hlt)
    refine .inr ⟨hgo, fun H' => ∃ Hf' ρ' m' acc xs', CIn K H1 Hf1 ρ1 D H' Hf' ρ' m' acc ∧ comp2Go (fun σ m => (fe σ m).quiet) (oQ oc) tg (fun σ m => (fI2 σ m).quiet) tg' (wipeE env vs) (ds.drop (i + 1)) m' = .ok xs' mf ∧ acc ++ xs' = xs, fun H' ⟨Hf', ρ', m', acc, xs', c, q1, q2⟩ => ⟨_, (by omega : ds.length - (i + 1) < k), Hf', ρ', m', acc, xs', hlt, rfl, c, q1, q2⟩, fun x H2 hyl => ?_⟩
    obtain ⟨Hf2, p2, f2, hdp⟩ := hy x H2 hyl
    have c2 := c.step p2 f2
    have at2 := wipe_At a1 c2.pres c2.fine vs
    refine gT_ok at2 hdp hzd g1 fun σ2 a2 off => ⟨?_, ?_⟩
    · rw [wipe_off off (by rw [a2.slots.len, at2.slots.len]; exact asgTg_len g1) hs, wipe_wipe]
    show tI K XR WF fI2 σ2 H2 _
    refine tI_ok a2 (quiet_ok g2) fun J1 H4 Hf4 ρ4 p4 f4 r4 => ?_
    obtain ⟨hJ1, hz1⟩ := r4
    have c4 := c2.step p4 f4
    have hω : ∀ i xs, env'[i]? = some (.own xs) → ω i ≠ D := fun i xs e => by
      obtain ⟨_, _, _, ⟨vs', e2, _⟩, _⟩ := a1.slots.own i xs (wipeE_own (asgTg_own g1 e))
      exact ne_of_none e2 hD
    refine ⟨fun j k H' => ∃ Hf' ρ' m' acc' ys', j ≤ es.length ∧ k = es.length - j ∧ CIn K H1 Hf1 ρ1 D H' Hf' ρ' m' acc' ∧ compGo (fun σ m => (fe σ m).quiet) (oQ oc) tg' (wipeE env' (slotsTg tg')) (es.drop j) m' = .ok ys' m3 ∧ acc' ++ ys' ++ zs = xs ∧ Sub Hf4 Hf' ∧ Slots K H' Hf' ρ' ω σ2 env',
      ⟨_, Hf4, ρ4, m2, acc, ys, Nat.zero_le _, rfl, c4, g3, by rw [List.append_assoc, ← g5]; exact hx, Sub.refl _, a2.slots.pres p4⟩, fun j k1 H5 ⟨Hf5, ρ5, m5, acc5, ys5, hj, hk1, c5, hg5, hx5, s5, sl5⟩ => ?_⟩
    by_cases hje : j = es.length
    · subst hje
      rw [List.drop_length] at hg5
      cases hg5
      rw [List.append_nil] at hx5
      exact .inl ⟨(hJ1 H5 Hf5 s5 c5.fine.sub _).2 rfl, Hf5, ρ5, _, _, zs, c5, g4, hx5⟩
    · have hjt : j < es.length := by omega
      rw [drop_cons hjt] at hg5
      obtain ⟨env6, b, m6, q1, q2, q3, q4⟩ := compGo_cons hg5
      obtain ⟨hgo1, hy1⟩ := Pres.turn (hJ1.mono s5) c5.fine (List.getElem?_eq_getElem hjt)
      have hzd1 : szOk es[j] = true := szAll_iff.mp hz1 _ (List.getElem_mem hjt)
      refine .inr ⟨hgo1, fun H' => ∃ Hf' ρ' m' acc' ys', CIn K H1 Hf1 ρ1 D H' Hf' ρ' m' acc' ∧ compGo (fun σ m => (fe σ m).quiet) (oQ oc) tg' (wipeE env' (slotsTg tg')) (es.drop (j + 1)) m' = .ok ys' m3 ∧ acc' ++ ys' ++ zs = xs ∧ Sub Hf4 Hf' ∧ Slots K H' Hf' ρ' ω σ2 env',
        fun H' ⟨Hf', ρ', m', acc, xs', c, q1, q2, q3, q4⟩ => ⟨_, (by omega : es.length - (j + 1) < k1), Hf', ρ', m', acc, xs', hjt, rfl, c, q1, q2, q3, q4⟩, fun x6 H6 hyl6 => ?_⟩
      obtain ⟨Hf6, p6, f6, hdp6⟩ := hy1 x6 H6 hyl6
      have c6 := c5.step p6 f6
      have at6 := wipe_At ⟨c5.fine, sl5⟩ p6 f6 (slotsTg tg')
      refine gT_ok at6 hdp6 hzd1 q1 fun σ7 a7 off7 => ⟨?_, ?_⟩
      · rw [wipe_off off7 (by rw [a7.slots.len, at6.slots.len]; exact asgTg_len q1) (fun _ h => h), wipe_wipe]
      refine tC_ok a7 q2 fun H8 Hf8 ρ8 p8 f8 => ?_
      have c8 := c6.step p8 f8
      have sl8 := (sl5.pres p6).pres p8
      cases b with
      | false => exact ⟨Hf8, ρ8, m6, acc5, ys5, c8, q4 rfl, hx5, s5.trans (p6.fz.trans p8.fz), sl8⟩
      | true =>
        obtain ⟨xv, m9, ys9, q5, q6, q7⟩ := q3 rfl
        refine tU_ok (a7.pres p8 f8) (quiet_ok q5) fun y H9 Hf9 ρ9 p9 f9 r9 => ?_
        obtain ⟨vs', e, el, c9⟩ := (c8.step p9 f9).push hD r9.1 r9.2
        have := congrArg List.length hx5
        rw [q7, List.length_append, List.length_append, List.length_cons] at this
        exact ⟨vs', e, by omega, Hf9, ρ9, m9, acc5 ++ [xv], ys9, c9, q6, by rw [← hx5, q7, List.append_assoc acc5]; rfl, s5.trans (p6.fz.trans (p8.fz.trans p9.fz)), (sl8.pres p9).poke hω⟩
end Eng

set_option Elab.async false
set_option linter.all false
set_option maxRecDepth 100000
set_option maxHeartbeats 4000000
/-! Expressions: a checked text reads as the evaluator says. -/
namespace Eng
open PySem PySem.Spec PyProof.Rows L2
section
variable {G : Cfg} {N : List Str} {C : Calls} {XR : XRel} {X : Cx} {W : WX} {c : Sc} {e e' l r s : Expr} {es : List Expr} {pos : Pos} {f fa fb fc : Env → Mem → R U}
theorem rt_ite {t : Expr} (ht : PT X t (tT X.K XR W f)) (ha : PT X l (tT X.K XR W fa)) (hb : PT X r (tT X.K XR W fb)) : PT X (.IfExp t l r pos) (tT X.K XR W fun σ m => ((f σ m).bind asB).bind fun c m1 => if c = true then fa σ m1 else fb σ m1) := by
  refine ⟨fun pins s σ H Q I ⟨Hf, ρ, ω, env, m, a, o⟩ => ?_⟩
  dsimp only at o
  rw [R.bind_bind] at o
  show wpAny (model X.prog X.w) X.A (do if ← isTrue t X.env (eval t X.env) then isTrue l X.env (eval l X.env) else isTrue r X.env (eval r X.env)) (TP X pins σ Q) X.xe s
  refine wpAny_bind (wpAny_mono (ht.run pins s σ H _ I (a.bind (f := fun σ m => (f σ m).bind asB) (Rp' := RBl) o)) (fun b s1 ⟨H1, I1, u, Hf1, ρ1, m1, p, a1, r1, o1⟩ => ?_) fun _ _ z => z)
  cases r1
  cases b with
  | true => exact ha.run pins s1 σ H1 Q I1 ⟨_, _, _, _, _, a1, o1⟩
  | false => exact hb.run pins s1 σ H1 Q I1 ⟨_, _, _, _, _, a1, o1⟩
theorem pw_any {o : BoolOp} {t : TT} (h : PT X (.BoolOp o es pos) t) : PW X (.BoolOp o es pos) t := ⟨fun wh pins s σ H Q I q => h.run pins s σ H Q I q⟩
abbrev Both (X : Cx) (XR : XRel) (W : WX) (s : Expr) (f : Env → Mem → R U) : Prop := PE X s (tU X.K XR W f) ∧ PT X s (tT X.K XR W f)
theorem both (h : PE X s (tU X.K XR W f)) (he : ∀ whole, isTrue s X.env whole = (do let v ← whole; standAt s.pos; holding [v] (truthy v))) : Both X XR W s f := ⟨h, pt_of h he⟩
theorem pe_never {t : TE} (h : ∀ σ H Q, ¬ t σ H Q) : PE X s t := ⟨fun pins s σ H Q I q => (h _ _ _ q).elim⟩
theorem bad_never (h : ∀ σ m, f σ m = .bad) : ∀ σ H Q, ¬ tU X.K XR W f σ H Q := fun σ H Q ⟨Hf, ρ, ω, env, m, a, o⟩ => by rw [h] at o; exact o
/-- where an object is only read -/
theorem sndB (g : GX G N C XR X W c) {a : E} (h : okE G N a c s = true) (hE : PE X s (tU X.K XR W (evE C a))) : PE X s (tB X.K XR W (bA a (evE C a))) := by
  cases a
  case bv i =>
    simp only [okE] at h
    split at h
    · simp only [Bool.and_eq_true, decide_eq_true_eq] at h
      exact pe_nameB g h.1 h.2 _ fun _ _ => rfl
    · cases h
  all_goals exact PE.bor hE
theorem pt_bad {t : TT} (h : ∀ σ H Q, ¬ t σ H Q) : PT X s t := ⟨fun pins s σ H Q I q => (h _ _ _ q).elim⟩
theorem plAll {es : Es} {xs : List Expr} (h : okEs G N es c xs = true) : xs.all pl = true := by
  induction xs generalizing es with
  | nil => rfl
  | cons x xs ih =>
    cases es with
    | nil => simp [okEs] at h
    | cons e es =>
      simp only [okEs, Bool.and_eq_true] at h
      rw [List.all_cons, h.1.2, ih h.2]; rfl
theorem kws_some : ∀ {kws : List Keyword}, kws.all (·.arg.isSome) = true → kws.map (·.arg) = (kws.filterMap (·.arg)).map some
  | [], _ => rfl
  | ⟨none, _, _⟩ :: kws, h => by simp at h
  | ⟨some a, _, _⟩ :: kws, h => by
    rw [List.all_cons, Bool.and_eq_true] at h
    show some a :: kws.map (·.arg) = (a :: kws.filterMap (·.arg)).map some
    rw [List.map_cons, kws_some h.2]
theorem evEs_len' {es : Es} {xs : List Expr} (h : okEs G N es c xs = true) {σ : Env} {m m' : Mem} {us : List U} (hu : evEs C es σ m = .ok us m') : us.length = xs.length := by
  rw [evEs_len es hu, okEs_len es h]
theorem condOk {cond : E} {ifs : List Expr} (hb : match ifs with | [] => isNo cond = true | [k] => isNo cond = false ∧ PT X k (tT X.K XR WF (evE C cond)) | _ => False) : PTs X ifs (tC X.K XR (if isNo cond = true then none else some (evE C cond))) := by
  cases ifs with
  | nil => simp only at hb; rw [if_pos hb]; exact pts_nil
  | cons k ks =>
    cases ks with
    | nil => simp only at hb; rw [if_neg (by rw [hb.1]; simp)]; exact pts_one hb.2
    | cons _ _ => exact hb.elim
theorem cA_oQ (cond : E) (f : Env → Mem → R U) : cA cond f = oQ (if isNo cond = true then none else some f) := by
  cases cond <;> rfl
theorem rl_comp (g : GX G N C XR X W c) {t i : Expr} {ifs : List Expr} {scope : Scope} {own : List (Str × Nat)} {tg : Tg} {cond elt : E} {fI : Env → Mem → R (List PyData)} (hI : PI X t i (tI X.K XR W fI)) (ok : blkC N c.sc scope own = true) (hp : pl i = true) (ht : okTg N (c.blk scope) tg t = true)
    (hs : (slotsTg tg).all (fun j => (own.map (·.2)).contains j) = true) (he : ∀ X', GX G N C XR X' WF (c.blk scope) → X'.K = X.K → PE X' e (tU X.K XR WF (evE C elt)))
    (hc : ∀ X', GX G N C XR X' WF (c.blk scope) → X'.K = X.K → PTs X' ifs (tC X.K XR (if isNo cond = true then none else some (evE C cond)))) :
    PE X (.ListComp e [⟨t, i, ifs, 0⟩] scope pos) (tF X.K XR W fun σ m => ((fI σ m).bind sizeU).bind fun ds m1 =>
      (compGo (fun σ m => (evE C elt σ m).quiet) (cA cond (evE C cond)) tg (wipeE σ (own.map (·.2))) ds m1).quiet.bind fun xs m2 => .ok (.dat (.list xs)) m2) := by
  rw [cA_oQ]
  have hs' : ∀ i ∈ slotsTg tg, i ∈ own.map (·.2) := fun i hi => by
    have := List.all_eq_true.mp hs i hi
    simpa using this
  refine PE.imp (pe_lc (own := own) g.calm g.nd hI (blkOk_by (by rw [g.hN, g.sc]; exact ok)) (fun s H D cl fp => ?_) (fun s H D cl fp => hc _ (g.blk s H scope cl D fp) rfl) (fun s H D cl fp => he _ (g.blk s H scope cl D fp) rfl) (folded_pl hp)) fun σ H Q h => lc_imp hs' h
  exact pg_T (g.blk s H scope cl D fp) ht
theorem rl_comp2 (g : GX G N C XR X W c) {t i t' i' : Expr} {ifs : List Expr} {scope : Scope} {own : List (Str × Nat)} {tg tg' : Tg} {cond elt : E} {fI fI2 : Env → Mem → R (List PyData)} (hI : PI X t i (tI X.K XR W fI)) (ok : blkC N c.sc scope own = true) (hp : pl i = true) (ht : okTg N (c.blk scope) tg t = true)
    (hs : (slotsTg tg).all (fun j => (own.map (·.2)).contains j) = true) (hI' : ∀ X', GX G N C XR X' WF (c.blk scope) → X'.K = X.K → PI X' t' i' (tI X.K XR WF fI2)) (hp' : pl i' = true) (ht' : okTg N (c.blk scope) tg' t' = true) (hs2 : (slotsTg tg').all (fun j => (own.map (·.2)).contains j) = true)
    (he : ∀ X', GX G N C XR X' WF (c.blk scope) → X'.K = X.K → PE X' e (tU X.K XR WF (evE C elt)))
    (hc : ∀ X', GX G N C XR X' WF (c.blk scope) → X'.K = X.K → PTs X' ifs (tC X.K XR (if isNo cond = true then none else some (evE C cond)))) :
    PE X (.ListComp e [⟨t, i, [], 0⟩, ⟨t', i', ifs, 0⟩] scope pos) (tF X.K XR W fun σ m => ((fI σ m).bind sizeU).bind fun ds m1 =>
      ((comp2Go (fun σ m => (evE C elt σ m).quiet) (cA cond (evE C cond)) tg (fun σ m => (fI2 σ m).quiet) tg' (wipeE σ (own.map (·.2))) ds m1).quiet.bind sizeU).bind fun xs m2 => .ok (.dat (.list xs)) m2) := by
  rw [cA_oQ]
  have hs' : ∀ i ∈ slotsTg tg, i ∈ own.map (·.2) := fun i hi => by
    have := List.all_eq_true.mp hs i hi
    simpa using this
  have hs2' : ∀ i ∈ slotsTg tg', i ∈ own.map (·.2) := fun i hi => by
    have := List.all_eq_true.mp hs2 i hi
    simpa using this
  refine PE.imp (pe_lc2 (own := own) (vs1 := slotsTg tg') g.calm g.nd hI (blkOk_by (by rw [g.hN, g.sc]; exact ok)) hs2' (fun s H D cl fp => ?_) (fun s H D cl fp => pts_nil) (fun s H D cl fp => hI' _ (g.blk s H scope cl D fp) rfl) (fun s H D cl fp => ?_) (fun s H D cl fp => hc _ (g.blk s H scope cl D fp) rfl) (fun s H D cl fp => he _ (g.blk s H scope cl D fp) rfl) (folded_pl hp) (fun env => folded_pl hp')) fun σ H Q h => lc2_imp hs' h
  · exact pg_T (g.blk s H scope cl D fp) ht
  · exact pg_T (g.blk s H scope cl D fp) ht'
end
end Eng

set_option Elab.async false
set_option linter.all false
set_option maxRecDepth 100000
set_option maxHeartbeats 2000000
/-! sorted({elt for target in it if ..}), the elements whole numbers, or tuples of them. -/
namespace Eng
open PySem PySem.Spec PyProof.Rows L2
/-- what the set holds, by the values that came -/
def StOk (K : PySem.W.Frag) (Hf : Hp) : StV → List PyData → Prop
  | .e, acc => acc = []
  | .i S n, acc => ∃ ns : List Int, ns ≠ [] ∧ acc = ns.map .int ∧ (∀ j, S j = decide (j ∈ ns)) ∧ ∀ T : List Int, (∀ j ∈ ns, j ∈ T) → n ≤ T.length
  | .t L, acc => ∃ ks : List (List Int), ks ≠ [] ∧ acc = ks.map (fun k => .tuple (k.map .int)) ∧ (∀ p ∈ L, SqT K Hf p.1 (p.2.map V.int) ∧ p.2 ∈ ks) ∧ (∀ k ∈ ks, k ∈ L.map (·.2)) ∧ (L.map (·.2)).Nodup
theorem StOk.mono {K : PySem.W.Frag} {Hf Hf' : Hp} (s : Sub Hf Hf') {st : StV} {acc : List PyData} (h : StOk K Hf st acc) : StOk K Hf' st acc := by
  cases st with
  | e => exact h
  | i S n => exact h
  | t L =>
    obtain ⟨ks, h1, h2, h3, h4⟩ := h
    exact ⟨ks, h1, h2, fun p hp => ⟨SqT.mono s (h3 p hp).1, (h3 p hp).2⟩, h4⟩
theorem sset_cases {xs : List PyData} {z : PyData} (h : ssetV (.list xs) = some z) : (∃ ns : List Int, xs = ns.map .int ∧ ns.length ≤ 1000 ∧ (sortD ns).length < 64 ∧ z = .list ((sortD ns).map .int)) ∨
    ∃ ks : List (List Int), xs = ks.map (fun k => .tuple (k.map .int)) ∧ flatT ks = true ∧ ks.eraseDups.length < 63 ∧ z = .list ((sortT ks).map fun k => .tuple (k.map .int)) := by
  simp only [ssetV] at h
  split at h
  · rename_i ns e
    split at h
    · rename_i hc
      cases h
      exact .inl ⟨ns, asInts_eq e, hc.1, hc.2, rfl⟩
    · cases h
  · obtain ⟨ks, ek, h⟩ := Option.bind_eq_some_iff.mp h
    split at h
    · rename_i hc
      cases h
      exact .inr ⟨ks, asTupI_map ek, hc.1, hc.2, rfl⟩
    · cases h
theorem AdV.imp {K : PySem.W.Frag} {y : V} {H : Hp} {k k' : StV → Prop} (h : ∀ st, k st → k' st) {st : StV} (a : AdV K y H k st) : AdV K y H k' st := by
  cases st with
  | e =>
    rcases a with ⟨i, e, q⟩ | ⟨x, q, e, f, g⟩
    · exact .inl ⟨i, e, h _ q⟩
    · exact .inr ⟨x, q, e, f, h _ g⟩
  | i S n => obtain ⟨i, e, f, g⟩ := a; exact ⟨i, e, f, h _ g⟩
  | t L => obtain ⟨x, q, e, f, g, l, m, n⟩ := a; exact ⟨x, q, e, f, g, l, fun c => h _ (m c), fun c L' p => h _ (n c L' p)⟩
/-- the set that grows -/
structure SIn (P : Program) (w : World) (K : PySem.W.Frag) (H1 Hf1 : Hp) (ρ1 : List Addr) (D : Addr) (H Hf : Hp) (ρ : List Addr) (m : Mem) (acc : List PyData) : Prop where
  pres : Pres H1 Hf1 ρ1 H Hf ρ
  fine : Fine K H Hf ρ m
  at_ : ∃ st, H D = some (SOV P w D st) ∧ StOk K Hf st acc
  fr : Hf D = none
  nt : D ∉ ρ
  sz : szAll acc = true
section
variable {P : Program} {w : World} {K : PySem.W.Frag} {H1 Hf1 : Hp} {ρ1 : List Addr} {D : Addr} {H Hf : Hp} {ρ : List Addr} {m : Mem} {acc : List PyData}
theorem SIn.start {m1 : Mem} (f : Fine K H1 Hf1 ρ1 m1) (hD : H1 D = none) : SIn P w K H1 Hf1 ρ1 D (upd H1 D (SOV P w D .e)) Hf1 ρ1 m1 [] :=
  ⟨Pres.fresh hD, f.fresh hD, ⟨.e, upd_same, rfl⟩, f.sub.none hD, (fun hm => by obtain ⟨o, e⟩ := f.tracked hm; rw [hD] at e; cases e), rfl⟩
theorem SIn.step (c : SIn P w K H1 Hf1 ρ1 D H Hf ρ m acc) {H' Hf' : Hp} {ρ' : List Addr} {m' : Mem} (p : Pres H Hf ρ H' Hf' ρ') (f : Fine K H' Hf' ρ' m') : SIn P w K H1 Hf1 ρ1 D H' Hf' ρ' m' acc := by
  obtain ⟨st, e, ha⟩ := c.at_
  obtain ⟨q, q1, q2⟩ := p.kp _ _ e c.fr c.nt
  exact ⟨c.pres.trans p, f, ⟨st, q, ha.mono p.fz⟩, q1, q2, c.sz⟩
theorem SIn.put (c : SIn P w K H1 Hf1 ρ1 D H Hf ρ m acc) (hD : H1 D = none) {st' : StV} {acc' : List PyData} (h : StOk K Hf st' acc') (hz' : szAll acc' = true) : SIn P w K H1 Hf1 ρ1 D (upd H D (SOV P w D st')) Hf ρ m acc' := by
  refine ⟨⟨c.pres.fz, c.pres.pre, fun a o h h1 h2 => ?_⟩, c.fine.poke c.fr c.nt, ⟨st', upd_same, h⟩, c.fr, c.nt, hz'⟩
  obtain ⟨q, q1, q2⟩ := c.pres.kp a o h h1 h2
  have : a ≠ D := ne_of_none h hD
  exact ⟨by rw [upd_ne this]; exact q, q1, q2⟩
theorem SIn.push (c : SIn P w K H1 Hf1 ρ1 D H Hf ρ m acc) (hD : H1 D = none) {y : V} {x z : PyData} {xs rest : List PyData} (r : Dp K Hf y x) (hzx : szOk x = true) (hx : acc ++ x :: rest = xs) (hz : ssetV (.list xs) = some z) :
    ∃ st, H D = some (SOV P w D st) ∧ AdV K y H (fun st' => SIn P w K H1 Hf1 ρ1 D (upd H D (SOV P w D st')) Hf ρ m (acc ++ [x])) st := by
  obtain ⟨st, e, ha⟩ := c.at_
  refine ⟨st, e, ?_⟩
  have hsz : szAll (acc ++ [x]) = true := by
    have := c.sz
    rw [szAll_iff] at this ⊢
    intro d hd
    rcases List.mem_append.mp hd with hd | hd
    · exact this d hd
    · rw [List.mem_singleton.mp hd]; exact hzx
  rcases sset_cases hz with ⟨ns, e1, e2, e3, _⟩ | ⟨ks, e1, e2, e3, _⟩
  · rw [e1] at hx
    obtain ⟨n1, n2, rfl, h1, h2⟩ := List.map_eq_append_iff.mp hx.symm
    obtain ⟨i, n3, rfl, rfl, h3⟩ := List.map_eq_cons_iff.mp h2
    cases r
    have hlen : n1.length ≤ 1000 := by rw [List.length_append] at e2; omega
    cases st with
    | e =>
      refine .inl ⟨i, rfl, c.put hD ⟨[i], by simp, ?_, fun j => by simp, fun T hT => ?_⟩ hsz⟩
      · rw [show acc = [] from ha]; rfl
      · exact List.length_pos_of_mem (hT i List.mem_cons_self)
    | i S n =>
      obtain ⟨n0, q0, q1, q2, q3⟩ := ha
      have hn0 : n ≤ n0.length := q3 n0 fun j hj => hj
      have e0 : n0 = n1 := by
        have : n0.map PyData.int = n1.map PyData.int := by rw [← q1, h1]
        exact List.map_inj_right (fun a b h => by injection h) |>.mp this
      subst e0
      refine ⟨i, rfl, by unfold scanBound; omega, c.put hD ⟨n0 ++ [i], by simp, by rw [q1, List.map_append]; rfl, fun j => ?_, fun T hT => ?_⟩ hsz⟩
      · show (S j || decide (j = i)) = _
        rw [q2 j, Bool.eq_iff_iff]; simp
      · have hs : ∀ j ∈ n0, j ∈ T := fun j hj => hT j (List.mem_append_left _ hj)
        by_cases hi : S i = true
        · rw [if_pos hi]; exact q3 T hs
        · rw [if_neg hi]
          have hni : i ∉ n0 := fun hm => hi (by rw [q2]; simpa using hm)
          have hiT : i ∈ T := hT i (List.mem_append_right _ List.mem_cons_self)
          have := q3 (T.erase i) fun j hj => (List.mem_erase_of_ne fun z => hni (by rw [← z]; exact hj)).mpr (hs j hj)
          rw [List.length_erase_of_mem hiT] at this
          have := List.length_pos_of_mem hiT
          omega
    | t L =>
      obtain ⟨k0, q0, q1, _⟩ := ha
      rw [q1] at h1
      cases k0 with
      | nil => exact absurd rfl q0
      | cons k k0 => cases n1 <;> simp at h1
  · rw [e1] at hx
    obtain ⟨k1, k2, rfl, h1, h2⟩ := List.map_eq_append_iff.mp hx.symm
    obtain ⟨k, k3, rfl, rfl, h3⟩ := List.map_eq_cons_iff.mp h2
    cases r with
    | tup hq hda =>
    have := DpAll.ints hda (asInts_map k)
    subst this
    cases st with
    | e =>
      refine .inr ⟨_, k, rfl, SqT.mono c.fine.sub hq, c.put hD ⟨[k], by simp, ?_, fun p hp => ?_, fun j hj => ?_, by simp⟩ hsz⟩
      · rw [show acc = [] from ha]; rfl
      · rw [List.mem_singleton.mp hp]; exact ⟨hq, List.mem_cons_self⟩
      · simpa using hj
    | i S n =>
      obtain ⟨n0, q0, q1, _⟩ := ha
      rw [q1] at h1
      cases n0 with
      | nil => exact absurd rfl q0
      | cons k n0 => cases k1 <;> simp at h1
    | t L =>
      obtain ⟨k0, q0, q1, q2, q3, q4⟩ := ha
      have e0 : ∀ {a b : List (List Int)}, (a.map fun k => PyData.tuple (k.map .int)) = (b.map fun k => PyData.tuple (k.map .int)) → a = b := fun {a b} h => by
        refine (List.map_inj_right (fun u v h => ?_)).mp h
        injection h with h
        exact (List.map_inj_right (fun a b h => by injection h)).mp h
      have e0 : k0 = k1 := e0 (by rw [← q1, h1])
      subst e0
      have hsub : ∀ j ∈ L.map (·.2), j ∈ (k0 ++ k :: k3).eraseDups := fun j hj => by
        obtain ⟨p, hp, rfl⟩ := List.mem_map.mp hj
        exact List.mem_eraseDups.mpr (List.mem_append_left _ (q2 p hp).2)
      have hlen := EngU.cap_len _ _ q4 hsub
      rw [List.length_map] at hlen
      have eacc : acc ++ [PyData.tuple (k.map .int)] = (k0 ++ [k]).map fun k => .tuple (k.map .int) := by rw [q1, List.map_append]; rfl
      refine ⟨_, k, rfl, SqT.mono c.fine.sub hq, fun p hp => SqT.mono c.fine.sub (q2 p hp).1, by omega, fun hm => c.put hD ⟨k0 ++ [k], by simp, eacc, fun p hp => ⟨(q2 p hp).1, List.mem_append_left _ (q2 p hp).2⟩, fun j hj => ?_, q4⟩ hsz, fun hm L' pm => c.put hD ⟨k0 ++ [k], by simp, eacc, fun p hp => ?_, fun j hj => ?_, ?_⟩ hsz⟩
      · rcases List.mem_append.mp hj with hj | hj
        · exact q3 j hj
        · rw [List.mem_singleton.mp hj]; exact hm
      · rcases List.mem_cons.mp (pm.mem_iff.mp hp) with rfl | hp
        · exact ⟨hq, List.mem_append_right _ List.mem_cons_self⟩
        · exact ⟨(q2 p hp).1, List.mem_append_left _ (q2 p hp).2⟩
      · rw [(pm.map (·.2)).mem_iff]
        rcases List.mem_append.mp hj with hj | hj
        · exact List.mem_cons_of_mem _ (q3 j hj)
        · rw [List.mem_singleton.mp hj]; exact List.mem_cons_self
      · rw [(pm.map (·.2)).nodup_iff]
        exact List.nodup_cons.mpr ⟨hm, q4⟩
end
section
variable {G : Cfg} {N : List Str} {C : Calls} {XR : XRel} {X : Cx} {W : WX} {c : Sc} {e : Expr} {pos : Pos}
theorem rl_iteN {a b l r : Expr} {op : Operator} {p : Pos} {f fa fb : Env → Mem → R U} (ht : PE X (.BinOp a op b p) (tU X.K XR W f)) (ha : PE X l (tU X.K XR W fa)) (hb : PE X r (tU X.K XR W fb)) : PE X (.IfExp (.BinOp a op b p) l r pos) (tU X.K XR W fun σ m => ((f σ m).bind asNz).bind fun c m1 => if c = true then fa σ m1 else fb σ m1) :=
  PE.imp (pe_ifExp (pt_truth ht (by intro _; rfl)) ha hb) fun σ H Q ⟨Hf, ρ, ω, env, m, a, o⟩ => by
    dsimp only at o
    rw [R.bind_bind] at o
    obtain ⟨A, B, D, E, F', a1, o1⟩ := a.bind (Rp' := RU X.K) o
    refine ⟨A, B, D, E, F', a1, o1.mono fun x H1 ⟨u, Hf1, ρ1, m1, p, a1, r1, o1⟩ => ?_⟩
    cases u with
    | ref i => exact (o1 : False).elim
    | dat d =>
      cases d with
      | int i =>
        cases r1.1
        simp only [asNz, R.bind_ok] at o1
        refine ⟨i != 0, rfl, ?_⟩
        cases hz : (i != 0) with
        | true => rw [hz] at o1; exact ⟨_, _, _, _, _, a1, o1⟩
        | false => rw [hz] at o1; exact ⟨_, _, _, _, _, a1, o1⟩
      | _ => exact (o1 : False).elim
theorem rt_iteN {a b l r : Expr} {op : Operator} {p : Pos} {f fa fb : Env → Mem → R U} (ht : PE X (.BinOp a op b p) (tU X.K XR W f)) (ha : PT X l (tT X.K XR W fa)) (hb : PT X r (tT X.K XR W fb)) : PT X (.IfExp (.BinOp a op b p) l r pos) (tT X.K XR W fun σ m => ((f σ m).bind asNz).bind fun c m1 => if c = true then fa σ m1 else fb σ m1) := by
  refine ⟨fun pins s σ H Q I ⟨Hf, ρ, ω, env, m, aa, o⟩ => ?_⟩
  dsimp only at o
  rw [R.bind_bind, R.bind_bind] at o
  show wpAny (model X.prog X.w) X.A (do if ← isTrue (.BinOp a op b p) X.env (eval (.BinOp a op b p) X.env) then isTrue l X.env (eval l X.env) else isTrue r X.env (eval r X.env)) (TP X pins σ Q) X.xe s
  refine wpAny_bind (wpAny_mono ((pt_truth ht (by intro _; rfl)).run pins s σ H (fun b H1 => if b = true then tT X.K XR W fa σ H1 Q else tT X.K XR W fb σ H1 Q) I ?_) (fun b s1 ⟨H1, I1, q⟩ => ?_) fun _ _ z => z)
  · obtain ⟨A, B, D, E, F', a1, o1⟩ := aa.bind (Rp' := RU X.K) o
    refine ⟨A, B, D, E, F', a1, o1.mono fun x H1 ⟨u, Hf1, ρ1, m1, p, a1, r1, o1⟩ => ?_⟩
    cases u with
    | ref i => exact (o1 : False).elim
    | dat d =>
      cases d with
      | int i =>
        cases r1.1
        simp only [asNz, R.bind_ok] at o1
        refine ⟨i != 0, rfl, ?_⟩
        cases hz : (i != 0) with
        | true => rw [hz] at o1; exact ⟨_, _, _, _, _, a1, o1⟩
        | false => rw [hz] at o1; exact ⟨_, _, _, _, _, a1, o1⟩
      | _ => exact (o1 : False).elim
  · cases b with
    | true => exact ha.run pins s1 σ H1 Q I1 q
    | false => exact hb.run pins s1 σ H1 Q I1 q
end
end Eng

set_option Elab.async false
set_option linter.all false
set_option maxRecDepth 100000
set_option maxHeartbeats 2000000
/-! Lists that may change, held by a list: made in a comprehension, popped. -/
namespace Eng
open PySem PySem.Spec PyProof.Rows L2
section
variable {K : PySem.W.Frag} {H Hf : Hp} {ρ : List Addr} {m : Mem}
/-- a free object is tracked from now on -/
theorem Fine.track (f : Fine K H Hf ρ m) {D : Addr} {ob : MObj} (fr : Hf D = none) (nt : D ∉ ρ) (hM : MAt K H Hf (ρ ++ [D]) D ob) : Fine K H Hf (ρ ++ [D]) (m ++ [ob]) := by
  refine ⟨f.sub, ?_, fun q hq => ?_, by rw [List.length_append, List.length_append, f.len]; rfl, fun i q ob2 e1 e2 => ?_⟩
  · rw [List.nodup_append]
    refine ⟨f.nd, by simp, fun q hq q' hq' e => nt ?_⟩
    have : q' = D := by simpa using hq'
    rw [← this, ← e]; exact hq
  · rcases List.mem_append.mp hq with z | z
    · exact f.un q z
    · rw [show q = D by simpa using z]; exact fr
  · by_cases hi : i < ρ.length
    · rw [List.getElem?_append_left hi] at e1
      rw [List.getElem?_append_left (by rw [← f.len]; exact hi)] at e2
      exact (f.at_ i q ob2 e1 e2).grow (fun _ e => e) (Sub.refl _) ⟨[D], rfl⟩
    · have hl := (List.getElem?_eq_some_iff.mp e1).1
      rw [List.length_append, List.length_singleton] at hl
      have : i = ρ.length := by omega
      subst this
      rw [List.getElem?_append_right (Nat.le_refl _), Nat.sub_self] at e1
      rw [f.len, List.getElem?_append_right (Nat.le_refl _), Nat.sub_self] at e2
      cases e1; cases e2
      exact hM
/-- the rows so far -/
structure RIn (K : PySem.W.Frag) (H1 Hf1 : Hp) (ρ1 : List Addr) (m1 : Mem) (D : Addr) (H Hf : Hp) (as : List Addr) (i : Nat) : Prop where
  pres : Pres H1 Hf1 ρ1 H Hf (ρ1 ++ as)
  fine : Fine K H Hf (ρ1 ++ as) (m1 ++ List.replicate i (.lst []))
  len : as.length = i
  at_ : H D = some (.lst (as.map V.ref))
  fr : Hf D = none
  nt : D ∉ ρ1 ++ as
theorem range'_get {s n j k : Nat} (h : (List.range' s n)[j]? = some k) : j < n ∧ k = s + j := by
  have hl := (List.getElem?_eq_some_iff.mp h).1
  rw [List.length_range'] at hl
  rw [List.getElem?_range' hl] at h
  cases h
  exact ⟨hl, by omega⟩
theorem rs_imp {XR : XRel} {W : WX} {fI : Env → Mem → R (List PyData)} {tg : Tg} {vs : List Nat} {σ : L2.St} {H : Hp} {Q : VK} (hs : ∀ i ∈ slotsTg tg, i ∈ vs)
    (h : tU K XR W (fun σ m => ((fI σ m).bind sizeU).bind fun ds m1 => rsGo tg (wipeE σ vs) ds m1) σ H Q) :
    tLc (tI K XR W fI) (gT K tg) (tC K XR none) (tLst tNil) vs σ H Q := by
  obtain ⟨Hf, ρ, ω, env, m, a, o⟩ := h
  dsimp only at o
  rw [R.bind_bind] at o
  refine ⟨Hf, ρ, ω, env, m, a, (OutE.bind (Rp' := RI K) o).mono fun J H1 ⟨ds, Hf1, ρ1, m1, p, f1, r, o1⟩ => ?_⟩
  obtain ⟨hJ, hz⟩ := r
  have a1 : At K H1 σ Hf1 ρ1 ω env m1 := a.pres p f1
  unfold sizeU at o1
  have hl : ds.length ≤ sizeLine := by
    by_cases hl : ds.length ≤ sizeLine
    · exact hl
    · rw [if_neg hl] at o1; exact (o1 : False).elim
  rw [if_pos hl, R.bind_ok] at o1
  unfold rsGo at o1
  split at o1
  case isFalse => exact (o1 : False).elim
  rename_i hall
  intro D hD
  refine ⟨fun i k H' => ∃ Hf' as, i ≤ ds.length ∧ k = ds.length - i ∧ RIn K H1 Hf1 ρ1 m1 D H' Hf' as i,
    ⟨_, Hf1, [], Nat.zero_le _, rfl, ⟨?_, ?_, rfl, upd_same, f1.sub.none hD, ?_⟩⟩, fun i k H' ⟨Hf', as, hi, hk, c⟩ => ?_⟩
  · rw [List.append_nil]; exact Pres.fresh hD
  · rw [List.append_nil, List.replicate_zero, List.append_nil]; exact f1.fresh hD
  · rw [List.append_nil]
    intro hm
    obtain ⟨o, e⟩ := f1.tracked hm
    rw [hD] at e; cases e
  by_cases he : i = ds.length
  · subst he
    refine .inl ⟨(hJ H' Hf' c.pres.fz c.fine.sub _).2 rfl, ?_⟩
    refine o1 _ H' Hf' ((ρ1 ++ as) ++ [D]) ⟨c.pres.fz, ⟨as ++ [D], by rw [List.append_assoc]⟩, fun b o hb h1 h2 => ?_⟩ (c.fine.track c.fr c.nt ⟨as, c.at_, fun j k q => ?_, by rw [List.length_range']; exact c.len⟩) ⟨D, ?_, rfl⟩
    · obtain ⟨q1, q2, q3⟩ := c.pres.kp b o hb h1 h2
      refine ⟨q1, q2, fun z => ?_⟩
      rcases List.mem_append.mp z with z | z
      · exact q3 z
      · have : b = D := by simpa using z
        rw [this, hD] at hb; cases hb
    · obtain ⟨hj, rfl⟩ := range'_get q
      have hja : j < as.length := by rw [c.len]; exact hj
      refine ⟨as[j], List.getElem?_eq_getElem hja, ?_⟩
      rw [List.append_assoc, ← f1.len, List.getElem?_append_right (by omega), show ρ1.length + j - ρ1.length = j by omega, List.getElem?_append_left hja]
      exact List.getElem?_eq_getElem hja
    · rw [List.getElem?_append_right (by rw [List.length_append, f1.len, c.len]; exact Nat.le_refl _), List.length_append, f1.len, c.len, Nat.sub_self]; rfl
  · have hlt : i < ds.length := by omega
    obtain ⟨hgo, hy⟩ := Pres.turn (hJ.mono c.pres.fz) c.fine (List.getElem?_eq_getElem hlt)
    have hzd : szOk ds[i] = true := szAll_iff.mp hz _ (List.getElem_mem hlt)
    refine .inr ⟨hgo, fun H' => ∃ Hf' as, RIn K H1 Hf1 ρ1 m1 D H' Hf' as (i + 1), fun H' ⟨Hf', as, c⟩ => ⟨_, (by omega : ds.length - (i + 1) < k), Hf', as, hlt, rfl, c⟩, fun x H2 hyl => ?_⟩
    obtain ⟨Hf2, p2, f2, hdp⟩ := hy x H2 hyl
    obtain ⟨env', g1⟩ := hall _ (List.getElem_mem hlt)
    have at2 := wipe_At a1 (c.pres.trans p2) f2 vs
    refine gT_ok at2 hdp hzd g1 fun σ2 a2 off => ⟨?_, ?_⟩
    · rw [wipe_off off (by rw [a2.slots.len, at2.slots.len]; exact asgTg_len g1) hs, wipe_wipe]
    have g2 : condGo (oQ (none : Option (Env → Mem → R U))) env' (m1 ++ List.replicate i (MObj.lst [])) = .ok true (m1 ++ List.replicate i (MObj.lst [])) := rfl
    refine tC_ok a2 g2 fun H3 Hf3 ρ3 p3 f3 => ?_
    obtain ⟨t, et⟩ := p3.pre
    have ht : t = [] := by
      have h1 := f3.len
      have h2 := f2.len
      rw [et, List.length_append, h2] at h1
      exact List.length_eq_zero_iff.mp (by omega)
    rw [ht, List.append_nil] at et
    subst et
    obtain ⟨d1, d2, d3⟩ := (p2.trans p3).kp _ _ c.at_ c.fr c.nt
    refine ⟨Nat.zero_le _, fun P hP => ?_⟩
    have hPD : P ≠ D := fun z => by rw [z, d1] at hP; cases hP
    obtain ⟨P0, F0⟩ := new_mem (a2.pres p3 f3) (w := .lst []) (ob' := .lst []) hP ⟨[], upd_same, .nil, rfl⟩
    have nt' : D ∉ (ρ1 ++ as) ++ [P] := fun z => by
      rcases List.mem_append.mp z with z | z
      · exact d3 z
      · exact hPD (by simpa using (show D = P by simpa using z).symm)
    refine ⟨as.map V.ref, by rw [upd_ne (Ne.symm hPD)]; exact d1, by rw [List.length_map, c.len]; omega, Hf3, as ++ [P], ⟨?_, ?_, ?_, ?_, d2, ?_⟩⟩
    · rw [← List.append_assoc]
      have PP := ((c.pres.trans p2).trans p3).trans P0
      refine ⟨PP.fz, ⟨as ++ [P], by rw [List.append_assoc]⟩, fun b o hb h1 h2 => ?_⟩
      obtain ⟨q1, q2, q3⟩ := PP.kp b o hb h1 h2
      exact ⟨by rw [upd_ne (ne_of_none hb hD)]; exact q1, q2, q3⟩
    · rw [← List.append_assoc, List.replicate_succ', ← List.append_assoc]
      exact F0.poke d2 nt'
    · rw [List.length_append, c.len]; rfl
    · rw [upd_same, List.map_append]; rfl
    · rw [← List.append_assoc]; exact nt'
end
section
variable {G : Cfg} {N : List Str} {C : Calls} {XR : XRel} {X : Cx} {W : WX} {c : Sc} {pos : Pos}
theorem rl_newRs (g : GX G N C XR X W c) {t i : Expr} {scope : Scope} {own : List (Str × Nat)} {tg : Tg} {lp : Pos} {fI : Env → Mem → R (List PyData)} (hI : PI X t i (tI X.K XR W fI)) (ok : blkC N c.sc scope own = true) (hp : pl i = true) (ht : okTg N (c.blk scope) tg t = true)
    (hs : (slotsTg tg).all (fun j => (own.map (·.2)).contains j) = true) :
    PE X (.ListComp (.List [] lp) [⟨t, i, [], 0⟩] scope pos) (tU X.K XR W fun σ m => ((fI σ m).bind sizeU).bind fun ds m1 => rsGo tg (wipeE σ (own.map (·.2))) ds m1) := by
  have hs' : ∀ i ∈ slotsTg tg, i ∈ own.map (·.2) := fun i hi => by
    have := List.all_eq_true.mp hs i hi
    simpa using this
  refine PE.imp (pe_lc (own := own) g.calm g.nd hI (blkOk_by (by rw [g.hN, g.sc]; exact ok)) (fun s H D cl fp => ?_) (fun s H D cl fp => pts_nil) (fun s H D cl fp => pe_lst pa_nil) (folded_pl hp)) fun σ H Q h => rs_imp hs' h
  exact pg_T (g.blk s H scope cl D fp) ht
end
end Eng

set_option Elab.async false
set_option linter.all false
set_option maxRecDepth 100000
/-! Several except clauses that name what they caught. -/
namespace L2
open PySem PySem.Spec PyProof.Rows
/-- what the clauses wish of an exception of the body, one after the other; slot i is the name's -/
def wManyAs (K : PySem.W.Frag) (i : Nat) (Wout : WX) (D : Ends) : List (Value × (Addr → Value → Option Addr → TS)) → WX
  | [] => Wout
  | (c, ts) :: r => fun cls d σ H => ∃ b, PySem.W.exmOne K cls c = some b ∧ (b = true → ∀ a, H a = none → ts a cls d { nx := fun σ' H' => D.nx (σ'.set i none) H', rt := D.rt, bk := fun σ' H' => D.bk (σ'.set i none) H', ct := fun σ' H' => D.ct (σ'.set i none) H' } (σ.set i (some (.ref a))) H) ∧ (b = false → wManyAs K i Wout D r cls d σ H)
inductive HdsAs (X : Cx) (n : Str) : List ExceptHandler → List (Value × (Addr → Value → Option Addr → TS)) → Prop
  | nil : HdsAs X n [] []
  | cons {x : Str} {c : Value} {ts : Addr → Value → Option Addr → TS} {b₀ : Stmt} {suite : List Stmt} {np pos' : Pos} {hds : List ExceptHandler} {l : List (Value × (Addr → Value → Option Addr → TS))} (hc : Names X x c)
      (hsu : ∀ (a : Addr) (oe : Obj) (cls : Value) (d : Option Addr) (pn : List (Addr × Obj)), Zc cls d oe → (∃ vs, oe.data = .fields vs) → PSs (X.suite a ((a, oe) :: pn)) (b₀ :: suite) (ts a cls d)) (r : HdsAs X n hds l) :
      HdsAs X n (.ExceptHandler (some (.Name x np)) (some n) (b₀ :: suite) pos' :: hds) ((c, ts) :: l)
section
variable {X : Cx} {n : Str} {i : Nat} {body : List Stmt} {h₀ : ExceptHandler} {hds : List ExceptHandler} {l : List (Value × (Addr → Value → Option Addr → TS))} {pos : Pos} {tb : WX → TS} {Wout : WX}
end
end L2

set_option Elab.async false
set_option linter.all false
set_option maxRecDepth 100000
set_option maxHeartbeats 1000000
/-! An except suite. -/
namespace Eng
open PySem PySem.Spec PyProof.Rows L2
def endF (D : Ends) (K : PySem.W.Frag) (σ : L2.St) (H Hf : Hp) (ρ : List Addr) : F → Prop
  | .nx => D.nx σ H
  | .brk => D.bk σ H
  | .cnt => D.ct σ H
  | .ret u => ∀ v, RepU K Hf ρ v u → D.rt v H
/-- where an own error is held: at a, of the class at Ca, its dict d -/
structure AtX (K : PySem.W.Frag) (H : Hp) (σ : L2.St) (Hf : Hp) (ρ : List Addr) (ω : Nat → Addr) (env : Env) (m : Mem) (i : Nat) (a : Addr) (cls : Value) (d : Option Addr) (Ca : Addr) (fld : Str) (x : PyData) : Prop where
  at_ : At K H σ Hf ρ ω env m
  slot : σ[i]? = some (some (.ref a))
  cls : cls = .ref Ca
  xd : ∃ dd v, d = some dd ∧ Hf dd = some (.xd [(fld, v)]) ∧ RepU K Hf ρ v (.dat x)
section
variable {K : PySem.W.Frag} {H : Hp} {σ : L2.St} {Hf : Hp} {ρ : List Addr} {ω : Nat → Addr} {env : Env} {m : Mem} {i : Nat} {a : Addr} {cls : Value} {d : Option Addr} {Ca : Addr} {fld : Str} {x : PyData}
theorem AtX.pres (A : AtX K H σ Hf ρ ω env m i a cls d Ca fld x) {H1 Hf1 : Hp} {ρ1 : List Addr} (p : Pres H Hf ρ H1 Hf1 ρ1) (f : Fine K H1 Hf1 ρ1 m) : AtX K H1 σ Hf1 ρ1 ω env m i a cls d Ca fld x := by
  obtain ⟨dd, v, h1, h2, h3⟩ := A.xd
  exact ⟨A.at_.pres p f, A.slot, A.cls, dd, v, h1, p.fz _ _ h2, h3.pres p⟩
def OutX (K : PySem.W.Frag) (H Hf : Hp) (ρ : List Addr) (m : Mem) (r : Option PyData) (Q : VK) : Prop := ∃ z, r = some z ∧ ∀ v H' Hf' ρ', Pres H Hf ρ H' Hf' ρ' → Fine K H' Hf' ρ' m → RepU K Hf' ρ' v (.dat z) → Q v H'
def OutXs (K : PySem.W.Frag) (H Hf : Hp) (ρ : List Addr) (m : Mem) (r : Option (List PyData)) (Q : List V → Hp → Prop) : Prop := ∃ zs, r = some zs ∧ ∀ vs H' Hf' ρ', Pres H Hf ρ H' Hf' ρ' → Fine K H' Hf' ρ' m → RUs K Hf' ρ' vs (zs.map U.dat) → Q vs H'
def OutXB (K : PySem.W.Frag) (H Hf : Hp) (ρ : List Addr) (m : Mem) (r : Option Bool) (Q : Bool → Hp → Prop) : Prop := ∃ b, r = some b ∧ ∀ H' Hf' ρ', Pres H Hf ρ H' Hf' ρ' → Fine K H' Hf' ρ' m → Q b H'
def tX (K : PySem.W.Frag) (i : Nat) (a : Addr) (cls : Value) (d : Option Addr) (Ca : Addr) (fld : Str) (f : PyData → Env → Option PyData) : TE := fun σ H Q => ∃ Hf ρ ω env m x, AtX K H σ Hf ρ ω env m i a cls d Ca fld x ∧ OutX K H Hf ρ m (f x env) Q
def tXs (K : PySem.W.Frag) (i : Nat) (a : Addr) (cls : Value) (d : Option Addr) (Ca : Addr) (fld : Str) (f : PyData → Env → Option (List PyData)) : TA := fun σ H Q => ∃ Hf ρ ω env m x, AtX K H σ Hf ρ ω env m i a cls d Ca fld x ∧ OutXs K H Hf ρ m (f x env) Q
def tXB (K : PySem.W.Frag) (i : Nat) (a : Addr) (cls : Value) (d : Option Addr) (Ca : Addr) (fld : Str) (f : PyData → Env → Option Bool) : TT := fun σ H Q => ∃ Hf ρ ω env m x, AtX K H σ Hf ρ ω env m i a cls d Ca fld x ∧ OutXB K H Hf ρ m (f x env) Q
theorem OutX.bind {f : PyData → Option PyData} {r : Option PyData} {Q : VK} (h : OutX K H Hf ρ m (r.bind f) Q) : OutX K H Hf ρ m r fun v H1 => ∃ z Hf1 ρ1, Pres H Hf ρ H1 Hf1 ρ1 ∧ Fine K H1 Hf1 ρ1 m ∧ RepU K Hf1 ρ1 v (.dat z) ∧ OutX K H1 Hf1 ρ1 m (f z) Q ∧ r = some z := by
  obtain ⟨y, e, q⟩ := h
  rw [Option.bind_eq_some_iff] at e
  obtain ⟨z, e1, e2⟩ := e
  exact ⟨z, e1, fun v H' Hf' ρ' p f' r' => ⟨z, Hf', ρ', p, f', r', ⟨y, e2, fun v H2 Hf2 ρ2 p2 f2 r2 => q v H2 Hf2 ρ2 (p.trans p2) f2 r2⟩, e1⟩⟩
end
section
variable {G : Cfg} {N : List Str} {C : Calls} {XR : XRel} {X : Cx} {W : WX} {c : Sc} {i k : Nat} {a Ca : Addr} {cls : Value} {d : Option Addr} {oe : Obj} {pn : List (Addr × Obj)} {n fld : Str} {nm : Str}
theorem datL_map : ∀ zs : List PyData, datL (zs.map U.dat) = some zs
  | [] => rfl
  | z :: zs => by
    have ih := datL_map zs
    rw [List.map_cons]
    simp only [datL, ih, Option.map_some]
theorem hEs_len {x : PyData} {σ : Env} : ∀ {es : HEs} {l : List Expr} {zs : List PyData}, okHEs G N c n fld k es l = true → hEs es x σ = some zs → zs.length = l.length
  | .nil, l, zs, h, e => by
    cases l with
    | nil => cases e; rfl
    | cons _ _ => simp [okHEs] at h
  | .cons e0 es, l, zs, h, e => by
    cases l with
    | nil => simp [okHEs] at h
    | cons y r =>
      simp only [okHEs, Bool.and_eq_true] at h
      simp only [hEs, Option.bind_eq_some_iff, Option.map_eq_some_iff] at e
      obtain ⟨z, e2, zr, e3, rfl⟩ := e
      rw [List.length_cons, List.length_cons, hEs_len h.2 e3]
variable (g : GX G N C XR X W c) (hn : N[i]? = some n) (hln : c.sc.names.lookup n = some .local) (hv : visB c n = true) (T : EngX.OwnTxt X.prog X.K X.mg nm fld Ca fI) (hk : G.cl[k]? = some (nm, fld)) (hz : Zc cls d oe) (hf : ∃ vs, oe.data = .fields vs)
include g hn hv T hk hz hf
mutual
theorem sndHE : ∀ (e : HE) {s : Expr}, okHE G N c n fld k e s = true → PE (X.suite a ((a, oe) :: pn)) s (tX X.K i a cls d Ca fld (hE e))
  | .cst z, s, h => by
    simp only [okHE] at h; split at h
    · obtain ⟨v, h1, h2, h3⟩ := cst_pe h
      exact PE.imp h1 fun σ H Q ⟨Hf, ρ, ω, env, m, x, A, z', e, q⟩ => by
        cases e
        exact q v H Hf ρ (Pres.refl _ _ _) A.at_.fine ⟨h2 _, h3⟩
    · cases h
  | .fld, s, h => by
    simp only [okHE] at h; split at h
    · simp only [Bool.and_eq_true, decide_eq_true_eq] at h
      obtain ⟨rfl, rfl⟩ := h
      obtain ⟨v1, v2, v3⟩ := g.vis hv
      refine PE.imp (pe_xf T.xf T.noN hz hf (pe_var (i := i) (by rw [g.hN]; exact hn) v1 v2 v3) (by rfl)) fun σ H Q ⟨Hf, ρ, ω, env, m, x, A, z', e, q⟩ => ?_
      cases e
      obtain ⟨dd, v, h1, h2, h3⟩ := A.xd
      refine ⟨.ref a, A.slot, rfl, A.cls, dd, _, v, h1, A.at_.fine.sub _ _ h2, by simp [List.lookup], q v H Hf ρ (Pres.refl _ _ _) A.at_.fine h3⟩
    · cases h
  | .var j, s, h => by
    simp only [okHE] at h; split at h
    · simp only [Bool.and_eq_true, decide_eq_true_eq] at h
      obtain ⟨h1, h2⟩ := h
      obtain ⟨v1, v2, v3⟩ := g.vis h2
      refine PE.imp (pe_var (i := j) (by rw [g.hN]; exact h1) v1 v2 v3) fun σ H Q ⟨Hf, ρ, ω, env, m, x, A, z', e, q⟩ => ?_
      simp only [hE] at e
      split at e
      · rename_i y ey
        cases e
        obtain ⟨v, e1, r⟩ := A.at_.slots.val j _ ey
        exact ⟨v, e1, q v H Hf ρ (Pres.refl _ _ _) A.at_.fine r⟩
      · cases e
    · cases h
  | .rep e, s, h => by
    simp only [okHE] at h; split at h
    · simp only [Bool.and_eq_true, decide_eq_true_eq] at h
      obtain ⟨⟨⟨rfl, h2⟩, h3⟩, h4⟩ := h
      obtain ⟨q1, q2⟩ := g.glo h2
      have hm : X.mg "repr" = none := g.bn _ (by decide)
      have ih := sndHE e h3
      refine PE.imp (pe_callB (X := X.suite a ((a, oe) :: pn)) (cr_repr g.gd (by have := g.un; show X.A.units + 64 < cLine; omega)) q1 hm (by decide +kernel) (pa_cons ih pa_nil (star_pl h4)) (by decide) q2 (star_pl h4)) fun σ H Q ⟨Hf, ρ, ω, env, m, x, A, o⟩ => ?_
      simp only [hE] at o
      refine ⟨Hf, ρ, ω, env, m, x, A, ?_⟩
      obtain ⟨z, e1, q⟩ := OutX.bind o
      refine ⟨z, e1, fun v H' Hf' ρ' p f r => ?_⟩
      obtain ⟨z2, Hf1, ρ1, p1, f1, r1, ⟨y, hy, qq⟩, e2⟩ := q v H' Hf' ρ' p f r
      have hy' : (if z2.showable && decide (z2.shown.length ≤ sizeLine) && decide (z2.depth ≤ 60) then some (.str z2.shown) else none) = some y := by
        rw [← hy]; cases z2 <;> rfl
      split at hy'
      · rename_i hh
        simp only [Bool.and_eq_true, decide_eq_true_eq] at hh
        cases hy'
        refine ⟨v, z2, rfl, r1.1.mono f1.sub, r1.2, hh.1.1, hh.1.2, hh.2, qq _ H' Hf1 ρ1 (Pres.refl _ _ _) f1 ⟨.str _, ?_⟩⟩
        simp only [szOk, decide_eq_true_eq]
        exact hh.1.2
      · cases hy'
    · cases h
  | .isx D b, s, h => by
    simp only [okHE] at h; split at h
    · simp only [Bool.and_eq_true, decide_eq_true_eq, List.any_eq_true] at h
      obtain ⟨⟨⟨⟨⟨rfl, h2⟩, rfl⟩, rfl⟩, h5⟩, p, h6, rfl⟩ := h
      obtain ⟨q1, q2⟩ := g.glo h2
      obtain ⟨q3, q4⟩ := g.glo h5
      obtain ⟨v1, v2, v3⟩ := g.vis hv
      have hm : X.mg "isinstance" = none := g.bn _ (by decide)
      obtain ⟨Cd, m1, m2, m3⟩ := g.xt.isx _ _ _ _ _ h6 hk T.gC
      by_cases hcl : cls = .ref Ca
      · subst hcl
        refine PE.imp (pe_callB (X := X.suite a ((a, oe) :: pn)) (call_isX m3 hz hf) q1 hm (by decide +kernel) (pa_cons (pe_var (i := i) (by rw [show (X.suite a ((a, oe) :: pn)).N = N from g.hN]; exact hn) v1 v2 v3) (pa_cons (pe_glob (v := .ref Cd) q3 m1 rfl q4) pa_nil (by rfl)) (by rfl)) (by decide) q2 (by rfl) (by rfl)) fun σ H Q ⟨Hf, ρ, ω, env, m, x, A, z', e, q⟩ => ?_
        cases e
        obtain ⟨dd, v, h1, h2, h3⟩ := A.xd
        exact ⟨.ref a, A.slot, .ref Cd, .ref Cd, b, dd, _, rfl, h1, A.at_.fine.sub _ _ h2, fun u r => r, m2, q (.bl b) H Hf ρ (Pres.refl _ _ _) A.at_.fine ⟨.bl _, rfl⟩⟩
      · exact pe_never fun σ H Q ⟨Hf, ρ, ω, env, m, x, A, _⟩ => hcl A.cls
    · cases h
  | .tup es, s, h => by
    simp only [okHE] at h; split at h
    · simp only [Bool.and_eq_true, decide_eq_true_eq] at h
      have ih := sndHEs es h.1
      refine PE.imp (pe_tup ih) fun σ H Q ⟨Hf, ρ, ω, env, m, x, A, y, e, q⟩ => ?_
      simp only [hE, Option.map_eq_some_iff] at e
      obtain ⟨zs, e1, rfl⟩ := e
      refine ⟨Hf, ρ, ω, env, m, x, A, zs, e1, fun vs H' Hf' ρ' p f r => ?_⟩
      have hlen := hEs_len h.1 e1
      have hl1 := r.len
      rw [List.length_map] at hl1
      have hsm := small1001 h.2
      obtain ⟨h1, h2⟩ := r.dats (datL_map zs)
      refine ⟨by omega, fun b hb => ?_⟩
      have hfb := f.sub.none hb
      exact q (.ref b) _ _ _ (p.trans (Pres.new hb f.sub)) (f.new hb) ⟨.tup (.inl (.inl upd_same)) (DpAll.mono (Sub.new hfb) _ _ h1), sz_tuple.mpr ⟨by omega, h2⟩⟩
    · cases h
  | .lst es, s, h => by
    simp only [okHE] at h; split at h
    · simp only [Bool.and_eq_true, decide_eq_true_eq] at h
      have ih := sndHEs es h.1
      refine PE.imp (pe_lst ih) fun σ H Q ⟨Hf, ρ, ω, env, m, x, A, y, e, q⟩ => ?_
      simp only [hE, Option.map_eq_some_iff] at e
      obtain ⟨zs, e1, rfl⟩ := e
      refine ⟨Hf, ρ, ω, env, m, x, A, zs, e1, fun vs H' Hf' ρ' p f r => ?_⟩
      have hlen := hEs_len h.1 e1
      have hl1 := r.len
      rw [List.length_map] at hl1
      have hsm := small1001 h.2
      obtain ⟨h1, h2⟩ := r.dats (datL_map zs)
      refine ⟨by omega, fun b hb => ?_⟩
      have hfb := f.sub.none hb
      exact q (.ref b) _ _ _ (p.trans (Pres.new hb f.sub)) (f.new hb) ⟨.lst (.inl (.inl upd_same)) (DpAll.mono (Sub.new hfb) _ _ h1), sz_list.mpr ⟨by omega, h2⟩⟩
    · cases h
  | .cmp o p q, s, h => by
    simp only [okHE] at h; split at h
    · simp only [Bool.and_eq_true] at h
      obtain ⟨⟨⟨h0, h1⟩, h2⟩, h3⟩ := h
      refine PE.imp (pe_cmpR (op_cmp (X := X.suite a ((a, oe) :: pn)) (by have := g.un; show X.A.units + 64 < cLine; omega) o _ h0) (sndHE p h1) (sndHE q h2) (mark_pl h3)) fun σ H Q ⟨Hf, ρ, ω, env, m, x, A, y, e, k0⟩ => ?_
      simp only [hE, Option.bind_eq_some_iff] at e
      obtain ⟨z1, e1, z2, e2, e3⟩ := e
      refine ⟨Hf, ρ, ω, env, m, x, A, z1, e1, fun v H1 Hf1 ρ1 p1 f1 r1 => ?_⟩
      have A1 := A.pres p1 f1
      refine ⟨Hf1, ρ1, ω, env, m, x, A1, z2, e2, fun w H2 Hf2 ρ2 p2 f2 r2 => ?_⟩
      have A2 := A1.pres p2 f2
      exact ⟨Hf2, ρ2, ω, σ, env, m, z1, z2, y, A2.at_, .inl (r1.pres p2), .inl r2, e3, fun v3 H3 Hf3 ρ3 p3 f3 r3 => k0 v3 H3 Hf3 ρ3 ((p1.trans p2).trans p3) f3 r3⟩
    · cases h
  | .and p q, s, h => by
    have fin : PE (X.suite a ((a, oe) :: pn)) s (tAndV (tX X.K i a cls d Ca fld (hE p)) (tX X.K i a cls d Ca fld (hE q))) → PE (X.suite a ((a, oe) :: pn)) s (tX X.K i a cls d Ca fld (hE (.and p q))) := fun l => by
      refine PE.imp l fun σ H Q ⟨Hf, ρ, ω, env, m, x, A, y, e, k0⟩ => ?_
      simp only [hE, Option.bind_eq_some_iff] at e
      obtain ⟨z, e1, e2⟩ := e
      refine ⟨Hf, ρ, ω, env, m, x, A, z, e1, fun v H1 Hf1 ρ1 p1 f1 r1 => ?_⟩
      cases z with
      | bool b =>
        cases r1.1
        refine ⟨b, rfl, ?_⟩
        cases b with
        | true =>
          rw [if_pos rfl]
          exact ⟨Hf1, ρ1, ω, env, m, x, A.pres p1 f1, y, e2, fun v H2 Hf2 ρ2 p2 f2 r2 => k0 v H2 Hf2 ρ2 (p1.trans p2) f2 r2⟩
        | false =>
          rw [if_neg (by simp)]
          cases e2
          exact k0 _ H1 Hf1 ρ1 p1 f1 ⟨.bl _, rfl⟩
      | _ => cases e2
    simp only [okHE] at h; split at h
    · simp only [Bool.and_eq_true] at h
      exact fin (pe_and (sndHE p h.1) (pe_one (op := .And) (sndHE q h.2)))
    · simp only [Bool.and_eq_true] at h
      exact fin (pe_and (sndHE p h.1) (sndHE q h.2))
    · cases h
  | .nt p, s, h => by
    simp only [okHE] at h; split at h
    · refine PE.imp (pe_not (sndHE p h)) fun σ H Q ⟨Hf, ρ, ω, env, m, x, A, y, e, k0⟩ => ?_
      simp only [hE, Option.bind_eq_some_iff] at e
      obtain ⟨z, e1, e2⟩ := e
      refine ⟨Hf, ρ, ω, env, m, x, A, z, e1, fun v H1 Hf1 ρ1 p1 f1 r1 => ?_⟩
      cases z with
      | bool b =>
        cases r1.1
        cases e2
        exact ⟨b, rfl, k0 _ H1 Hf1 ρ1 p1 f1 ⟨.bl _, rfl⟩⟩
      | _ => cases e2
    · cases h
theorem sndHEs : ∀ (es : HEs) {l : List Expr}, okHEs G N c n fld k es l = true → PA (X.suite a ((a, oe) :: pn)) l (tXs X.K i a cls d Ca fld (hEs es))
  | .nil, l, h => by
    cases l with
    | nil =>
      refine PA.imp pa_nil fun σ H Q ⟨Hf, ρ, ω, env, m, x, A, zs, e, q⟩ => ?_
      cases e
      exact q [] H Hf ρ (Pres.refl _ _ _) A.at_.fine trivial
    | cons _ _ => simp [okHEs] at h
  | .cons e es, l, h => by
    cases l with
    | nil => simp [okHEs] at h
    | cons y r =>
      simp only [okHEs, Bool.and_eq_true] at h
      obtain ⟨⟨h1, h2⟩, h3⟩ := h
      refine PA.imp (pa_cons (sndHE e h1) (sndHEs es h3) (star_pl h2)) fun σ H Q ⟨Hf, ρ, ω, env, m, x, A, zs, e1, q⟩ => ?_
      simp only [hEs, Option.bind_eq_some_iff, Option.map_eq_some_iff] at e1
      obtain ⟨z, e2, zr, e3, rfl⟩ := e1
      refine ⟨Hf, ρ, ω, env, m, x, A, z, e2, fun v H' Hf' ρ' p f r1 => ?_⟩
      refine ⟨Hf', ρ', ω, env, m, x, A.pres p f, zr, e3, fun vs H2 Hf2 ρ2 p2 f2 r2 => ?_⟩
      exact q (v :: vs) H2 Hf2 ρ2 (p.trans p2) f2 ⟨r1.pres p2, r2⟩
end
/-- where a suite goes -/
def tHS (K : PySem.W.Frag) (i : Nat) (a : Addr) (cls : Value) (d : Option Addr) (Ca : Addr) (fld : Str) (hs : List HS) : TS := fun D σ H => ∃ Hf ρ ω env m x, AtX K H σ Hf ρ ω env m i a cls d Ca fld x ∧ ∃ fl, hSs hs x env = some fl ∧
  ∀ H' Hf' ρ', Pres H Hf ρ H' Hf' ρ' → Fine K H' Hf' ρ' m → endF D K σ H' Hf' ρ' fl
end
end Eng

set_option Elab.async false
set_option linter.all false
set_option maxRecDepth 100000
set_option maxHeartbeats 2000000
/-! A lambda handed to a def that calls it within a try. -/
namespace LamX
open PySem PySem.Spec PyProof.Rows L2
/-- what the making of a lambda does to the abstract heap -/
def LamStep (P : Addr) (q : Str) (H H1 : Hp) : Prop := H1 = H ∨ ∃ (ps more : Array Value) (c' : Addr), H P = some (.tbl ps) ∧ H c' = none ∧ H1 = upd (upd H P (.tbl (ps ++ more))) c' (CodeO c' q) ∧ TriplesOk (ps ++ more).toList ∧
  ∀ (pos : Pos) (cv : Value), codeAmong pos (ps ++ more).toList = some cv → codeAmong pos ps.toList = some cv ∨ cv = .ref c'
section
variable {X : Cx} {pins : List (Addr × Obj)} {σ : L2.St} {H HZ : Hp} {s s1 : Shared}
end
end LamX
namespace Eng
open PySem PySem.Spec PyProof.Rows L2 LamX
section
variable {G : Cfg} {N : List Str} {C : Calls} {XR : XRel} {X : Cx} {W : WX} {c : Sc}
mutual
theorem hE_rep {x d : PyData} {n : Nat} : ∀ {e : HE}, hE e x [] = some d → hE e x (List.replicate n .no) = some d
  | .cst _, h => h
  | .fld, h => h
  | .var j, h => by simp [hE] at h
  | .rep e, h => by
    simp only [hE, Option.bind_eq_some_iff] at h ⊢
    obtain ⟨z, h1, h2⟩ := h
    exact ⟨z, hE_rep h1, h2⟩
  | .isx _ _, h => h
  | .tup es, h => by
    simp only [hE, Option.map_eq_some_iff] at h ⊢
    obtain ⟨z, h1, h2⟩ := h
    exact ⟨z, hEs_rep h1, h2⟩
  | .lst es, h => by
    simp only [hE, Option.map_eq_some_iff] at h ⊢
    obtain ⟨z, h1, h2⟩ := h
    exact ⟨z, hEs_rep h1, h2⟩
  | .cmp o a b, h => by
    simp only [hE, Option.bind_eq_some_iff] at h ⊢
    obtain ⟨z, h1, z2, h2, h3⟩ := h
    exact ⟨z, hE_rep h1, z2, hE_rep h2, h3⟩
  | .and a b, h => by
    simp only [hE, Option.bind_eq_some_iff] at h ⊢
    obtain ⟨z, h1, h2⟩ := h
    refine ⟨z, hE_rep h1, ?_⟩
    split at h2
    · exact hE_rep h2
    · exact h2
    · cases h2
  | .nt a, h => by
    simp only [hE, Option.bind_eq_some_iff] at h ⊢
    obtain ⟨z, h1, h2⟩ := h
    exact ⟨z, hE_rep h1, h2⟩
theorem hEs_rep {x : PyData} {ds : List PyData} {n : Nat} : ∀ {es : HEs}, hEs es x [] = some ds → hEs es x (List.replicate n .no) = some ds
  | .nil, h => h
  | .cons e es, h => by
    simp only [hEs, Option.bind_eq_some_iff, Option.map_eq_some_iff] at h ⊢
    obtain ⟨z, h1, z2, h2, h3⟩ := h
    exact ⟨z, hE_rep h1, z2, hEs_rep h2, h3⟩
end
/-- what becomes of the value that was got -/
def endM (K : PySem.W.Frag) (md : HM) (D : Ends) (σ : L2.St) (v : V) (H : Hp) : Prop := match md with
  | .ret => D.rt v H
  | .exp => D.nx σ H
  | .exr d => ∀ w, (∀ H, Dp K H w d) → szOk d = true → D.rt w H
  | .tup z => ∀ w, (∀ H, Dp K H w (.str z)) → szOk (.str z) = true → ∀ p, H p = none → D.rt (.ref p) (upd H p (.tup [w, v]))
  | .lst z => ∀ w, (∀ H, Dp K H w (.str z)) → szOk (.str z) = true → ∀ p, H p = none → D.rt (.ref p) (upd H p (.lst [w, v]))
def tMd (K : PySem.W.Frag) (md : HM) (f c' : Addr) (q : Str) (tl : XK → Hp → VK → Prop) (W : WX) : TS := fun D σ H => ∃ Ech : XK, (∀ cls d σ' H', Ech cls d H' → σ'.length = 2 → W cls d σ' H') ∧ σ[0]? = some (some (.ref f)) ∧ H c' = some (CodeO c' q) ∧ tl Ech H (endM K md D σ)
/-- what is asked of the lambda's reading -/
def TTh (K : PySem.W.Frag) (XR : XRel) (fe : Env → Mem → R U) (hd : HD) : (XK → Hp → VK → Prop) → Hp → VK → Prop := fun tl H Q => ∃ (σ : L2.St) (Hf : Hp) (ρ : List Addr) (ω : Nat → Addr) (env : Env) (m : Mem) (u : U) (m' : Mem), At K H σ Hf ρ ω env m ∧
  tl = (fun E H' Q' => tU K XR (fun cls d _ H => E cls d H) fe σ H' Q') ∧ hearGo hd (fe env m) = .ok u m' ∧ ∀ v H' Hf' ρ', Pres H Hf ρ H' Hf' ρ' → Fine K H' Hf' ρ' m' → RepU K Hf' ρ' v u → Q v H'
end
end Eng

set_option Elab.async false
set_option linter.all false
set_option maxRecDepth 100000
set_option maxHeartbeats 1000000
/-! xs.index(d) -/
namespace Eng
open PySem PySem.Spec PyProof.Rows L2
variable {G : Cfg} {N : List Str} {C : Calls} {XR : XRel} {X : Cx} {W : WX} {c : Sc}
end Eng

set_option Elab.async false
set_option linter.all false
set_option maxRecDepth 100000
set_option maxHeartbeats 4000000
/-! Expressions: THE LAW. -/
namespace Eng
open PySem PySem.Spec PyProof.Rows L2
section
variable {G : Cfg} {N : List Str} {C : Calls} {XR : XRel}
mutual
theorem snd : ∀ (e : E) {X : Cx} {W : WX} {c : Sc} {s : Expr}, GX G N C XR X W c → okE G N e c s = true → Both X XR W s (evE C e)
  | .cst d, X, W, c, s, g, h => by
    simp only [okE] at h; split at h
    · obtain ⟨v, h1, h2, h3⟩ := cst_pe h
      exact both (pe_sc h1 h2 h3 fun _ _ => rfl) fun _ => rfl
    · cases h
  | .glb x d, X, W, c, s, g, h => by
    simp only [okE] at h; split at h
    · rename_i y p
      simp only [Bool.and_eq_true, decide_eq_true_eq, List.any_eq_true] at h
      obtain ⟨⟨rfl, h2⟩, q, h3, h4, h5⟩ := h
      obtain ⟨q1, q2⟩ := g.glo h2
      obtain ⟨x', d'⟩ := q
      simp only at h4 h5
      subst h4
      obtain ⟨u, e1, e2⟩ := g.gl _ _ h3
      obtain ⟨z, z1, z2, z3⟩ := e2 d h5
      exact both (pe_sc (pe_glob q1 e1 z1 q2) z2 z3 fun _ _ => rfl) fun _ => rfl
    · cases h
  | .var i, X, W, c, s, g, h => by
    simp only [okE] at h; split at h
    · simp only [Bool.and_eq_true, decide_eq_true_eq] at h
      exact both (pe_nameU g h.1 h.2) fun _ => rfl
    · cases h
  | .bv i, X, W, c, s, g, h => ⟨pe_never (bad_never fun _ _ => rfl), pt_bad fun σ H Q ⟨Hf, ρ, ω, env, m, a, o⟩ => o⟩
  | .tup es, X, W, c, s, g, h => by
    simp only [okE] at h; split at h
    · simp only [Bool.and_eq_true, decide_eq_true_eq] at h
      exact both (rl_tup (sndA es g h.1) fun σ m us m' hu => by rw [evEs_len' h.1 hu]; exact h.2) fun _ => rfl
    · cases h
  | .lst es, X, W, c, s, g, h => by
    simp only [okE] at h; split at h
    · simp only [Bool.and_eq_true, decide_eq_true_eq] at h
      exact both (PE.frz (rl_lst (sndA es g h.1) fun σ m us m' hu => by rw [evEs_len' h.1 hu]; exact h.2)) fun _ => rfl
    · cases h
  | .newl es, X, W, c, s, g, h => by
    simp only [okE] at h; split at h
    · simp only [Bool.and_eq_true, decide_eq_true_eq] at h
      exact both (rl_newl (sndA es g h.1) fun σ m us m' hu => by rw [evEs_len' h.1 hu]; exact h.2) fun _ => rfl
    · cases h
  | .lmul es k, X, W, c, s, g, h => by
    simp only [okE] at h; split at h
    · simp only [Bool.and_eq_true, decide_eq_true_eq] at h
      obtain ⟨⟨h1, h2⟩, h3⟩ := h
      exact both (PE.frz (rl_lmul (rl_lst (sndA es g h1) fun σ m us m' hu => by rw [evEs_len' h1 hu]; exact h2) (snd k g h3).1)) fun _ => rfl
    · cases h
  | .sortk a, X, W, c, s, g, h => by simp [okE] at h
  | .sset a, X, W, c, s, g, h => by simp [okE] at h
  | .lset a, X, W, c, s, g, h => by
    simp only [okE] at h; split at h
    · simp only [Bool.and_eq_true, decide_eq_true_eq] at h
      obtain ⟨⟨⟨⟨⟨h1, h2⟩, h3⟩, h4⟩, h5⟩, h6⟩ := h
      exact both (rl_lset g h1 h2 h3 h4 (snd a g h5).1 h6) fun _ => rfl
    · cases h
  | .bor i a, X, W, c, s, g, h => by simp [okE] at h
  | .dget i es, X, W, c, s, g, h => by simp [okE] at h
  | .newD1 k v, X, W, c, s, g, h => by
    simp only [okE] at h; split at h
    · simp only [Bool.and_eq_true] at h
      exact both (rl_newD1 (by have := g.un; omega) (snd k g h.1).1 (snd v g h.2).1) fun _ => rfl
    · cases h
  | .keysl a, X, W, c, s, g, h => by simp [okE] at h
  | .hear xs x y hd e, X, W, c, s, g, h => by simp [okE] at h
  | .idx a b, X, W, c, s, g, h => by simp [okE] at h
  | .dictP a, X, W, c, s, g, h => by simp [okE] at h
  | .lrng a, X, W, c, s, g, h => by simp [okE] at h
  | .dlen a, X, W, c, s, g, h => by simp [okE] at h
  | .newD, X, W, c, s, g, h => by simp [okE] at h
  | .din n a b, X, W, c, s, g, h => by
    simp only [okE] at h; split at h
    · simp only [Bool.and_eq_true] at h
      obtain ⟨⟨⟨h1, h2⟩, h3⟩, h4⟩ := h
      have hu : X.A.units + 64 < cLine := by have := g.un; omega
      split at h1
      · exact ⟨rl_din (snd a g h2).1 (snd b g h3).1 ((op_inE hu).or (op_inK hu)) h4, rt_din (snd a g h2).1 (snd b g h3).1 ((op_inE hu).or (op_inK hu)) h4⟩
      · exact ⟨rl_din (snd a g h2).1 (snd b g h3).1 ((op_notInE hu).or (op_notInK hu)) h4, rt_din (snd a g h2).1 (snd b g h3).1 ((op_notInE hu).or (op_notInK hu)) h4⟩
      · cases h1
    · cases h
  | .bin o a b, X, W, c, s, g, h => by
    simp only [okE] at h; split at h
    · simp only [Bool.and_eq_true] at h
      obtain ⟨⟨h1, h2⟩, h3⟩ := h
      exact both (rl_op (sndB g h2 (snd a g h2).1) (sndB g h3 (snd b g h3).1) (op_bin o _ h1)) fun _ => rfl
    · cases h
  | .ladd a b, X, W, c, s, g, h => by
    simp only [okE] at h; split at h
    · simp only [Bool.and_eq_true] at h
      exact both (PE.frz (rl_ladd (sndB g h.1 (snd a g h.1).1) (sndB g h.2 (snd b g h.2).1))) fun _ => rfl
    · cases h
  | .neg a, X, W, c, s, g, h => by simp [okE] at h
  | .not a, X, W, c, s, g, h => by
    simp only [okE] at h; split at h
    · exact ⟨rl_not (snd a g h).2 (snd a g h).1, rt_not (snd a g h).2⟩
    · cases h
  | .and a b, X, W, c, s, g, h => by
    simp only [okE] at h; split at h
    · simp only [Bool.and_eq_true] at h
      exact ⟨rl_and (snd a g h.1).1 (pe_one (snd b g h.2).1), (rt_and (snd a g h.1).2 (pw_and1 (snd b g h.2).2)).pt⟩
    · simp only [Bool.and_eq_true] at h
      exact ⟨rl_and (snd a g h.1).1 (snd b g h.2).1, (rt_and (snd a g h.1).2 (pw_any (snd b g h.2).2)).pt⟩
    · cases h
  | .or a b, X, W, c, s, g, h => by
    simp only [okE] at h; split at h
    · simp only [Bool.and_eq_true] at h
      exact ⟨rl_or (snd a g h.1).1 (pe_one (snd b g h.2).1), (rt_or (snd a g h.1).2 (pw_or1 (snd b g h.2).2)).pt⟩
    · simp only [Bool.and_eq_true] at h
      exact ⟨rl_or (snd a g h.1).1 (snd b g h.2).1, (rt_or (snd a g h.1).2 (pw_any (snd b g h.2).2)).pt⟩
    · cases h
  | .cmp o a b, X, W, c, s, g, h => by
    simp only [okE] at h; split at h
    · simp only [Bool.and_eq_true] at h
      obtain ⟨⟨⟨h1, h2⟩, h3⟩, h4⟩ := h
      have hu : X.A.units + 64 < cLine := by have := g.un; omega
      exact ⟨rl_cmp (sndB g h2 (snd a g h2).1) (sndB g h3 (snd b g h3).1) (op_cmp hu o _ h1) h4, rt_cmp (sndB g h2 (snd a g h2).1) (sndB g h3 (snd b g h3).1) (op_cmp hu o _ h1) h4⟩
    · cases h
  | .chain o o' a b d, X, W, c, s, g, h => by
    simp only [okE] at h; split at h
    · simp only [Bool.and_eq_true] at h
      obtain ⟨⟨⟨⟨⟨⟨h1, h2⟩, h3⟩, h4⟩, h5⟩, h6⟩, h7⟩ := h
      have hu : X.A.units + 64 < cLine := by have := g.un; omega
      exact ⟨rl_chain (sndB g h3 (snd a g h3).1) (sndB g h4 (snd b g h4).1) (sndB g h5 (snd d g h5).1) (op_cmp hu o _ h1) (op_cmp hu o' _ h2) h7, rt_chain (sndB g h3 (snd a g h3).1) (sndB g h4 (snd b g h4).1) (sndB g h5 (snd d g h5).1) (op_cmp hu o _ h1) (op_cmp hu o' _ h2) h7⟩
    · cases h
  | .iteN t a b, X, W, c, s, g, h => by
    simp only [okE] at h; split at h
    · rename_i l o r p y z pos
      simp only [Bool.and_eq_true] at h
      obtain ⟨⟨h1, h2⟩, h3⟩ := h
      exact ⟨rl_iteN (pos := pos) (snd t g h1).1 (snd a g h2).1 (snd b g h3).1, rt_iteN (pos := pos) (snd t g h1).1 (snd a g h2).2 (snd b g h3).2⟩
    · cases h
  | .ite t a b, X, W, c, s, g, h => by
    simp only [okE] at h; split at h
    · simp only [Bool.and_eq_true] at h
      obtain ⟨⟨h1, h2⟩, h3⟩ := h
      exact ⟨rl_ite (snd t g h1).2 (snd a g h2).1 (snd b g h3).1, rt_ite (snd t g h1).2 (snd a g h2).2 (snd b g h3).2⟩
    · cases h
  | .call f es, X, W, c, s, g, h => by
    simp only [okE] at h; split at h
    · simp only [Bool.and_eq_true, decide_eq_true_eq] at h
      obtain ⟨⟨⟨h1, h1b⟩, h2⟩, h3⟩ := h
      refine both (rl_call g h1 (by simpa using h1b) h2 (sndA es g h3) (fun e0 σ m => ?_) (plAll h3)) fun _ => rfl
      subst e0
      cases es with
      | nil => rfl
      | cons _ _ => simp [okEs] at h3
    · cases h
  | .callk f es ks perm, X, W, c, s, g, h => by
    simp only [okE] at h; split at h
    · simp only [Bool.and_eq_true, decide_eq_true_eq, List.any_eq_true] at h
      obtain ⟨⟨⟨⟨⟨h1, h2⟩, h3⟩, h4⟩, h5⟩, q, h6, h7⟩ := h
      subst h7
      refine both (rl_callk g h1 h2 (sndA es g h3) (fun e0 σ m => ?_) (plAll h3) (sndK ks g h4) (kws_some h5) h6 (fun σ m us m' hu => evEs_len' h3 hu) (fun σ m us m' hu => ?_)) fun _ => rfl
      · subst e0
        cases es with
        | nil => rfl
        | cons _ _ => simp [okEs] at h3
      · rw [evEs_len' h4 hu, List.length_map]
        have := congrArg List.length (kws_some h5)
        rw [List.length_map, List.length_map] at this
        exact this
    · cases h
  | .b1 f a, X, W, c, s, g, h => by
    simp only [okE] at h; split at h
    · simp only [Bool.and_eq_true, decide_eq_true_eq] at h
      obtain ⟨⟨⟨h1, h2⟩, h3⟩, h4⟩ := h
      exact both (rl_b1 g h1 h2 (sndB g h3 (snd a g h3).1) h4) fun _ => rfl
    · cases h
  | .b2 f a b, X, W, c, s, g, h => by simp [okE] at h
  | .isi a k, X, W, c, s, g, h => by
    simp only [okE] at h; split at h
    · simp only [Bool.and_eq_true, decide_eq_true_eq] at h
      obtain ⟨⟨⟨⟨rfl, h2⟩, h3⟩, h4⟩, h5⟩ := h
      exact both (rl_isi g h2 (snd a g h3).1 h4 h5) fun _ => rfl
    · cases h
  | .isi2 a k k', X, W, c, s, g, h => by
    simp only [okE] at h; split at h
    · simp only [Bool.and_eq_true, decide_eq_true_eq] at h
      obtain ⟨⟨⟨⟨⟨rfl, h2⟩, h3⟩, h4⟩, h5⟩, h6⟩ := h
      exact both (rl_isi2 g h2 (snd a g h3).1 h4 h5 h6) fun _ => rfl
    · cases h
  | .ix a i, X, W, c, s, g, h => by
    simp only [okE] at h; split at h
    · simp only [Bool.and_eq_true] at h
      obtain ⟨⟨h1, h2⟩, h3⟩ := h
      exact both (rl_ix (by have := g.un; omega) (sndB g h1 (snd a g h1).1) (snd i g h2).1 h3) fun _ => rfl
    · cases h
  | .rev a, X, W, c, s, g, h => by simp [okE] at h
  | .gd o x kvs nks a, X, W, c, s, g, h => by simp [okE] at h
  | .sl a lo hi, X, W, c, s, g, h => by simp [okE] at h
  | .comp elt tg it cond own, X, W, c, s, g, h => by
    simp only [okE] at h; split at h
    · simp only [Bool.and_eq_true] at h
      obtain ⟨⟨⟨⟨⟨⟨h1, h2⟩, h3⟩, h4⟩, h5⟩, h6⟩, h7⟩ := h
      refine both (PE.frz (rl_comp g (sndI it g h2) h1 h3 h4 h5 (fun X' g' e => by rw [← e]; exact (snd elt g' h6).1) fun X' g' e => by
        rw [← e]
        refine condOk ?_
        split at h7
        · exact h7
        · simp only [Bool.and_eq_true, Bool.not_eq_true'] at h7
          exact ⟨h7.1, (snd cond g' h7.2).2⟩
        · cases h7)) fun _ => rfl
    · cases h
  | .newRs tg it own, X, W, c, s, g, h => by
    simp only [okE] at h; split at h
    · simp only [Bool.and_eq_true] at h
      obtain ⟨⟨⟨⟨h1, h2⟩, h3⟩, h4⟩, h5⟩ := h
      exact both (rl_newRs g (sndI it g h2) h1 h3 h4 h5) fun _ => rfl
    · cases h
  | .popM i, X, W, c, s, g, h => by simp [okE] at h
  | .ssc elt tg it cond own, X, W, c, s, g, h => by simp [okE] at h
  | .comp2 elt tg it tg' it' cond own, X, W, c, s, g, h => by
    simp only [okE] at h; split at h
    · simp only [Bool.and_eq_true] at h
      obtain ⟨⟨⟨⟨⟨⟨⟨⟨⟨⟨h1, h2⟩, h3⟩, h4⟩, h5⟩, h6⟩, h7⟩, h8⟩, h9⟩, h10⟩, h11⟩ := h
      refine both (PE.frz (rl_comp2 g (sndI it g h2) h1 h3 h4 h5 (fun X' g' e => by rw [← e]; exact sndI it' g' h6) h7 h8 h9 (fun X' g' e => by rw [← e]; exact (snd elt g' h10).1) fun X' g' e => by
        rw [← e]
        refine condOk ?_
        split at h11
        · exact h11
        · simp only [Bool.and_eq_true, Bool.not_eq_true'] at h11
          exact ⟨h11.1, (snd cond g' h11.2).2⟩
        · cases h11)) fun _ => rfl
    · cases h
  | .no, X, W, c, s, g, h => by simp [okE] at h
theorem sndA : ∀ (es : Es) {X : Cx} {W : WX} {c : Sc} {ss : List Expr}, GX G N C XR X W c → okEs G N es c ss = true → PA X ss (tL X.K XR W (evEs C es))
  | .nil, X, W, c, ss, g, h => by
    cases ss with
    | nil => exact ra_nil
    | cons _ _ => simp [okEs] at h
  | .cons e es, X, W, c, ss, g, h => by
    cases ss with
    | nil => simp [okEs] at h
    | cons x xs =>
      simp only [okEs, Bool.and_eq_true] at h
      exact ra_cons (snd e g h.1.1).1 (sndA es g h.2) h.1.2
theorem sndK : ∀ (es : Es) {X : Cx} {W : WX} {c : Sc} {kws : List Keyword}, GX G N C XR X W c → okEs G N es c (kws.map (·.value)) = true → PK X kws (tL X.K XR W (evEs C es))
  | .nil, X, W, c, kws, g, h => by
    cases kws with
    | nil => exact rk_nil
    | cons _ _ => simp [okEs] at h
  | .cons e es, X, W, c, kws, g, h => by
    cases kws with
    | nil => simp [okEs] at h
    | cons x xs =>
      obtain ⟨nm, v, kp⟩ := x
      simp only [List.map_cons, okEs, Bool.and_eq_true] at h
      exact rk_cons (snd e g h.1.1).1 (sndK es g h.2)
theorem sndI : ∀ (it : It) {X : Cx} {W : WX} {c : Sc} {t i : Expr}, GX G N C XR X W c → okI G N it c t i = true → PI X t i (tI X.K XR W (evI C it))
  | .seq e, X, W, c, t, i, g, h => by
    simp only [okI] at h
    exact ri_seq (snd e g h).1
  | .rng1 a, X, W, c, t, i, g, h => by
    simp only [okI] at h; split at h
    · simp only [Bool.and_eq_true, decide_eq_true_eq] at h
      obtain ⟨⟨⟨rfl, h2⟩, h3⟩, h4⟩ := h
      exact ri_rng1 g h2 (snd a g h3).1 h4
    · cases h
  | .rng2 a b, X, W, c, t, i, g, h => by
    simp only [okI] at h; split at h
    · simp only [Bool.and_eq_true, decide_eq_true_eq] at h
      obtain ⟨⟨⟨⟨⟨rfl, h2⟩, h3⟩, h4⟩, h5⟩, h6⟩ := h
      exact ri_rng2 g h2 (snd a g h3).1 h4 (snd b g h5).1 h6
    · cases h
  | .enum a, X, W, c, t, i, g, h => by
    simp only [okI] at h; split at h
    · simp only [Bool.and_eq_true, decide_eq_true_eq] at h
      obtain ⟨⟨⟨⟨rfl, h2⟩, h3⟩, h4⟩, h5⟩ := h
      exact ri_enum g h2 (snd a g h3).1 h4 h5
    · cases h
  | .zip2 a b, X, W, c, t, i, g, h => by
    simp only [okI] at h; split at h
    · simp only [Bool.and_eq_true, decide_eq_true_eq] at h
      obtain ⟨⟨⟨⟨⟨⟨rfl, h2⟩, h3⟩, h4⟩, h5⟩, h6⟩, h7⟩ := h
      exact ri_zip g h2 (snd a g h3).1 h4 (snd b g h5).1 h6 h7
    · cases h
end
end
end Eng

set_option Elab.async false
set_option linter.all false
set_option maxRecDepth 100000
set_option maxHeartbeats 1000000
/-! Statements: the state, outcomes. -/
namespace Eng
open PySem PySem.Spec PyProof.Rows L2

/-- where a def's run began -/
structure Bs where
  H : Hp
  Hf : Hp
  ρ : List Addr
  Hb : Hp
structure StAt (K : PySem.W.Frag) (B : Bs) (σ : L2.St) (H Hf : Hp) (ρ : List Addr) (ω : Nat → Addr) (env : Env) (m : Mem) : Prop where
  fine0 : ∃ m0, Fine K B.H B.Hf B.ρ m0
  pres : Pres B.H B.Hf B.ρ H Hf ρ
  low : Sub B.Hb Hf
  at_ : At K H σ Hf ρ ω env m
  new : ∀ i xs, env[i]? = some (.own xs) → B.H (ω i) = none
def OutS (K : PySem.W.Frag) (XR : XRel) (W : WX) (B : Bs) (D : Ends) (r : R (F × Env)) : Prop :=
  match r with
  | .ok x m' => ∀ σ' H' Hf' ρ' ω', StAt K B σ' H' Hf' ρ' ω' x.2 m' → endF D K σ' H' Hf' ρ' x.1
  | .exc c x m' => ∀ cls d σ' H' Hf' ρ', Pres B.H B.Hf B.ρ H' Hf' ρ' → Fine K H' Hf' ρ' m' → XR H' Hf' ρ' c x cls d → W cls d σ' H'
  | .bad => False
def tS (K : PySem.W.Frag) (XR : XRel) (W : WX) (f : Env → Mem → R (F × Env)) : TS := fun D σ H => ∃ B Hf ρ ω env m, StAt K B σ H Hf ρ ω env m ∧ OutS K XR W B D (f env m)
section
variable {α β : Type} {K : PySem.W.Frag} {XR : XRel} {W : WX} {B : Bs} {D : Ends} {σ : L2.St} {H Hf : Hp} {ρ : List Addr} {ω : Nat → Addr} {env : Env} {m : Mem} {Rp : Hp → Hp → List Addr → β → α → Prop}
theorem StAt.step (s : StAt K B σ H Hf ρ ω env m) {H' Hf' : Hp} {ρ' : List Addr} {m' : Mem} (p : Pres H Hf ρ H' Hf' ρ') (f : Fine K H' Hf' ρ' m') : StAt K B σ H' Hf' ρ' ω env m' :=
  ⟨s.fine0, s.pres.trans p, s.low.trans p.fz, s.at_.pres p f, s.new⟩
theorem OutS.bindE {r : R α} {k : α → Mem → R (F × Env)} (s : StAt K B σ H Hf ρ ω env m) (h : OutS K XR W B D (r.bind k)) :
    OutE K XR W σ H Hf ρ Rp r fun v H1 => ∃ u Hf1 ρ1 m1, Pres H Hf ρ H1 Hf1 ρ1 ∧ StAt K B σ H1 Hf1 ρ1 ω env m1 ∧ Rp H1 Hf1 ρ1 v u ∧ OutS K XR W B D (k u m1) := by
  cases r with
  | ok u m' => exact fun v H' Hf' ρ' p f r => ⟨u, Hf', ρ', m', p, s.step p f, r, h⟩
  | exc c x m' => exact fun cls d H' Hf' ρ' p f x => h cls d σ H' Hf' ρ' (s.pres.trans p) f x
  | bad => exact h
/-- an expression first -/
theorem StAt.bindE {f : Env → Mem → R α} {k : α → Mem → R (F × Env)} (s : StAt K B σ H Hf ρ ω env m) (h : OutS K XR W B D ((f env m).bind k)) :
    tR K XR W Rp f σ H fun v H1 => ∃ u Hf1 ρ1 m1, Pres H Hf ρ H1 Hf1 ρ1 ∧ StAt K B σ H1 Hf1 ρ1 ω env m1 ∧ Rp H1 Hf1 ρ1 v u ∧ OutS K XR W B D (k u m1) :=
  ⟨Hf, ρ, ω, env, m, s.at_, OutS.bindE s h⟩
theorem StAt.bindF {f : Env → Mem → R U} {k : U → Mem → R (F × Env)} (s : StAt K B σ H Hf ρ ω env m) (h : OutS K XR W B D ((f env m).bind k)) :
    tF K XR W f σ H fun v H1 => ∃ u Hf1 ρ1 m1, Pres H Hf ρ H1 Hf1 ρ1 ∧ StAt K B σ H1 Hf1 ρ1 ω env m1 ∧ RF K H H1 Hf1 ρ1 v u ∧ OutS K XR W B D (k u m1) :=
  ⟨Hf, ρ, ω, env, m, s.at_, OutS.bindE s h⟩
theorem OutS.bindS {r : R (F × Env)} {k : F × Env → Mem → R (F × Env)} (h : OutS K XR W B D (r.bind k)) {D' : Ends}
    (hk : ∀ x m' σ' H' Hf' ρ' ω', r = .ok x m' → StAt K B σ' H' Hf' ρ' ω' x.2 m' → OutS K XR W B D (k x m') → endF D' K σ' H' Hf' ρ' x.1) : OutS K XR W B D' r := by
  cases r with
  | ok x m' => exact fun σ' H' Hf' ρ' ω' s => hk x m' σ' H' Hf' ρ' ω' rfl s h
  | exc c x m' => exact h
  | bad => exact h
theorem StAt.ok {x : F × Env} (s : StAt K B σ H Hf ρ ω x.2 m) (h : OutS K XR W B D (.ok x m)) : endF D K σ H Hf ρ x.1 := h σ H Hf ρ ω s
theorem setE_some {env env' : Env} {i : Nat} {sl : Sl} (h : setE env i sl = some env') : i < env.length ∧ env' = env.set i sl := by
  unfold setE at h
  split at h
  · cases h; exact ⟨by assumption, rfl⟩
  · cases h
theorem StAt.setV (s : StAt K B σ H Hf ρ ω env m) {i : Nat} {v : V} {u : U} (hi : i < env.length) (r : RepU K Hf ρ v u) : StAt K B (σ.set i (some v)) H Hf ρ ω (env.set i (.v u)) m :=
  ⟨s.fine0, s.pres, s.low, ⟨s.at_.fine, s.at_.slots.setV hi r⟩, fun j xs e => s.new j xs (set_own (fun _ e => by cases e) e)⟩
theorem set_get_own {env : Env} {i j : Nat} {xs ys : List PyData} (h : (env.set i (.own xs))[j]? = some (.own ys)) : (j = i ∧ ys = xs ∧ i < env.length) ∨ (j ≠ i ∧ env[j]? = some (.own ys)) := by
  rw [List.getElem?_set] at h
  by_cases hj : i = j
  · subst hj
    rw [if_pos rfl] at h
    split at h
    · cases h; exact .inl ⟨rfl, rfl, by assumption⟩
    · cases h
  · rw [if_neg hj] at h; exact .inr ⟨Ne.symm hj, h⟩
/-- a name gets a list of its own -/
theorem StAt.setOwn (s : StAt K B σ H Hf ρ ω env m) {i : Nat} {p : Addr} {vs : List V} {xs : List PyData} (hi : i < env.length) (h1 : H p = some (.lst vs)) (h2 : Hf p = none) (h3 : p ∉ ρ) (h4 : DpAll K Hf vs xs) (h5 : szOk (.list xs) = true)
    (h6 : ∀ j ys, env[j]? = some (.own ys) → ω j ≠ p) (h7 : B.H p = none) : StAt K B (σ.set i (some (.ref p))) H Hf ρ (fun j => if j = i then p else ω j) (env.set i (.own xs)) m := by
  have hl : i < σ.length := by rw [s.at_.slots.len]; exact hi
  refine ⟨s.fine0, s.pres, s.low, ⟨s.at_.fine, ⟨by rw [List.length_set, List.length_set]; exact s.at_.slots.len, fun j w e => ?_, fun j ys e => ?_, fun j k ys zs e e' he => ?_⟩⟩, fun j ys e => ?_⟩
  · rw [List.getElem?_set] at e ⊢
    by_cases hj : i = j
    · subst hj; rw [if_pos rfl, if_pos hi] at e; cases e
    · rw [if_neg hj] at e ⊢; exact s.at_.slots.val j w e
  · rcases set_get_own e with ⟨rfl, rfl, _⟩ | ⟨hj, e⟩
    · rw [List.getElem?_set, if_pos rfl, if_pos hl, if_pos rfl]
      exact ⟨rfl, h2, h3, ⟨vs, h1, h4⟩, h5⟩
    · rw [List.getElem?_set, if_neg (Ne.symm hj), if_neg hj]
      exact s.at_.slots.own j ys e
  · rcases set_get_own e with ⟨rfl, rfl, _⟩ | ⟨hj, ea⟩ <;> rcases set_get_own e' with ⟨rfl, rfl, _⟩ | ⟨hk, eb⟩
    · rfl
    · rw [if_pos rfl, if_neg hk] at he; exact absurd he.symm (h6 k zs eb)
    · rw [if_pos rfl, if_neg hj] at he; exact absurd he (h6 j ys ea)
    · rw [if_neg hj, if_neg hk] at he; exact s.at_.slots.inj j k ys zs ea eb he
  · rcases set_get_own e with ⟨rfl, rfl, _⟩ | ⟨hj, e⟩
    · rw [if_pos rfl]; exact h7
    · rw [if_neg hj]; exact s.new j ys e
theorem StAt.own_ne (s : StAt K B σ H Hf ρ ω env m) {p : Addr} (h : H p = none) {j : Nat} {ys : List PyData} (e : env[j]? = some (.own ys)) : ω j ≠ p := by
  obtain ⟨_, _, _, ⟨vs, e2, _⟩, _⟩ := s.at_.slots.own j ys e
  exact ne_of_none e2 h
theorem StAt.base_none (s : StAt K B σ H Hf ρ ω env m) {p : Addr} (h : H p = none) : B.H p = none := by
  obtain ⟨m0, f0⟩ := s.fine0
  exact Pres.none s.pres f0 s.at_.fine h
/-- a list of a name's own is written -/
theorem StAt.write (s : StAt K B σ H Hf ρ ω env m) {i : Nat} {vs : List V} {xs ys : List PyData} (e : env[i]? = some (.own xs)) (h4 : DpAll K Hf vs ys) (h5 : szOk (.list ys) = true) : StAt K B σ (upd H (ω i) (.lst vs)) Hf ρ ω (env.set i (.own ys)) m := by
  obtain ⟨q1, q2, q3, q4, q5⟩ := s.at_.slots.own i xs e
  have hn := s.new i xs e
  have hi : i < env.length := (List.getElem?_eq_some_iff.mp e).1
  refine ⟨s.fine0, ⟨s.pres.fz, s.pres.pre, fun a o h h1 h2 => ?_⟩, s.low, ⟨s.at_.fine.poke q2 q3, ⟨by rw [List.length_set]; exact s.at_.slots.len, fun j w e' => ?_, fun j zs e' => ?_, fun j k us zs e1 e2 he => ?_⟩⟩, fun j zs e' => ?_⟩
  · obtain ⟨a1, a2, a3⟩ := s.pres.kp a o h h1 h2
    exact ⟨by rw [upd_ne (ne_of_none h hn)]; exact a1, a2, a3⟩
  · rw [List.getElem?_set] at e'
    by_cases hj : i = j
    · subst hj; rw [if_pos rfl, if_pos hi] at e'; cases e'
    · rw [if_neg hj] at e'; exact s.at_.slots.val j w e'
  · rcases set_get_own e' with ⟨rfl, rfl, _⟩ | ⟨hj, e'⟩
    · exact ⟨q1, q2, q3, ⟨vs, upd_same, h4⟩, h5⟩
    · obtain ⟨a1, a2, a3, ⟨ws, a4, a5⟩, a6⟩ := s.at_.slots.own j zs e'
      exact ⟨a1, a2, a3, ⟨ws, by rw [upd_ne fun z => hj (s.at_.slots.inj j i zs xs e' e z)]; exact a4, a5⟩, a6⟩
  · rcases set_get_own e1 with ⟨rfl, rfl, _⟩ | ⟨hj, ea⟩ <;> rcases set_get_own e2 with ⟨rfl, rfl, _⟩ | ⟨hk, eb⟩
    · rfl
    · exact s.at_.slots.inj _ _ _ _ e eb he
    · exact s.at_.slots.inj _ _ _ _ ea e he
    · exact s.at_.slots.inj _ _ _ _ ea eb he
  · rcases set_get_own e' with ⟨rfl, rfl, _⟩ | ⟨hj, e'⟩
    · exact hn
    · exact s.new j zs e'
/-- .. is frozen -/
theorem StAt.frz (s : StAt K B σ H Hf ρ ω env m) {i : Nat} {xs : List PyData} (e : env[i]? = some (.own xs)) : ∃ Hf', StAt K B σ H Hf' ρ ω (env.set i (.v (.dat (.list xs)))) m := by
  obtain ⟨q1, q2, q3, ⟨vs, q4, q5⟩, q6⟩ := s.at_.slots.own i xs e
  have hn := s.new i xs e
  have hi : i < env.length := (List.getElem?_eq_some_iff.mp e).1
  have sb : Sub Hf (upd Hf (ω i) (.lst vs)) := Sub.new q2
  refine ⟨upd Hf (ω i) (.lst vs), s.fine0, ⟨s.pres.fz.trans sb, s.pres.pre, fun a o h h1 h2 => ?_⟩, s.low.trans sb, ⟨s.at_.fine.freeze q4 q2 q3, ⟨by rw [List.length_set]; exact s.at_.slots.len, fun j w e' => ?_, fun j zs e' => ?_, fun j k us zs e1 e2 he => ?_⟩⟩, fun j zs e' => ?_⟩
  · obtain ⟨a1, a2, a3⟩ := s.pres.kp a o h h1 h2
    exact ⟨a1, by rw [upd_ne (ne_of_none h hn)]; exact a2, a3⟩
  · rw [List.getElem?_set] at e'
    by_cases hj : i = j
    · subst hj; rw [if_pos rfl, if_pos hi] at e'; cases e'
      exact ⟨_, q1, .lst (.inl (.inl upd_same)) (DpAll.mono sb _ _ q5), q6⟩
    · rw [if_neg hj] at e'
      obtain ⟨v, a1, a2⟩ := s.at_.slots.val j w e'
      refine ⟨v, a1, ?_⟩
      cases w with
      | dat d => exact ⟨Dp.mono sb _ _ a2.1, a2.2⟩
      | ref k => exact a2
  · have hj : i ≠ j := fun z => by subst z; rw [List.getElem?_set, if_pos rfl, if_pos hi] at e'; cases e'
    have e'' := set_own (fun _ e => by cases e) e'
    obtain ⟨a1, a2, a3, ⟨ws, a4, a5⟩, a6⟩ := s.at_.slots.own j zs e''
    exact ⟨a1, by rw [upd_ne fun z => hj (s.at_.slots.inj j i zs xs e'' e z).symm]; exact a2, a3, ⟨ws, a4, DpAll.mono sb _ _ a5⟩, a6⟩
  · exact s.at_.slots.inj j k us zs (set_own (fun _ e => by cases e) e1) (set_own (fun _ e => by cases e) e2) he
  · exact s.new j zs (set_own (fun _ e => by cases e) e')
/-- an object that is shared is written -/
theorem StAt.setN (s : StAt K B σ H Hf ρ ω env m) {q : Nat} {a : Addr} {w : HO} {ob' : MObj} (e : ρ[q]? = some a) (hob : MAt K (upd H a w) Hf ρ a ob') : StAt K B σ (upd H a w) Hf ρ ω env (m.set q ob') := by
  have hm : a ∈ ρ := List.mem_of_getElem? e
  have hf : Hf a = none := s.at_.fine.un a hm
  have hq : q < ρ.length := (List.getElem?_eq_some_iff.mp e).1
  refine ⟨s.fine0, ⟨s.pres.fz, s.pres.pre, fun b o h h1 h2 => ?_⟩, s.low, ⟨⟨fun b x eb => ?_, s.at_.fine.nd, s.at_.fine.un, by rw [List.length_set]; exact s.at_.fine.len, fun i b ob e1 e2 => ?_⟩, ⟨s.at_.slots.len, s.at_.slots.val, fun j zs e' => ?_, s.at_.slots.inj⟩⟩, s.new⟩
  · obtain ⟨a1, a2, a3⟩ := s.pres.kp b o h h1 h2
    exact ⟨by rw [upd_ne fun z => a3 (by rw [z]; exact hm)]; exact a1, a2, a3⟩
  · have : b ≠ a := fun z => by rw [z, hf] at eb; cases eb
    rw [upd_ne this]; exact s.at_.fine.sub _ _ eb
  · by_cases hi : q = i
    · subst hi
      rw [e] at e1; cases e1
      rw [List.getElem?_set, if_pos rfl, if_pos (by rw [← s.at_.fine.len]; exact hq)] at e2
      cases e2
      exact hob
    · rw [List.getElem?_set, if_neg hi] at e2
      have hb : b ≠ a := fun z => by
        subst z
        have hil : i < ρ.length := (List.getElem?_eq_some_iff.mp e1).1
        have h1 := (List.getElem?_eq_some_iff.mp e).2
        have h2 := (List.getElem?_eq_some_iff.mp e1).2
        exact hi ((List.getElem_inj s.at_.fine.nd).mp (h1.trans h2.symm))
      have k := s.at_.fine.at_ i b ob e1 e2
      cases ob with
      | lst xs => obtain ⟨ws, k1, k2, k3⟩ := k; exact ⟨ws, by rw [upd_ne hb]; exact k1, k2, k3⟩
      | dct xs => obtain ⟨ws, k1, k2, k3⟩ := k; exact ⟨ws, by rw [upd_ne hb]; exact k1, k2, k3⟩
      | kd xs => obtain ⟨ws, k1, k2, k3⟩ := k; exact ⟨ws, by rw [upd_ne hb]; exact k1, k2, k3⟩
      | refs xs => obtain ⟨ws, k1, k2, k3⟩ := k; exact ⟨ws, by rw [upd_ne hb]; exact k1, k2, k3⟩
      | tab x => obtain ⟨k0, ps, k1, k2⟩ := k; exact ⟨k0, ps, by rw [upd_ne hb]; exact k1, k2⟩
  · obtain ⟨a1, a2, a3, ⟨ws, a4, a5⟩, a6⟩ := s.at_.slots.own j zs e'
    exact ⟨a1, a2, a3, ⟨ws, by rw [upd_ne fun z => a3 (by rw [z]; exact hm)]; exact a4, a5⟩, a6⟩
theorem StAt.setM (s : StAt K B σ H Hf ρ ω env m) {q : Nat} {a : Addr} {vs : List V} {ys : List PyData} (e : ρ[q]? = some a) (h4 : DpAll K Hf vs ys) (h5 : szOk (.list ys) = true) : StAt K B σ (upd H a (.lst vs)) Hf ρ ω env (m.set q (.lst ys)) :=
  s.setN e ⟨vs, upd_same, h4, h5⟩
end
end Eng

set_option Elab.async false
set_option linter.all false
set_option maxRecDepth 100000
set_option maxHeartbeats 1000000
/-! Statements: the check, the rules. -/
namespace Eng
open PySem PySem.Spec PyProof.Rows L2

def noLc : Expr → Bool
  | .ListComp .. => false
  | .SetComp .. => false
  | .DictComp .. => false
  | _ => true
def isF : E → Bool
  | .lst _ => true
  | .lmul _ _ => true
  | .ladd _ _ => true
  | .comp .. => true
  | .comp2 .. => true
  | .b1 .list _ => true
  | _ => false
def kindB (c : Sc) : Bool := match c.sc.kind with
  | .function => true
  | _ => false
def isRs : E → Bool
  | .newRs .. => true
  | _ => false
def swC (c : Sc) (x : Str) (px : Pos) : Expr → Bool
  | .ListComp _ _ scope vp => decide (c.sc.names.lookup x = some .cell) || ((px.line == vp.line) && decide (c.sc.names.lookup x = some .local) && !(scope.names.any fun (n, k) => n == x && (k == .local || k == .cell)) && kindB c)
  | v => noLc v
def parB (N : List Str) (c : Sc) (i j : Nat) (x y : Str) (px py : Pos) (l r : Expr) : Bool :=
  decide (N[i]? = some x) && decide (N[j]? = some y) && decide (i ≠ j) && decide (c.sc.names.lookup x = some .local) && decide (c.sc.names.lookup y = some .local) && (py.line == px.line) && !(y == x) && kindB c &&
    !(foldedForSure 8 l && foldedForSure 8 r) && !(constantsAlone 8 l && constantsAlone 8 r) && pl l && pl r
def par3B (N : List Str) (c : Sc) (i j k : Nat) (x y z : Str) (px py pz : Pos) (l r t : Expr) : Bool :=
  decide (N[i]? = some x) && decide (N[j]? = some y) && decide (N[k]? = some z) && decide (i ≠ j) && decide (i ≠ k) && decide (j ≠ k) && decide (c.sc.names.lookup x = some .local) && decide (c.sc.names.lookup y = some .local) && decide (c.sc.names.lookup z = some .local) &&
    (py.line == px.line) && (pz.line == px.line) && !(y == x) && !(z == x) && !(z == y) && kindB c && !([l, r, t].all (foldedForSure 8)) && !([l, r, t].all (constantsAlone 8)) && pl l && pl r && pl t
def anyCell (c : Sc) (es : List Expr) : Bool := es.any fun
  | .Name x _ => decide (c.sc.names.lookup x = some .cell)
  | _ => false
def par3C (N : List Str) (c : Sc) (i j k : Nat) (x y z : Str) (px py pz : Pos) (l r t : Expr) : Bool :=
  decide (N[i]? = some x) && decide (N[j]? = some y) && decide (N[k]? = some z) && locB c x && locB c y && locB c z && anyCell c [.Name x px, .Name y py, .Name z pz] && pl l && pl r && pl t
def par2C (N : List Str) (c : Sc) (i j : Nat) (x y : Str) (px py : Pos) (l r : Expr) : Bool :=
  decide (N[i]? = some x) && decide (N[j]? = some y) && locB c x && locB c y && anyCell c [.Name x px, .Name y py] && pl l && pl r
theorem filterMap_lt {α β : Type} {f : α → Option β} : ∀ {l : List α}, (∃ x ∈ l, f x = none) → (l.filterMap f).length < l.length
  | [], h => by obtain ⟨x, hx, _⟩ := h; exact absurd hx (by simp)
  | y :: l, h => by
    have le : (l.filterMap f).length ≤ l.length := List.length_filterMap_le _ _
    rw [List.filterMap_cons]
    cases hy : f y with
    | none => simp only [List.length_cons]; omega
    | some z =>
      obtain ⟨x, hx, hn⟩ := h
      have : (l.filterMap f).length < l.length := filterMap_lt ⟨x, by
        rcases List.mem_cons.mp hx with e | hx
        · rw [e, hy] at hn; cases hn
        · exact hx, hn⟩
      simp only [List.length_cons]; omega
theorem sw_cell {c : Sc} {env : PySem.Env} {es : List Expr} {k : Nat} {tp : Pos} {v : Expr} (hs : env.scope = c.sc) (h : anyCell c es = true) : swappedStores [.Tuple es k tp] v env = pure none := by
  unfold swappedStores
  cases v <;> try rfl
  rename_i vs _ _
  dsimp only
  split
  · rfl
  · split
    · rfl
    · have key : ∀ line : Nat, (es.filterMap fun | .Name id pos => if env.kindOf id == some .local && pos.line == line then some id else none | _ => none).length < es.length := fun line => by
        refine filterMap_lt ?_
        obtain ⟨e, he, hc⟩ := List.any_eq_true.mp h
        refine ⟨e, he, ?_⟩
        cases e <;> try (simp at hc; done)
        rename_i x p
        have hc' : c.sc.names.lookup x = some .cell := of_decide_eq_true hc
        have kk : env.kindOf x = some .cell := by show env.scope.names.lookup x = _; rw [hs]; exact hc'
        simp [kk]
      have := key ((es.head?.map (·.pos.line)).getD 0)
      rw [if_pos (by
        rw [Bool.or_eq_true]
        exact .inl (by rw [bne_iff_ne]; exact Nat.ne_of_lt this))]
mutual
def okS (G : Cfg) (N : List Str) (c : Sc) : S → Stmt → Bool
  | .asg i e, s => match s with | .Assign [.Name x p] v _ => decide (N[i]? = some x) && locB c x && okE G N e c v && (noLc v || (isRs e && swC c x p v)) | _ => false
  | .own i e, s => match s with | .Assign [.Name x p] v _ => decide (N[i]? = some x) && locB c x && okE G N e c v && isF e && swC c x p v | _ => false
  | .frz _, _ => false
  | .asgT ts e, s => match s with | .Assign [.Tuple es _ _] v _ => okTgs N c ts es && okE G N e c v && (!isTp v || anyCell c es) | _ => false
  | .par2 i j a b, s => false
  | .par2o i j a b, s => match s with | .Assign [.Tuple [.Name x px, .Name y py] _ _] (.Tuple [l, r] _ _) _ => (parB N c i j x y px py l r || par2C N c i j x y px py l r) && okE G N a c l && okE G N b c r && isF b | _ => false
  | .par1o i j a b, s => false
  | .asgTo i j a b, s => false
  | .par2oo i j a b, s => false
  | .par3o i j k a b d, s => false
  | .par3z i j k a b d, s => false
  | .par3m i j k a b d, s => match s with | .Assign [.Tuple [.Name x px, .Name y py, .Name z pz] _ _] (.Tuple [l, r, t] _ _) _ => (par3B N c i j k x y z px py pz l r t || par3C N c i j k x y z px py pz l r t) && okE G N a c l && okE G N b c r && okE G N d c t && isF b | _ => false
  | .augO i ix o e, s => false
  | .setOP i ix j e, s => false
  | .setO i ix e, s => match s with | .Assign [.Subscript (.Name x _) k _] v _ => decide (N[i]? = some x) && visB c x && okE G N ix c k && pl k && okE G N e c v | _ => false
  | .setM r ix e, s => match s with | .Assign [.Subscript o k _] v _ => okE G N r c o && okE G N ix c k && pl k && okE G N e c v | _ => false
  | .app i e, s => match s with | .Expr (.Call (.Attribute (.Name x _) nm ap) [v] [] cp) _ => decide (nm = "append") && decide (N[i]? = some x) && visB c x && okE G N e c v && pl v && (ap.endLine == cp.line) | _ => false
  | .ext i e, s => false
  | .setO2 i ix ix2 e, s => false
  | .appM i e, s => false
  | .popO i j, s => false
  | .aug i o e, s => match s with | .AugAssign (.Name x _) op v _ => binB o op && decide (N[i]? = some x) && locB c x && okE G N e c v | _ => false
  | .expr e, s => match s with | .Expr v _ => okE G N e c v && noLc v | _ => false
  | .ife k t f, s => match s with | .If x a b _ => okE G N k c x && okSs G N c t a && okSs G N c f b | _ => false
  | .for_ tg it body, s => match s with | .For t i b [] _ => okTg N c tg t && okI G N it c t i && pl i && okSs G N c body b | _ => false
  | .whl k body, s => match s with | .While x b [] _ => okE G N k c x && okSs G N c body b | _ => false
  | .ret e, s => match s with | .Return (some v) _ => okE G N e c v | _ => false
  | .retN, s => match s with | .Return none _ => true | _ => false
  | .brk, s => match s with | .Break _ => true | _ => false
  | .cnt, s => match s with | .Continue _ => true | _ => false
  | .pass, s => match s with | .Pass _ => true | .Expr (.Constant (.str _) _ _) _ => true | _ => false
  | .raise k e, s => isNo e || (match s with
    | .Raise (some (.Call (.Name x _) [a] [] _)) none _ => (match G.cl[k]? with | some p => decide (p.1 = x) | none => false) && glB c x && okE G N e c a && pl a
    | _ => false)
  | .tryO md e k d, s => false
  | .tryX md e i k hs, s => false
def okSs (G : Cfg) (N : List Str) (c : Sc) : Ss → List Stmt → Bool
  | .nil, l => match l with | [] => true | _ => false
  | .cons s ss, l => match s with
    | .frz _ => okSs G N c ss l
    | _ => match l with
      | st :: r => okS G N c s st && okSs G N c ss r
      | [] => false
end
section
variable {G : Cfg} {N : List Str} {C : Calls} {XR : XRel} {X : Cx} {W : WX} {c : Sc} {L : Nat} {s e v : Expr} {pos : Pos}
/-- a fresh list -/
theorem sndF (g : GX G N C XR X W c) {a : E} (hf : isF a = true) (h : okE G N a c s = true) : PE X s (tF X.K XR W (evE C a)) := by
  cases a <;> simp only [isF, Bool.false_eq_true] at hf
  case lst es =>
    simp only [okE] at h; split at h
    · simp only [Bool.and_eq_true, decide_eq_true_eq] at h
      exact rl_lst (sndA es g h.1) fun σ m us m' hu => by rw [evEs_len' h.1 hu]; exact h.2
    · cases h
  case lmul es k =>
    simp only [okE] at h; split at h
    · simp only [Bool.and_eq_true, decide_eq_true_eq] at h
      obtain ⟨⟨h1, h2⟩, h3⟩ := h
      exact rl_lmul (rl_lst (sndA es g h1) fun σ m us m' hu => by rw [evEs_len' h1 hu]; exact h2) (snd k g h3).1
    · cases h
  case ladd a b =>
    simp only [okE] at h; split at h
    · simp only [Bool.and_eq_true] at h
      exact rl_ladd (sndB g h.1 (snd a g h.1).1) (sndB g h.2 (snd b g h.2).1)
    · cases h
  case b1 f a =>
    cases f <;> simp only [isF, Bool.false_eq_true] at hf
    simp only [okE] at h; split at h
    · simp only [Bool.and_eq_true, decide_eq_true_eq] at h
      obtain ⟨⟨⟨h1, h2⟩, h3⟩, h4⟩ := h
      subst h1
      exact rl_listF g h2 (sndB g h3 (snd a g h3).1) h4
    · cases h
  case comp elt tg it cond own =>
    simp only [okE] at h; split at h
    · simp only [Bool.and_eq_true] at h
      obtain ⟨⟨⟨⟨⟨⟨h1, h2⟩, h3⟩, h4⟩, h5⟩, h6⟩, h7⟩ := h
      refine (rl_comp g (sndI it g h2) h1 h3 h4 h5 (fun X' g' e => by rw [← e]; exact (snd elt g' h6).1) fun X' g' e => by
        rw [← e]
        refine condOk ?_
        split at h7
        · exact h7
        · simp only [Bool.and_eq_true, Bool.not_eq_true'] at h7
          exact ⟨h7.1, (snd cond g' h7.2).2⟩
        · cases h7)
    · cases h
  case comp2 elt tg it tg' it' cond own =>
    simp only [okE] at h; split at h
    · simp only [Bool.and_eq_true] at h
      obtain ⟨⟨⟨⟨⟨⟨⟨⟨⟨⟨h1, h2⟩, h3⟩, h4⟩, h5⟩, h6⟩, h7⟩, h8⟩, h9⟩, h10⟩, h11⟩ := h
      refine (rl_comp2 g (sndI it g h2) h1 h3 h4 h5 (fun X' g' e => by rw [← e]; exact sndI it' g' h6) h7 h8 h9 (fun X' g' e => by rw [← e]; exact (snd elt g' h10).1) fun X' g' e => by
        rw [← e]
        refine condOk ?_
        split at h11
        · exact h11
        · simp only [Bool.and_eq_true, Bool.not_eq_true'] at h11
          exact ⟨h11.1, (snd cond g' h11.2).2⟩
        · cases h11)
    · cases h
theorem GX.loc (g : GX G N C XR X W c) {x : Str} (h : locB c x = true) : Loc X.env.scope x ∧ (X.fn x = true ∨ X.env.scope.names.lookup x = some .local) := by
  unfold locB at h
  simp only [Bool.or_eq_true, Bool.and_eq_true, decide_eq_true_eq] at h
  rw [g.sc, g.fn]
  rcases h with h2 | ⟨h2, h3⟩
  · exact ⟨.inl h2, .inr h2⟩
  · exact ⟨.inr h2, .inl h3⟩
theorem sw_no {t : Option Expr} {l : Nat} {env : PySem.Env} (h : noLc v = true) : swapsWith v t l env = pure false := by
  cases v <;> first | rfl | simp [noLc] at h
theorem sw_set (g : GX G N C XR X W c) {i : Nat} {x : Str} {p sp : Pos} {te : TE} (h1 : N[i]? = some x) (h2 : locB c x = true) (h3 : noLc v = true) (he : PE X v te) : PS X (.Assign [.Name x p] v sp) (tAsg te (gName i)) :=
  ps_set g.nd (by rw [g.hN]; exact h1) (g.loc h2).1 he (sw_no h3) (g.loc h2).2
theorem s_asg {fe : Env → Mem → R U} {i : Nat} {st : Stmt} (h : PS X st (tAsg (tU X.K XR W fe) (gName i))) : PS X st (tS X.K XR W fun σ m => (fe σ m).bind fun u m1 => match setE σ i (.v u) with
    | some σ' => .ok (.nx, σ') m1
    | none => .bad) :=
  PS.imp h fun D σ H ⟨B, Hf, ρ, ω, env, m, s, o⟩ => by
    obtain ⟨A, B', D', E, F', a1, o1⟩ := s.bindE (Rp := RU X.K) o
    refine ⟨A, B', D', E, F', a1, o1.mono fun v H1 ⟨u, Hf1, ρ1, m1, p, s1, r, o1⟩ => ?_⟩
    cases hs : setE env i (.v u) with
    | none => rw [hs] at o1; exact o1.elim
    | some env' =>
      rw [hs] at o1
      obtain ⟨hi, rfl⟩ := setE_some hs
      exact (s1.setV hi r).ok (x := (F.nx, _)) o1
theorem s_own {fe : Env → Mem → R U} {i : Nat} {st : Stmt} (h : PS X st (tAsg (tF X.K XR W fe) (gName i))) : PS X st (tS X.K XR W fun σ m => (fe σ m).bind fun u m1 => match u with
    | .dat (.list xs) => match setE σ i (.own xs) with
      | some σ' => .ok (.nx, σ') m1
      | none => .bad
    | _ => .bad) :=
  PS.imp h fun D σ H ⟨B, Hf, ρ, ω, env, m, s, o⟩ => by
    obtain ⟨A, B', D', E, F', a1, o1⟩ := s.bindF o
    refine ⟨A, B', D', E, F', a1, o1.mono fun v H1 ⟨u, Hf1, ρ1, m1, p, s1, r, o1⟩ => ?_⟩
    obtain ⟨q, vs, xs, rfl, rfl, h0, h1, h2, h3, h4, h5⟩ := r
    cases hs : setE env i (.own xs) with
    | none => simp only [hs] at o1; exact o1.elim
    | some env' =>
      simp only [hs] at o1
      obtain ⟨hi, rfl⟩ := setE_some hs
      exact (s1.setOwn hi h1 h2 h3 h4 h5 (fun j ys e => s.own_ne h0 e) (s.base_none h0)).ok (x := (F.nx, _)) o1
theorem s_asgT (g : GX G N C XR X W c) {fe : Env → Mem → R U} {ts : List Tg} {es : List Expr} {k : Nat} {tp sp : Pos} (ht : okTgs N c ts es = true) (he : PE X v (tU X.K XR W fe)) (hv : isTp v = false ∨ anyCell c es = true) : PS X (.Assign [.Tuple es k tp] v sp) (tS X.K XR W fun σ m => (fe σ m).bind fun u m1 => match u with
    | .dat (.tuple ds) => match asgTgs ts ds σ with
      | some σ' => .ok (.nx, σ') m1
      | none => .bad
    | .dat (.list ds) => match asgTgs ts ds σ with
      | some σ' => .ok (.nx, σ') m1
      | none => .bad
    | _ => .bad) := by
  have hs : swapsWithSole [.Tuple es k tp] v sp.line X.env = pure false := by
    show swapsWith v (some (.Tuple es k tp)) sp.line X.env = _
    cases v <;> rfl
  have hw : swappedStores [.Tuple es k tp] v X.env = pure none := by
    rcases hv with hv | hv
    · cases v <;> first | rfl | (simp [isTp] at hv)
    · exact sw_cell g.sc hv
  refine PS.imp (ps_asg he (pg_or (pg_T (tg := .tp ts) g ht) (pg_TL g ht)) hs hw rfl) fun D σ H ⟨B, Hf, ρ, ω, env, m, s, o⟩ => ?_
  obtain ⟨A, B', D', E, F', a1, o1⟩ := s.bindE (Rp := RU X.K) o
  refine ⟨A, B', D', E, F', a1, o1.mono fun v H1 ⟨u, Hf1, ρ1, m1, p, s1, r, o1⟩ => ?_⟩
  cases u with
  | ref i => exact o1.elim
  | dat d =>
    cases d with
    | tuple ds =>
      simp only at o1
      cases ha : asgTgs ts ds env with
      | none => rw [ha] at o1; exact o1.elim
      | some env' =>
        rw [ha] at o1
        exact .inl (gT_ok (tg := .tp ts) s1.at_ r.1 r.2 ha fun σ' a' _ => StAt.ok (x := (F.nx, env')) ⟨s1.fine0, s1.pres, s1.low, a', fun j xs e => s1.new j xs (asgTgs_own ha e)⟩ o1)
    | list ds =>
      simp only at o1
      cases ha : asgTgs ts ds env with
      | none => rw [ha] at o1; exact o1.elim
      | some env' =>
        rw [ha] at o1
        exact .inr ⟨_, _, _, _, _, ds, env', s1.at_, r.1, r.2, ha, fun σ' a' _ => StAt.ok (x := (F.nx, env')) ⟨s1.fine0, s1.pres, s1.low, a', fun j xs e => s1.new j xs (asgTgs_own ha e)⟩ o1⟩
    | _ => exact (o1 : False).elim
end
end Eng

set_option Elab.async false
set_option linter.all false
set_option maxRecDepth 100000
set_option maxHeartbeats 1000000
/-! Statements: the rules, on. -/
namespace Eng
open PySem PySem.Spec PyProof.Rows L2
theorem noStar2 {l r : Expr} (hpl : pl l = true) (hpr : pl r = true) : ([l, r].any fun | .Starred .. => true | _ => false) = false := by
  have : ∀ {e : Expr}, pl e = true → (match e with | .Starred .. => true | _ => false) = false := fun {e} h => by cases e <;> first | rfl | simp [pl] at h
  simp only [List.any_cons, List.any_nil, this hpl, this hpr]; rfl
theorem dups2 {x y : Str} (h : (y == x) = false) : [x, y].eraseDups.length = 2 := by
  simp [List.eraseDups_cons, h]
theorem sw_par {env : PySem.Env} {x y : Str} {px py pt pt2 : Pos} {kt k2 : Nat} {l r : Expr} (hk : env.scope.kind = .function) (hx : env.scope.names.lookup x = some .local) (hy : env.scope.names.lookup y = some .local) (hl : (py.line == px.line) = true) (hne : (y == x) = false)
    (hf : (foldedForSure 8 l && foldedForSure 8 r) = false) (hc : (constantsAlone 8 l && constantsAlone 8 r) = false) (hpl : pl l = true) (hpr : pl r = true) :
    swappedStores [.Tuple [.Name x px, .Name y py] kt pt] (.Tuple [l, r] k2 pt2) env = pure (some [x, y]) := by
  have kx : env.kindOf x = some .local := hx
  have ky : env.kindOf y = some .local := hy
  have hb : env.blockKind = .function := by unfold Env.blockKind; rw [hk]; rfl
  have hs := noStar2 hpl hpr
  have hd := dups2 hne
  have hf' : [l, r].all (foldedForSure 8) = false := by simpa using hf
  have hc' : [l, r].all (constantsAlone 8) = false := by simpa using hc
  have hn : ∀ f : Expr → Option Str, f (.Name x px) = some x → f (.Name y py) = some y → [Expr.Name x px, Expr.Name y py].filterMap f = [x, y] := fun f e1 e2 => by
    rw [List.filterMap_cons_some e1, List.filterMap_cons_some e2]; rfl
  unfold swappedStores
  dsimp only [List.length_cons, List.length_nil, List.head?_cons, Option.map_some, Option.getD_some, Expr.pos]
  rw [if_neg (by rw [hb]; decide), if_neg (fun z => by
    rw [List.any_eq_true] at z
    obtain ⟨e, he, hz⟩ := z
    have hp : pl e = true := by
      simp only [List.mem_cons, List.not_mem_nil, or_false] at he
      rcases he with rfl | rfl <;> assumption
    cases e <;> first | (simp [pl] at hp; done) | (simp at hz; done))]
  have hl' : py.line = px.line := beq_iff_eq.mp hl
  have hfa : ¬ (foldedForSure 8 l = true ∧ foldedForSure 8 r = true) := fun z => by rw [z.1, z.2] at hf; cases hf
  have hca : ¬ (constantsAlone 8 l = true ∧ constantsAlone 8 r = true) := fun z => by rw [z.1, z.2] at hc; cases hc
  simp [List.filterMap_cons, kx, ky, hl', hd, hfa, hca]
section
variable {G : Cfg} {N : List Str} {C : Calls} {XR : XRel} {X : Cx} {W : WX} {c : Sc} {L : Nat} {s e v : Expr} {pos : Pos}
theorem kindB_ok (g : GX G N C XR X W c) (h : kindB c = true) : X.env.scope.kind = .function := by
  rw [g.sc]
  unfold kindB at h
  split at h
  · assumption
  · cases h
theorem s_par2o (g : GX G N C XR X W c) {fa fb : Env → Mem → R U} {i j : Nat} {x y : Str} {px py pt pt2 sp : Pos} {kt k2 : Nat} {l r : Expr} (hp : parB N c i j x y px py l r = true) (ha : PE X l (tU X.K XR W fa)) (hb : PE X r (tF X.K XR W fb)) :
    PS X (.Assign [.Tuple [.Name x px, .Name y py] kt pt] (.Tuple [l, r] k2 pt2) sp) (tS X.K XR W fun σ m => (fa σ m).bind fun x m1 => (fb σ m1).bind fun y m2 => match y with
    | .dat (.list xs) => match (setE σ i (.v x)).bind fun σ' => setE σ' j (.own xs) with
      | some σ' => .ok (.nx, σ') m2
      | none => .bad
    | _ => .bad) := by
  unfold parB at hp
  simp only [Bool.and_eq_true, decide_eq_true_eq, Bool.not_eq_true'] at hp
  obtain ⟨⟨⟨⟨⟨⟨⟨⟨⟨⟨⟨h1, h2⟩, h3⟩, h4⟩, h5⟩, h6⟩, h7⟩, h8⟩, h9⟩, h10⟩, h11⟩, h12⟩ := hp
  have lx : X.env.scope.names.lookup x = some .local := by rw [g.sc]; exact h4
  have ly : X.env.scope.names.lookup y = some .local := by rw [g.sc]; exact h5
  refine PS.imp (ps_par g.calm g.nd (by rw [g.hN]; exact h1) (by rw [g.hN]; exact h2) h3 lx ly (pa_cons ha (pa_cons hb pa_nil (star_pl h12)) (star_pl h11)) (sw_par (kindB_ok g h8) lx ly h6 h7 h9 h10 h11 h12) rfl) fun D σ H ⟨B, Hf, ρ, ω, env, m, s, o⟩ => ?_
  obtain ⟨A, B', D', E, F', a1, o1⟩ := s.bindE (Rp := RU X.K) o
  refine ⟨A, B', D', E, F', a1, o1.mono fun x H1 ⟨u, Hf1, ρ1, m1, p, s1, r, o1⟩ => ?_⟩
  obtain ⟨A, B', D', E, F', a2, o2⟩ := s1.bindF o1
  refine ⟨A, B', D', E, F', a2, o2.mono fun y H2 ⟨u2, Hf2, ρ2, m2, p2, s2, r2, o2⟩ => ?_⟩
  obtain ⟨q, vs, xs, rfl, rfl, h0, k1, k2, k3, k4, k5⟩ := r2
  refine ⟨x, _, rfl, ?_⟩
  simp only at o2
  cases hs : (setE env i (.v u)).bind fun σ' => setE σ' j (.own xs) with
  | none => rw [hs] at o2; exact o2.elim
  | some env' =>
    rw [hs] at o2
    rw [Option.bind_eq_some_iff] at hs
    obtain ⟨e1, q1, q2⟩ := hs
    obtain ⟨hi, rfl⟩ := setE_some q1
    obtain ⟨hj, rfl⟩ := setE_some q2
    exact ((s2.setV hi (r.pres p2)).setOwn hj k1 k2 k3 k4 k5 (fun j ys e => s1.own_ne h0 (set_own (fun _ e => by cases e) e)) (s1.base_none h0)).ok (x := (F.nx, _)) o2
theorem asg_sub {o i : Expr} {p : Pos} {env : PySem.Env} (h : pl i = true) : ∀ v, assign (.Subscript o i p) env v = (do
      let ov ← holding [v] (eval o env)
      let iv ← holding [v, ov] (eval i env)
      standAt p
      holding [v, ov, iv] (setItem ov iv v)
      release [v, ov, iv] []) := by
  intro v
  cases i <;> first | rfl | simp [pl] at h
theorem sz_set {xs : List PyData} {d : PyData} {j : Nat} (h : szOk (.list xs) = true) (hd : szOk d = true) : szOk (.list (xs.set j d)) = true := by
  rw [sz_list] at h ⊢
  refine ⟨by rw [List.length_set]; exact h.1, ?_⟩
  rw [szAll_iff] at *
  intro e he
  rcases List.mem_or_eq_of_mem_set he with he | rfl
  · exact h.2 e he
  · exact hd
theorem s_setO (g : GX G N C XR X W c) {fe fi : Env → Mem → R U} {i : Nat} {x : Str} {p p2 sp : Pos} {k : Expr} (h1 : N[i]? = some x) (h2 : visB c x = true) (hk : pl k = true) (hi : PE X k (tU X.K XR W fi)) (he : PE X v (tU X.K XR W fe)) :
    PS X (.Assign [.Subscript (.Name x p) k p2] v sp) (tS X.K XR W fun σ m => (fe σ m).bind fun u m1 => match σ[i]? with
    | some (.own xs) => (fi σ m1).bind fun y m2 => setOGo σ i xs u y m2
    | _ => .bad) := by
  obtain ⟨v1, v2, v3⟩ := g.vis h2
  have hs : swapsWithSole [.Subscript (.Name x p) k p2] v sp.line X.env = pure false := by
    show swapsWith v (some (.Subscript (.Name x p) k p2)) sp.line X.env = _
    cases v <;> rfl
  refine PS.imp (ps_asg he (pg_sub (pe_var (i := i) (by rw [g.hN]; exact h1) v1 v2 v3) hi set_list (asg_sub hk)) hs (by cases v <;> rfl) rfl) fun D σ H ⟨B, Hf, ρ, ω, env, m, s, o⟩ => ?_
  obtain ⟨A, B', D', E, F', a1, o1⟩ := s.bindE (Rp := RU X.K) o
  refine ⟨A, B', D', E, F', a1, o1.mono fun x H1 ⟨u, Hf1, ρ1, m1, p, s1, r, o1⟩ => ?_⟩
  split at o1
  case h_2 => exact o1.elim
  rename_i xs e
  obtain ⟨q1, q2, q3, q4, q5⟩ := s1.at_.slots.own i xs e
  refine ⟨_, q1, ?_⟩
  obtain ⟨A, B', D', E, F', a2, o2⟩ := s1.bindE (Rp := RU X.K) o1
  refine ⟨A, B', D', E, F', a2, o2.mono fun y H2 ⟨u2, Hf2, ρ2, m2, p2, s2, r2, o2⟩ => ?_⟩
  have r := r.pres p2
  cases u with
  | ref i => exact (o2 : False).elim
  | dat d =>
  cases u2 with
  | ref i => exact (o2 : False).elim
  | dat d2 =>
  cases d2 with
  | int k =>
    simp only [setOGo] at o2
    cases hx : L2.ixN xs.length k with
    | none => rw [hx] at o2; exact o2.elim
    | some j =>
      rw [hx] at o2
      obtain ⟨q1, q2, q3, ⟨vs, q4, q6⟩, q5⟩ := s2.at_.slots.own i xs e
      cases r2.1
      refine ⟨ω i, vs, k, j, rfl, rfl, q4, by rw [q6.len]; exact hx, ?_⟩
      have s3 := s2.write e (DpAll.set j q6 r.1) (sz_set q5 r.2)
      have hσ : σ = σ := rfl
      exact StAt.ok (x := (F.nx, _)) s3 o2
  | _ => exact (o2 : False).elim
theorem PSet.or {r r' : TSet} (h : PSet X r) (h' : PSet X r') : PSet X (fun o i v H Q => r o i v H Q ∨ r' o i v H Q) := by
  intro pins s σ H o i v ov iv u Q I ro ri rv q
  rcases q with q | q
  · exact h pins s σ H o i v ov iv u Q I ro ri rv q
  · exact h' pins s σ H o i v ov iv u Q I ro ri rv q
theorem putN_len (kvs : List (NestedKey × PyData)) (k : NestedKey) (d : PyData) : (putN kvs k d).length ≤ kvs.length + 1 := by
  unfold putN
  split
  · rw [List.length_map]; omega
  · rw [List.length_append, List.length_singleton]; exact Nat.le_refl _
theorem putN_sz {kvs : List (NestedKey × PyData)} {k : NestedKey} {d : PyData} (h : ∀ p ∈ kvs, szOk p.2 = true ∧ szOk p.1.data = true) (hd : szOk d = true) (hk : szOk k.data = true) : ∀ p ∈ putN kvs k d, szOk p.2 = true ∧ szOk p.1.data = true := by
  unfold putN
  split
  · intro p hp
    obtain ⟨q, hq, rfl⟩ := List.mem_map.mp hp
    split
    · exact ⟨hd, (h q hq).2⟩
    · exact h q hq
  · intro p hp
    rcases List.mem_append.mp hp with hp | hp
    · exact h p hp
    · rw [List.mem_singleton.mp hp]; exact ⟨hd, hk⟩
theorem s_setM (g : GX G N C XR X W c) {fe fr fi : Env → Mem → R U} {p2 sp : Pos} {r k : Expr} (hk : pl k = true) (hr : PE X r (tU X.K XR W fr)) (hi : PE X k (tU X.K XR W fi)) (he : PE X v (tU X.K XR W fe)) :
    PS X (.Assign [.Subscript r k p2] v sp) (tS X.K XR W fun σ m => (fe σ m).bind fun u m1 => (fr σ m1).bind fun x m2 => (fi σ m2).bind fun y m3 => setMGo σ u x y m3) := by
  have hs : swapsWithSole [.Subscript r k p2] v sp.line X.env = pure false := by
    show swapsWith v (some (.Subscript r k p2)) sp.line X.env = _
    cases v <;> rfl
  have hu : X.A.units + 64 < cLine := by have := g.un; omega
  refine PS.imp (ps_asg he (pg_sub hr hi (PSet.or (PSet.or set_list (set_dic hu)) (set_dict (by omega))) (asg_sub hk)) hs (by cases v <;> rfl) rfl) fun D σ H ⟨B, Hf, ρ, ω, env, m, s, o⟩ => ?_
  obtain ⟨A, B', D', E, F', a1, o1⟩ := s.bindE (Rp := RU X.K) o
  refine ⟨A, B', D', E, F', a1, o1.mono fun x H1 ⟨u, Hf1, ρ1, m1, p, s1, r, o1⟩ => ?_⟩
  obtain ⟨A, B', D', E, F', a2, o2⟩ := s1.bindE (Rp := RU X.K) o1
  refine ⟨A, B', D', E, F', a2, o2.mono fun y H2 ⟨u2, Hf2, ρ2, m2, p2, s2, r2, o2⟩ => ?_⟩
  obtain ⟨A, B', D', E, F', a3, o3⟩ := s2.bindE (Rp := RU X.K) o2
  refine ⟨A, B', D', E, F', a3, o3.mono fun z H3 ⟨u3, Hf3, ρ3, m3, p3, s3, r3, o3⟩ => ?_⟩
  have r := (r.pres p2).pres p3
  have r2 := r2.pres p3
  cases u with
  | ref i => exact (o3 : False).elim
  | dat d =>
  cases u2 with
  | dat i => cases u3 with
    | ref _ => exact (o3 : False).elim
    | dat d3 => exact (o3 : False).elim
  | ref q =>
  cases u3 with
  | ref i => exact (o3 : False).elim
  | dat d3 =>
  simp only [setMGo] at o3
  cases hm : m3[q]? with
  | none => rw [hm] at o3; exact o3.elim
  | some ob =>
    obtain ⟨a, ea, rfl⟩ := r2
    rw [hm] at o3
    cases ob with
    | tab x => exact o3.elim
    | kd kvs =>
      cases d3 with
      | int k =>
        simp only at o3
        split at o3
        · rename_i hl
          obtain ⟨ws, e1, e2, e3⟩ := s3.at_.fine.at_ q a _ ea hm
          cases r3.1
          refine .inr ⟨a, _, rfl, .inl ⟨ws, Sum.inl k, e1, rfl, by rw [e2.len]; exact hl, rfl⟩, ?_⟩
          exact StAt.ok (x := (F.nx, _)) (s3.setN ea (ob' := .kd (putI kvs k d)) ⟨_, upd_same, e2.put r.1, fun p hp => by
            rcases putI_mem hp with z | z
            · rw [z]; exact r.2
            · exact e3 p z⟩) o3
        · exact o3.elim
      | _ => exact (o3 : False).elim
    | refs ks => exact (o3 : False).elim
    | lst xs =>
      cases d3 with
      | int k =>
        simp only at o3
        cases hx : L2.ixN xs.length k with
        | none => rw [hx] at o3; exact o3.elim
        | some j =>
          rw [hx] at o3
          cases r3.1
          obtain ⟨vs, e1, e2, e3⟩ := s3.at_.fine.at_ q a _ ea hm
          exact .inl (.inl ⟨a, vs, k, j, rfl, rfl, e1, by rw [e2.len]; exact hx, StAt.ok (x := (F.nx, _)) (s3.setM ea (DpAll.set j e2 r.1) (sz_set e3 r.2)) o3⟩)
      | _ => exact (o3 : False).elim
    | dct kvs =>
      simp only at o3
      cases hq : keyOfD d3 with
      | none => rw [hq] at o3; exact o3.elim
      | some kk =>
        rw [hq] at o3
        simp only at o3
        split at o3
        · rename_i hl
          obtain ⟨es, e1, e2, e3, e4, e5, e6⟩ := s3.at_.fine.at_ q a _ ea hm
          refine .inl (.inr ⟨a, es, kvs, d3, kk, d, Hf3, s3.at_.fine.sub, s3.at_.fine.un a (List.mem_of_getElem? ea), rfl, e1, e2, e3, e4, r3.1, hq, r.1, fun es' h1 h2 => ?_⟩)
          refine StAt.ok (x := (F.nx, _)) (s3.setN ea (ob' := .dct (putN kvs kk d)) ⟨es', upd_same, h1, h2, Nat.le_trans (putN_len _ _ _) hl, putN_sz e5 r.2 (by rw [(keyOfD_some hq).2.2.2.1]; exact r3.2), e6⟩) o3
        · exact o3.elim
theorem sz_push {xs : List PyData} {d : PyData} (h : szOk (.list xs) = true) (hd : szOk d = true) (hl : xs.length < sizeLine) : szOk (.list (xs ++ [d])) = true := by
  rw [sz_list] at h ⊢
  refine ⟨by rw [List.length_append, List.length_singleton]; omega, ?_⟩
  rw [szAll_iff] at *
  intro e he
  rcases List.mem_append.mp he with he | he
  · exact h.2 e he
  · rw [List.mem_singleton.mp he]; exact hd
theorem s_app (g : GX G N C XR X W c) {fe : Env → Mem → R U} {i : Nat} {x : Str} {p ap cp sp : Pos} (h1 : N[i]? = some x) (h2 : visB c x = true) (hv : pl v = true) (hl : (ap.endLine == cp.line) = true) (he : PE X v (tU X.K XR W fe)) :
    PS X (.Expr (.Call (.Attribute (.Name x p) "append" ap) [v] [] cp) sp) (tS X.K XR W fun σ m => match σ[i]? with
    | some (.own xs) => (fe σ m).bind fun u m1 => appGo σ i xs u m1
    | _ => .bad) := by
  obtain ⟨v1, v2, v3⟩ := g.vis h2
  have hfew : ((backTo cp (starEach (v :: []) X.env)).all (fun x => !x.1) && (backToKw cp (keywordEach [] X.env)).all (fun x => x.1.isSome)
      && decide ((v :: []).length + ([] : List Keyword).length + (if ([] : List Keyword).isEmpty then 0 else 1) < 30)) = true := by
    rw [star_pl hv]; rfl
  refine PS.imp (ps_expr (pe_bm PySem.F.plainAttrs_list PySem.F.slot_list_append PySem.F.type_list_append mt_append (pe_var (i := i) (by rw [g.hN]; exact h1) v1 v2 v3) (pa_cons he pa_nil (star_pl hv)) rfl hfew hl (star_pl hv) rfl) rfl) fun D σ H ⟨B, Hf, ρ, ω, env, m, s, o⟩ => ?_
  dsimp only at o
  split at o
  case h_2 => exact o.elim
  rename_i xs e
  obtain ⟨q1, q2, q3, ⟨vs, q4, q6⟩, q5⟩ := s.at_.slots.own i xs e
  refine ⟨_, q1, .inl ⟨rfl, vs, .inl (.inl q4)⟩, ?_⟩
  obtain ⟨A, B', D', E, F', a1, o1⟩ := s.bindE (Rp := RU X.K) o
  refine ⟨A, B', D', E, F', a1, o1.mono fun x H1 ⟨u, Hf1, ρ1, m1, p, s1, r, o1⟩ => ?_⟩
  cases u with
  | ref i => exact (o1 : False).elim
  | dat d =>
    simp only [appGo] at o1
    obtain ⟨q1, q2, q3, ⟨vs, q4, q6⟩, q5⟩ := s1.at_.slots.own i xs e
    by_cases hz : xs.length < sizeLine
    · rw [if_pos hz] at o1
      exact ⟨_, vs, x, rfl, rfl, q4, by rw [q6.len]; exact hz, StAt.ok (x := (F.nx, _)) (s1.write e (q6.app (.cons r.1 .nil)) (sz_push q5 r.2 hz)) o1⟩
    · rw [if_neg hz] at o1; exact (o1 : False).elim
theorem ip_augVal {o : BinO} {op : Operator} (hb : binB o op = true) : PIp X op (fun x y H Q => ∃ d e z, (∃ Hf, Dp X.K Hf x d) ∧ (∃ Hf, Dp X.K Hf y e) ∧ augVal o d e = some z ∧ ∀ v, (∀ Hf, Dp X.K Hf v z) → szOk z = true → Q v H) := by
  intro pins s σ H x y v u Q I rx ry ⟨d, e, z, ⟨_, hx⟩, ⟨_, hy⟩, hz, q⟩
  cases o <;> cases op <;> simp only [binB, Bool.false_eq_true] at hb
  all_goals (cases d <;> cases e <;> simp only [augVal, reduceCtorEq] at hz)
  all_goals (cases hx; cases hy)
  · cases hz
    exact iop_add pins s σ H _ _ v u Q I rx ry ⟨_, _, rfl, rfl, q _ (fun _ => .int _) rfl⟩
  · cases hz
    exact iop_sub pins s σ H _ _ v u Q I rx ry ⟨_, _, rfl, rfl, q _ (fun _ => .int _) rfl⟩
  · split at hz
    · cases hz
      rename_i hc
      exact iop_mul pins s σ H _ _ v u Q I rx ry ⟨_, _, rfl, rfl, hc, q _ (fun _ => .int _) rfl⟩
    · cases hz
  · split at hz
    · cases hz
      rename_i hc
      exact iop_fdivW pins s σ H _ _ v u Q I rx ry ⟨_, _, rfl, rfl, hc, q _ (fun _ => .int _) rfl⟩
    · cases hz
theorem s_aug (g : GX G N C XR X W c) {fe : Env → Mem → R U} {i : Nat} {x : Str} {p sp : Pos} {o : BinO} {op : Operator} (hb : binB o op = true) (h1 : N[i]? = some x) (h2 : locB c x = true) (he : PE X v (tU X.K XR W fe)) :
    PS X (.AugAssign (.Name x p) op v sp) (tS X.K XR W fun σ m => match σ[i]? with
    | some (.v (.dat d)) => (fe σ m).bind fun u m1 => augGo σ i o d u m1
    | _ => .bad) := by
  refine PS.imp (ps_aug g.nd (by rw [g.hN]; exact h1) (g.loc h2).1 he (ip_augVal hb) (g.loc h2).2) fun D σ H ⟨B, Hf, ρ, ω, env, m, s, o⟩ => ?_
  dsimp only at o
  split at o
  case h_2 => exact o.elim
  rename_i d e
  obtain ⟨w, w1, w2⟩ := s.at_.slots.val i _ e
  refine ⟨w, w1, ?_⟩
  obtain ⟨A, B', D', E, F', a1, o1⟩ := s.bindE (Rp := RU X.K) o
  refine ⟨A, B', D', E, F', a1, o1.mono fun x H1 ⟨u, Hf1, ρ1, m1, p, s1, r, o1⟩ => ?_⟩
  cases u with
  | ref i => exact (o1 : False).elim
  | dat d' =>
    simp only [augGo] at o1
    split at o1
    case h_2 => exact o1.elim
    rename_i z hz
    refine ⟨d, d', z, ⟨_, w2.1⟩, ⟨_, r.1⟩, hz, fun v hv hsz => ?_⟩
    exact StAt.ok (x := (F.nx, _)) (s1.setV (u := .dat z) (List.getElem?_eq_some_iff.mp e).1 ⟨hv _, hsz⟩) o1
end
end Eng

set_option Elab.async false
set_option linter.all false
set_option maxRecDepth 100000
set_option maxHeartbeats 1000000
/-! Statements: two lists of their own at once, three names at once, an item changed in place. -/
namespace Eng
open PySem PySem.Spec PyProof.Rows L2
theorem dups3 {x y z : Str} (h : (y == x) = false) (h2 : (z == x) = false) (h3 : (z == y) = false) : [x, y, z].eraseDups.length = 3 := by
  simp [List.eraseDups_cons, h, h2, h3]
theorem sw_par3 {env : PySem.Env} {x y z : Str} {px py pz pt pt2 : Pos} {kt k2 : Nat} {l r t : Expr} (hk : env.scope.kind = .function) (hx : env.scope.names.lookup x = some .local) (hy : env.scope.names.lookup y = some .local) (hz : env.scope.names.lookup z = some .local) (hl : (py.line == px.line) = true) (hl2 : (pz.line == px.line) = true)
    (hne : (y == x) = false) (hne2 : (z == x) = false) (hne3 : (z == y) = false)
    (hf : [l, r, t].all (foldedForSure 8) = false) (hc : [l, r, t].all (constantsAlone 8) = false) (hpl : pl l = true) (hpr : pl r = true) (hpt : pl t = true) :
    swappedStores [.Tuple [.Name x px, .Name y py, .Name z pz] kt pt] (.Tuple [l, r, t] k2 pt2) env = pure (some [x, y, z]) := by
  have kx : env.kindOf x = some .local := hx
  have ky : env.kindOf y = some .local := hy
  have kz : env.kindOf z = some .local := hz
  have hb : env.blockKind = .function := by unfold Env.blockKind; rw [hk]; rfl
  have hd := dups3 hne hne2 hne3
  unfold swappedStores
  dsimp only [List.length_cons, List.length_nil, List.head?_cons, Option.map_some, Option.getD_some, Expr.pos]
  rw [if_neg (by rw [hb]; decide), if_neg (fun z => by
    rw [List.any_eq_true] at z
    obtain ⟨e, he, hz⟩ := z
    have hp : pl e = true := by
      simp only [List.mem_cons, List.not_mem_nil, or_false] at he
      rcases he with rfl | rfl | rfl <;> assumption
    cases e <;> first | (simp [pl] at hp; done) | (simp at hz; done))]
  have hl' : py.line = px.line := beq_iff_eq.mp hl
  have hl2' : pz.line = px.line := beq_iff_eq.mp hl2
  have hfa : ¬ (foldedForSure 8 l = true ∧ foldedForSure 8 r = true ∧ foldedForSure 8 t = true) := fun z => by simp [z.1, z.2.1, z.2.2] at hf
  have hca : ¬ (constantsAlone 8 l = true ∧ constantsAlone 8 r = true ∧ constantsAlone 8 t = true) := fun z => by simp [z.1, z.2.1, z.2.2] at hc
  simp [List.filterMap_cons, kx, ky, kz, hl', hl2', hd, hfa, hca]
section
variable {G : Cfg} {N : List Str} {C : Calls} {XR : XRel} {X : Cx} {W : WX} {c : Sc} {L : Nat} {s e v : Expr} {pos : Pos}
theorem s_par3m (g : GX G N C XR X W c) {fa fb fc : Env → Mem → R U} {i j k : Nat} {x y z : Str} {px py pz pt pt2 sp : Pos} {kt k2 : Nat} {l r t : Expr} (hp : par3B N c i j k x y z px py pz l r t = true) (ha : PE X l (tU X.K XR W fa)) (hb : PE X r (tF X.K XR W fb)) (hc : PE X t (tU X.K XR W fc)) :
    PS X (.Assign [.Tuple [.Name x px, .Name y py, .Name z pz] kt pt] (.Tuple [l, r, t] k2 pt2) sp) (tS X.K XR W fun σ m => (fa σ m).bind fun x m1 => (fb σ m1).bind fun y m2 => match y with
    | .dat (.list xs) => (fc σ m2).bind fun z m3 => match ((setE σ i (.v x)).bind fun σ' => setE σ' j (.own xs)).bind fun σ' => setE σ' k (.v z) with
      | some σ' => .ok (.nx, σ') m3
      | none => .bad
    | _ => .bad) := by
  unfold par3B at hp
  simp only [Bool.and_eq_true, decide_eq_true_eq, Bool.not_eq_true'] at hp
  obtain ⟨⟨⟨⟨⟨⟨⟨⟨⟨⟨⟨⟨⟨⟨⟨⟨⟨⟨⟨h1, h2⟩, h3⟩, h4⟩, h5⟩, h6⟩, h7⟩, h8⟩, h9⟩, h10⟩, h11⟩, h12⟩, h13⟩, h14⟩, h15⟩, h16⟩, h17⟩, h18⟩, h19⟩, h20⟩ := hp
  have lx : X.env.scope.names.lookup x = some .local := by rw [g.sc]; exact h7
  have ly : X.env.scope.names.lookup y = some .local := by rw [g.sc]; exact h8
  have lz : X.env.scope.names.lookup z = some .local := by rw [g.sc]; exact h9
  refine PS.imp (ps_par3 g.calm g.nd (by rw [g.hN]; exact h1) (by rw [g.hN]; exact h2) (by rw [g.hN]; exact h3) h4 h5 h6 lx ly lz (pa_cons ha (pa_cons hb (pa_cons hc pa_nil (star_pl h20)) (star_pl h19)) (star_pl h18))
    (sw_par3 (kindB_ok g h15) lx ly lz h10 h11 h12 h13 h14 h16 h17 h18 h19 h20) rfl) fun D σ H ⟨B, Hf, ρ, ω, env, m, s, o⟩ => ?_
  obtain ⟨A, B', D', E, F', a1, o1⟩ := s.bindE (Rp := RU X.K) o
  refine ⟨A, B', D', E, F', a1, o1.mono fun x H1 ⟨u, Hf1, ρ1, m1, p, s1, r, o1⟩ => ?_⟩
  obtain ⟨A, B', D', E, F', a2, o2⟩ := s1.bindF o1
  refine ⟨A, B', D', E, F', a2, o2.mono fun y H2 ⟨u2, Hf2, ρ2, m2, p2, s2, r2, o2⟩ => ?_⟩
  obtain ⟨q, vs, xs, rfl, rfl, h0, k1, k2, k3, k4, k5⟩ := r2
  simp only at o2
  obtain ⟨A, B', D', E, F', a3, o3⟩ := s2.bindE (Rp := RU X.K) o2
  refine ⟨A, B', D', E, F', a3, o3.mono fun z H3 ⟨u3, Hf3, ρ3, m3, p3, s3, r3, o3⟩ => ?_⟩
  refine ⟨x, _, z, rfl, ?_⟩
  cases hs : ((setE env i (.v u)).bind fun σ' => setE σ' j (.own xs)).bind fun σ' => setE σ' k (.v u3) with
  | none => rw [hs] at o3; exact o3.elim
  | some env' =>
    rw [hs] at o3
    rw [Option.bind_eq_some_iff] at hs
    obtain ⟨e2, hs, q3⟩ := hs
    rw [Option.bind_eq_some_iff] at hs
    obtain ⟨e1, q1, q2⟩ := hs
    obtain ⟨hi, rfl⟩ := setE_some q1
    obtain ⟨hj, rfl⟩ := setE_some q2
    obtain ⟨hk, rfl⟩ := setE_some q3
    obtain ⟨z1, z2, z3⟩ := p3.kp _ _ k1 k2 k3
    exact (((s3.setV hi (r.pres (p2.trans p3))).setOwn hj z1 z2 z3 (DpAll.mono p3.fz _ _ k4) k5 (fun j ys e => s1.own_ne h0 (set_own (fun _ e => by cases e) e)) (s1.base_none h0)).setV hk r3).ok (x := (F.nx, _)) o3
/-- x, y, z = e, [..], e where one of the names is a cell -/
theorem s_par3mc (g : GX G N C XR X W c) {fa fb fc : Env → Mem → R U} {i j k : Nat} {x y z : Str} {px py pz pt pt2 sp : Pos} {kt k2 : Nat} {l r t : Expr} (hp : par3C N c i j k x y z px py pz l r t = true) (ha : PE X l (tU X.K XR W fa)) (hb : PE X r (tF X.K XR W fb)) (hc : PE X t (tU X.K XR W fc)) :
    PS X (.Assign [.Tuple [.Name x px, .Name y py, .Name z pz] kt pt] (.Tuple [l, r, t] k2 pt2) sp) (tS X.K XR W fun σ m => (fa σ m).bind fun x m1 => (fb σ m1).bind fun y m2 => match y with
    | .dat (.list xs) => (fc σ m2).bind fun z m3 => match ((setE σ i (.v x)).bind fun σ' => setE σ' j (.own xs)).bind fun σ' => setE σ' k (.v z) with
      | some σ' => .ok (.nx, σ') m3
      | none => .bad
    | _ => .bad) := by
  unfold par3C at hp
  simp only [Bool.and_eq_true, decide_eq_true_eq] at hp
  obtain ⟨⟨⟨⟨⟨⟨⟨⟨⟨h1, h2⟩, h3⟩, l1⟩, l2⟩, l3⟩, hcell⟩, h18⟩, h19⟩, h20⟩ := hp
  have hloc : ∀ {x : Str}, locB c x = true → Loc X.env.scope x ∧ (X.fn x = true ∨ X.env.scope.names.lookup x = some .local) := fun {x} h2 => by
    unfold locB at h2
    simp only [Bool.or_eq_true, Bool.and_eq_true, decide_eq_true_eq] at h2
    rw [g.sc, g.fn]
    rcases h2 with h2 | ⟨h2, h3⟩
    · exact ⟨.inl h2, .inr h2⟩
    · exact ⟨.inr h2, .inl h3⟩
  have hgp : PG X (.Tuple [.Name x px, .Name y py, .Name z pz] kt pt) (gTup X.K 3 (gCons (gName i) (gCons (gName j) (gCons (gName k) gNil)))) :=
    pg_tup g.calm (pgs_cons (pg_name g.nd (by rw [g.hN]; exact h1) (hloc l1).1 (hloc l1).2) (pgs_cons (pg_name g.nd (by rw [g.hN]; exact h2) (hloc l2).1 (hloc l2).2) (pgs_cons (pg_name g.nd (by rw [g.hN]; exact h3) (hloc l3).1 (hloc l3).2) pgs_nil)))
  refine PS.imp (ps_asg (pe_tup (pa_cons ha (pa_cons hb (pa_cons hc pa_nil (star_pl h20)) (star_pl h19)) (star_pl h18))) hgp rfl (sw_cell g.sc hcell) rfl) fun D σ H ⟨B, Hf, ρ, ω, env, m, s, o⟩ => ?_
  obtain ⟨A, B', D', E, F', a1, o1⟩ := s.bindE (Rp := RU X.K) o
  refine ⟨A, B', D', E, F', a1, o1.mono fun x H1 ⟨u, Hf1, ρ1, m1, p, s1, r, o1⟩ => ?_⟩
  obtain ⟨A, B', D', E, F', a2, o2⟩ := s1.bindF o1
  refine ⟨A, B', D', E, F', a2, o2.mono fun y H2 ⟨u2, Hf2, ρ2, m2, p2, s2, r2, o2⟩ => ?_⟩
  obtain ⟨q, vs, xs, rfl, rfl, h0, k1, k2, k3, k4, k5⟩ := r2
  simp only at o2
  obtain ⟨A, B', D', E, F', a3, o3⟩ := s2.bindE (Rp := RU X.K) o2
  refine ⟨A, B', D', E, F', a3, o3.mono fun z H3 ⟨u3, Hf3, ρ3, m3, p3, s3, r3, o3⟩ => ?_⟩
  refine ⟨by show 3 ≤ sizeLine; decide, fun P hP => ⟨P, _, rfl, .inl (.inl upd_same), rfl, _, _, rfl, _, _, rfl, _, _, rfl, rfl, ?_⟩⟩
  cases hs : ((setE env i (.v u)).bind fun σ' => setE σ' j (.own xs)).bind fun σ' => setE σ' k (.v u3) with
  | none => rw [hs] at o3; exact o3.elim
  | some env' =>
    rw [hs] at o3
    rw [Option.bind_eq_some_iff] at hs
    obtain ⟨e2, hs, q3⟩ := hs
    rw [Option.bind_eq_some_iff] at hs
    obtain ⟨e1, q1, q2⟩ := hs
    obtain ⟨hi, rfl⟩ := setE_some q1
    obtain ⟨hj, rfl⟩ := setE_some q2
    obtain ⟨hk, rfl⟩ := setE_some q3
    obtain ⟨z1, z2, z3⟩ := p3.kp _ _ k1 k2 k3
    have s4 := s3.step (Pres.fresh hP) (s3.at_.fine.fresh hP (o := .tup [x, .ref q, z]))
    have hqP : q ≠ P := ne_of_none z1 hP
    exact (((s4.setV hi (r.pres (p2.trans p3))).setOwn hj (by rw [upd_ne hqP]; exact z1) z2 z3 (DpAll.mono p3.fz _ _ k4) k5 (fun j ys e => s1.own_ne h0 (set_own (fun _ e => by cases e) e)) (s1.base_none h0)).setV hk r3).ok (x := (F.nx, _)) o3
/-- x, y = e, [..], one of the two names a cell -/
theorem s_par2oc (g : GX G N C XR X W c) {fa fb : Env → Mem → R U} {i j : Nat} {x y : Str} {px py pt pt2 sp : Pos} {kt k2 : Nat} {l r : Expr} (hp : par2C N c i j x y px py l r = true) (ha : PE X l (tU X.K XR W fa)) (hb : PE X r (tF X.K XR W fb)) :
    PS X (.Assign [.Tuple [.Name x px, .Name y py] kt pt] (.Tuple [l, r] k2 pt2) sp) (tS X.K XR W fun σ m => (fa σ m).bind fun x m1 => (fb σ m1).bind fun y m2 => match y with
    | .dat (.list xs) => match (setE σ i (.v x)).bind fun σ' => setE σ' j (.own xs) with
      | some σ' => .ok (.nx, σ') m2
      | none => .bad
    | _ => .bad) := by
  unfold par2C at hp
  simp only [Bool.and_eq_true, decide_eq_true_eq] at hp
  obtain ⟨⟨⟨⟨⟨⟨h1, h2⟩, l1⟩, l2⟩, hcell⟩, h18⟩, h19⟩ := hp
  have hloc : ∀ {x : Str}, locB c x = true → Loc X.env.scope x ∧ (X.fn x = true ∨ X.env.scope.names.lookup x = some .local) := fun {x} h2 => by
    unfold locB at h2
    simp only [Bool.or_eq_true, Bool.and_eq_true, decide_eq_true_eq] at h2
    rw [g.sc, g.fn]
    rcases h2 with h2 | ⟨h2, h3⟩
    · exact ⟨.inl h2, .inr h2⟩
    · exact ⟨.inr h2, .inl h3⟩
  have hgp : PG X (.Tuple [.Name x px, .Name y py] kt pt) (gTup X.K 2 (gCons (gName i) (gCons (gName j) gNil))) :=
    pg_tup g.calm (pgs_cons (pg_name g.nd (by rw [g.hN]; exact h1) (hloc l1).1 (hloc l1).2) (pgs_cons (pg_name g.nd (by rw [g.hN]; exact h2) (hloc l2).1 (hloc l2).2) pgs_nil))
  refine PS.imp (ps_asg (pe_tup (pa_cons ha (pa_cons hb pa_nil (star_pl h19)) (star_pl h18))) hgp rfl (sw_cell g.sc hcell) rfl) fun D σ H ⟨B, Hf, ρ, ω, env, m, s, o⟩ => ?_
  obtain ⟨A, B', D', E, F', a1, o1⟩ := s.bindE (Rp := RU X.K) o
  refine ⟨A, B', D', E, F', a1, o1.mono fun x H1 ⟨u, Hf1, ρ1, m1, p, s1, r, o1⟩ => ?_⟩
  obtain ⟨A, B', D', E, F', a3, o3⟩ := s1.bindF o1
  refine ⟨A, B', D', E, F', a3, o3.mono fun z H3 ⟨u3, Hf3, ρ3, m3, p3, s3, r3, o3⟩ => ?_⟩
  obtain ⟨q, vs, xs, rfl, rfl, h0, k1, k2, k3, k4, k5⟩ := r3
  simp only at o3
  refine ⟨by show 2 ≤ sizeLine; decide, fun P hP => ⟨P, _, rfl, .inl (.inl upd_same), rfl, _, _, rfl, _, _, rfl, rfl, ?_⟩⟩
  cases hs : (setE env i (.v u)).bind fun σ' => setE σ' j (.own xs) with
  | none => rw [hs] at o3; exact o3.elim
  | some env' =>
    rw [hs] at o3
    rw [Option.bind_eq_some_iff] at hs
    obtain ⟨e1, q1, q2⟩ := hs
    obtain ⟨hi, rfl⟩ := setE_some q1
    obtain ⟨hj, rfl⟩ := setE_some q2
    have s4 := s3.step (Pres.fresh hP) (s3.at_.fine.fresh hP (o := .tup [x, .ref q]))
    have hqP : q ≠ P := ne_of_none k1 hP
    exact ((s4.setV hi (r.pres p3)).setOwn hj (by rw [upd_ne hqP]; exact k1) k2 k3 k4 k5 (fun j ys e => s1.own_ne h0 (set_own (fun _ e => by cases e) e)) (s1.base_none h0)).ok (x := (F.nx, _)) o3
end
end Eng

set_option Elab.async false
set_option linter.all false
set_option maxRecDepth 100000
set_option maxHeartbeats 1000000
/-! Statements: xs.extend(ys), two items stored at once, x = xs.pop(). -/
namespace Eng
open PySem PySem.Spec PyProof.Rows L2
section
variable {G : Cfg} {N : List Str} {C : Calls} {XR : XRel} {X : Cx} {W : WX} {c : Sc} {L : Nat} {s e v : Expr} {pos : Pos}
end
end Eng

set_option Elab.async false
set_option linter.all false
set_option maxRecDepth 100000
set_option maxHeartbeats 1000000
/-! try: .. except ..: suites. -/
namespace Eng
open PySem PySem.Spec PyProof.Rows L2
section
variable {G : Cfg} {N : List Str} {C : Calls} {XR : XRel} {X : Cx} {W : WX} {c : Sc}
def endT (K : PySem.W.Frag) (md : TM) (D : Ends) (σ : L2.St) (v : V) (H : Hp) : Prop := match md with
  | .ex => D.nx σ H
  | .exr d => ∀ w, (∀ H, Dp K H w d) → szOk d = true → D.rt w H
  | .rt => D.rt v H
def tTB (K : PySem.W.Frag) (XR : XRel) (md : TM) (fe : Env → Mem → R U) (W : WX) : TS := fun D σ H => tU K XR W fe σ H fun v H1 => endT K md D σ v H1
end
end Eng

set_option Elab.async false
set_option linter.all false
set_option maxRecDepth 100000
set_option maxHeartbeats 1000000
/-! Statements: loops, a list comprehension into a name, THE LAW. -/
namespace Eng
open PySem PySem.Spec PyProof.Rows L2
section
variable {G : Cfg} {N : List Str} {C : Calls} {XR : XRel} {X : Cx} {W : WX} {c : Sc} {L : Nat} {s e v : Expr} {pos : Pos}
theorem sw_isCell {env : PySem.Env} {x : Str} {p vp : Pos} {e : Expr} {ks : List Comprehension} {scope : Scope} {l : Nat} (h : env.scope.names.lookup x = some .cell) : swapsWith (.ListComp e ks scope vp) (some (.Name x p)) l env = pure false := by
  have h' : env.kindOf x = some .cell := h
  unfold swapsWith
  have e2 : ((NameKind.cell == NameKind.local) : Bool) = false := by decide
  simp [h', e2]
theorem sw_lc (g : GX G N C XR X W c) {i : Nat} {x : Str} {p sp : Pos} {a : E} (h1 : N[i]? = some x) (h2 : locB c x = true) (hf : isF a = true) (h : okE G N a c v = true) (hs : swC c x p v = true) : PS X (.Assign [.Name x p] v sp) (tAsg (tF X.K XR W (evE C a)) (gName i)) := by
  by_cases hn : noLc v = true
  · exact sw_set g h1 h2 hn (sndF g hf h)
  by_cases hcl : c.sc.names.lookup x = some .cell ∧ ∃ e k sc vp, v = .ListComp e k sc vp
  · obtain ⟨hc, e, k, sc, vp, rfl⟩ := hcl
    exact ps_set g.nd (by rw [g.hN]; exact h1) (g.loc h2).1 (sndF g hf h) (sw_isCell (by rw [g.sc]; exact hc)) (g.loc h2).2
  · cases a <;> simp only [isF, Bool.false_eq_true] at hf
    case lst es =>
      simp only [okE] at h; split at h
      · exact absurd rfl hn
      · cases h
    case lmul es k =>
      simp only [okE] at h; split at h
      · exact absurd rfl hn
      · cases h
    case ladd a b =>
      simp only [okE] at h; split at h
      · exact absurd rfl hn
      · cases h
    case b1 f a =>
      simp only [okE] at h; split at h
      · exact absurd rfl hn
      · cases h
    case comp elt tg it cond own =>
      simp only [okE] at h; split at h
      · rename_i e t k ifs scope vp
        unfold swC at hs
        simp only [Bool.or_eq_true, Bool.and_eq_true, decide_eq_true_eq, Bool.not_eq_true'] at hs
        obtain ⟨⟨⟨k1, k2⟩, k3⟩, k4⟩ := hs.resolve_left fun z => hcl ⟨z, _, _, _, _, rfl⟩
        have ly : X.env.scope.names.lookup x = some .local := by rw [g.sc]; exact k2
        simp only [Bool.and_eq_true] at h
        obtain ⟨⟨⟨⟨⟨⟨h1', h2'⟩, h3⟩, h4⟩, h5⟩, h6⟩, h7⟩ := h
        have hs' : ∀ i ∈ slotsTg tg, i ∈ own.map (·.2) := fun i hi => by
          have := List.all_eq_true.mp h5 i hi
          simpa using this
        refine PS.imp (ps_setLc (own := own) (g := gT X.K tg) (tt := tC X.K XR (if isNo cond = true then none else some (evE C cond))) (te := tU X.K XR WF (evE C elt)) g.calm g.nd (by rw [g.hN]; exact h1) ly (sw_true (kindB_ok g k4) ly k1 k3) (sndI it g h2') (blkOk_by (by rw [g.hN, g.sc]; exact h1'))
          (fun s H D cl fp => pg_T (g.blk s H scope cl D fp) h4)
          (fun s H D cl fp => (condOk (C := C) (XR := XR) (X := X.blk s H scope (compEnvC scope cl D X.env) fp) (cond := cond) (by
            split at h7
            · exact h7
            · simp only [Bool.and_eq_true, Bool.not_eq_true'] at h7
              exact ⟨h7.1, (snd cond (g.blk s H scope cl D fp) h7.2).2⟩
            · cases h7) : PTs (X.blk s H scope (compEnvC scope cl D X.env) fp) ifs (tC X.K XR (if isNo cond = true then none else some (evE C cond)))))
          (fun s H D cl fp => ((snd elt (g.blk s H scope cl D fp) h6).1 : PE _ e (tU X.K XR WF (evE C elt)))) (folded_pl h3)) fun D σ H q => ?_
        refine lc_imp hs' ?_
        simp only [evE, cA_oQ] at q
        exact q
      · cases h
    case comp2 elt tg it tg' it' cond own =>
      simp only [okE] at h; split at h
      · rename_i e t k t' k' ifs scope vp
        unfold swC at hs
        simp only [Bool.or_eq_true, Bool.and_eq_true, decide_eq_true_eq, Bool.not_eq_true'] at hs
        obtain ⟨⟨⟨k1, k2⟩, k3⟩, k4⟩ := hs.resolve_left fun z => hcl ⟨z, _, _, _, _, rfl⟩
        have ly : X.env.scope.names.lookup x = some .local := by rw [g.sc]; exact k2
        simp only [Bool.and_eq_true] at h
        obtain ⟨⟨⟨⟨⟨⟨⟨⟨⟨⟨h1', h2'⟩, h3⟩, h4⟩, h5⟩, h6⟩, h7⟩, h8⟩, h9⟩, h10⟩, h11⟩ := h
        have hs' : ∀ i ∈ slotsTg tg, i ∈ own.map (·.2) := fun i hi => by
          have := List.all_eq_true.mp h5 i hi
          simpa using this
        have hs2' : ∀ i ∈ slotsTg tg', i ∈ own.map (·.2) := fun i hi => by
          have := List.all_eq_true.mp h9 i hi
          simpa using this
        refine PS.imp (ps_setLc2 (own := own) (g := gT X.K tg) (tt := tYes) (g1 := gT X.K tg') (tt1 := tC X.K XR (if isNo cond = true then none else some (evE C cond))) (te := tU X.K XR WF (evE C elt)) (wi1 := tI X.K XR WF (evI C it')) (vs1 := slotsTg tg') g.calm g.nd (by rw [g.hN]; exact h1) ly (sw_true (kindB_ok g k4) ly k1 k3) (sndI it g h2') (blkOk_by (by rw [g.hN, g.sc]; exact h1')) hs2'
          (fun s H D cl fp => pg_T (g.blk s H scope cl D fp) h4) (fun s H D cl fp => pts_nil) (fun s H D cl fp => sndI it' (g.blk s H scope cl D fp) h6) (fun s H D cl fp => pg_T (g.blk s H scope cl D fp) h8)
          (fun s H D cl fp => (condOk (C := C) (XR := XR) (X := X.blk s H scope (compEnvC scope cl D X.env) fp) (cond := cond) (by
            split at h11
            · exact h11
            · simp only [Bool.and_eq_true, Bool.not_eq_true'] at h11
              exact ⟨h11.1, (snd cond (g.blk s H scope cl D fp) h11.2).2⟩
            · cases h11) : PTs (X.blk s H scope (compEnvC scope cl D X.env) fp) ifs (tC X.K XR (if isNo cond = true then none else some (evE C cond)))))
          (fun s H D cl fp => ((snd elt (g.blk s H scope cl D fp) h10).1 : PE _ e (tU X.K XR WF (evE C elt)))) (folded_pl h3) (fun env => folded_pl h7)) fun D σ H q => ?_
        refine lc2_imp hs' ?_
        simp only [evE, cA_oQ] at q
        exact q
      · cases h
theorem sw_rs (g : GX G N C XR X W c) {i : Nat} {x : Str} {p sp : Pos} {a : E} (h1 : N[i]? = some x) (h2 : locB c x = true) (hf : isRs a = true) (h : okE G N a c v = true) (hs : swC c x p v = true) : PS X (.Assign [.Name x p] v sp) (tAsg (tU X.K XR W (evE C a)) (gName i)) := by
  cases a <;> simp only [isRs, Bool.false_eq_true] at hf
  case newRs tg it own =>
    have hE := (snd (.newRs tg it own) g h).1
    by_cases hcl : c.sc.names.lookup x = some .cell ∧ ∃ e k sc vp, v = .ListComp e k sc vp
    · obtain ⟨hc, e, k, sc, vp, rfl⟩ := hcl
      exact ps_set g.nd (by rw [g.hN]; exact h1) (g.loc h2).1 hE (sw_isCell (by rw [g.sc]; exact hc)) (g.loc h2).2
    · simp only [okE] at h; split at h
      · rename_i lp t k scope vp
        unfold swC at hs
        simp only [Bool.or_eq_true, Bool.and_eq_true, decide_eq_true_eq, Bool.not_eq_true'] at hs
        obtain ⟨⟨⟨k1, k2⟩, k3⟩, k4⟩ := hs.resolve_left fun z => hcl ⟨z, _, _, _, _, rfl⟩
        have ly : X.env.scope.names.lookup x = some .local := by rw [g.sc]; exact k2
        simp only [Bool.and_eq_true] at h
        obtain ⟨⟨⟨⟨h1', h2'⟩, h3⟩, h4⟩, h5⟩ := h
        have hs' : ∀ i ∈ slotsTg tg, i ∈ own.map (·.2) := fun i hi => by
          have := List.all_eq_true.mp h5 i hi
          simpa using this
        refine PS.imp (ps_setLc (own := own) (g := gT X.K tg) (tt := tC X.K XR none) (te := tLst tNil) g.calm g.nd (by rw [g.hN]; exact h1) ly (sw_true (kindB_ok g k4) ly k1 k3) (sndI it g h2') (blkOk_by (by rw [g.hN, g.sc]; exact h1'))
          (fun s H D cl fp => pg_T (g.blk s H scope cl D fp) h4) (fun s H D cl fp => pts_nil) (fun s H D cl fp => pe_lst pa_nil) (folded_pl h3)) fun D σ H q => ?_
        refine rs_imp hs' ?_
        simp only [evE] at q
        exact q
      · cases h
theorem s_for (hp : PassesOwn (model X.prog X.w) X.A X.env X.xe) (g : GX G N C XR X W c) {fi : Env → Mem → R (List PyData)} {fb : Env → Mem → R (F × Env)} {tg : Tg} {t i : Expr} {body : List Stmt} (ht : okTg N c tg t = true) (hi : PI X t i (tI X.K XR W fi)) (hpl : pl i = true) (hb : PSs X body (tS X.K XR W fb)) :
    PS X (.For t i body [] pos) (tS X.K XR W fun σ m => (fi σ m).bind fun ds m1 => forGo fb tg ds σ m1) := by
  refine PS.imp (ps_for hp g.calm hi (pg_T g ht) hb (folded_pl hpl)) fun D σ H ⟨B, Hf, ρ, ω, env, m, s, o⟩ => ?_
  obtain ⟨A, B', D', E, F', a1, o1⟩ := s.bindE (Rp := RI X.K) o
  refine ⟨A, B', D', E, F', a1, o1.mono fun J H1 ⟨ds, Hf1, ρ1, m1, p, s1, ⟨hJ, hz⟩, o1⟩ => ?_⟩
  refine ⟨fun i k σ H => ∃ Hf ρ ω env m, i ≤ ds.length ∧ k = ds.length - i ∧ StAt X.K ⟨B.H, B.Hf, B.ρ, Hf1⟩ σ H Hf ρ ω env m ∧ OutS X.K XR W B D (forGo fb tg (ds.drop i) env m),
    ⟨_, Hf1, ρ1, ω, env, m1, Nat.zero_le _, rfl, ⟨s1.fine0, s1.pres, Sub.refl _, s1.at_, s1.new⟩, o1⟩, fun i k σ2 H2 ⟨Hf2, ρ2, ω2, env2, m2, hi, hk, s2, o2⟩ => ?_⟩
  have back : ∀ {σ H Hf ρ ω env m}, StAt X.K ⟨B.H, B.Hf, B.ρ, Hf1⟩ σ H Hf ρ ω env m → StAt X.K B σ H Hf ρ ω env m := fun q => ⟨q.fine0, q.pres, s1.low.trans q.low, q.at_, q.new⟩
  by_cases he : i = ds.length
  · subst he
    rw [List.drop_length] at o2
    refine .inl ⟨(hJ H2 Hf2 s2.low s2.at_.fine.sub _).2 rfl, ?_⟩
    exact StAt.ok (x := (F.nx, env2)) (back s2) o2
  · have hlt : i < ds.length := by omega
    rw [drop_cons hlt] at o2
    unfold forGo at o2
    obtain ⟨hgo, hy⟩ := Pres.turn (hJ.mono s2.low) s2.at_.fine (List.getElem?_eq_getElem hlt)
    have hzd : szOk ds[i] = true := szAll_iff.mp hz _ (List.getElem_mem hlt)
    refine .inr ⟨hgo, fun σ H => ∃ Hf ρ ω env m, StAt X.K ⟨B.H, B.Hf, B.ρ, Hf1⟩ σ H Hf ρ ω env m ∧ OutS X.K XR W B D (forGo fb tg (ds.drop (i + 1)) env m), fun σ' H' ⟨Hf, ρ, ω, env, m, q1, q2⟩ => ⟨_, (by omega : ds.length - (i + 1) < k), Hf, ρ, ω, env, m, hlt, rfl, q1, q2⟩, fun x H3 hyl => ?_⟩
    obtain ⟨Hf3, p3, f3, hdp⟩ := hy x H3 hyl
    have s3 := s2.step p3 f3
    cases ha : asgTg tg ds[i] env2 with
    | none => rw [ha] at o2; exact o2.elim
    | some env' =>
      rw [ha] at o2
      simp only at o2
      refine gT_ok s3.at_ hdp hzd ha fun σ' a' _ => ?_
      refine ⟨⟨B.H, B.Hf, B.ρ, Hf1⟩, Hf3, ρ2, ω2, env', m2, ⟨s3.fine0, s3.pres, s3.low, a', fun j xs e => s3.new j xs (asgTg_own ha e)⟩, ?_⟩
      cases hf : fb env' m2 with
      | bad => rw [hf] at o2; exact o2.elim
      | exc cc xx mm => rw [hf] at o2; exact o2
      | ok y m4 =>
        rw [hf, R.bind_ok] at o2
        intro σ5 H5 Hf5 ρ5 ω5 s5
        obtain ⟨fl, env5⟩ := y
        cases fl with
        | nx => exact ⟨Hf5, ρ5, ω5, env5, m4, s5, o2⟩
        | cnt => exact ⟨Hf5, ρ5, ω5, env5, m4, s5, o2⟩
        | brk => exact StAt.ok (XR := XR) (W := W) (D := D) (x := (F.nx, env5)) (back s5) o2
        | ret u => exact StAt.ok (XR := XR) (W := W) (D := D) (x := (F.ret u, env5)) (back s5) o2
theorem s_whl (hp : PassesOwn (model X.prog X.w) X.A X.env X.xe) {fc : Env → Mem → R U} {fb : Env → Mem → R (F × Env)} {k : Expr} {body : List Stmt} (hc : PT X k (tT X.K XR W fc)) (hb : PSs X body (tS X.K XR W fb)) :
    PS X (.While k body [] pos) (tS X.K XR W fun σ m => whlGo fc fb L σ m) := by
  refine PS.imp (ps_while hp hc hb) fun D σ H ⟨B, Hf, ρ, ω, env, m, s, o⟩ => ?_
  refine ⟨fun n σ H => ∃ Hf ρ ω env m, StAt X.K B σ H Hf ρ ω env m ∧ OutS X.K XR W B D (whlGo fc fb n env m), ⟨L, Hf, ρ, ω, env, m, s, o⟩, fun n σ H ⟨Hf, ρ, ω, env, m, s, o⟩ => ?_⟩
  cases n with
  | zero => exact (o : False).elim
  | succ n =>
    unfold whlGo at o
    obtain ⟨A, B', D', E, F', a1, o1⟩ := s.bindE (f := fun σ m => (fc σ m).bind asB) (Rp := RBl) o
    refine ⟨A, B', D', E, F', a1, o1.mono fun b H1 ⟨u, Hf1, ρ1, m1, p, s1, r, o1⟩ => ?_⟩
    cases r
    cases b with
    | false => exact StAt.ok (x := (F.nx, env)) s1 o1
    | true =>
      simp only [if_true] at o1 ⊢
      refine ⟨fun σ H => ∃ Hf ρ ω env m, StAt X.K B σ H Hf ρ ω env m ∧ OutS X.K XR W B D (whlGo fc fb n env m), fun σ' H' ⟨Hf, ρ, ω, env, m, q1, q2⟩ => ⟨n, Nat.lt_succ_self n, Hf, ρ, ω, env, m, q1, q2⟩, B, Hf1, ρ1, ω, env, m1, s1, ?_⟩
      cases hf : fb env m1 with
      | bad => rw [hf] at o1; exact o1.elim
      | exc cc xx mm => rw [hf] at o1; exact o1
      | ok y m4 =>
        rw [hf, R.bind_ok] at o1
        intro σ5 H5 Hf5 ρ5 ω5 s5
        obtain ⟨fl, env5⟩ := y
        cases fl with
        | nx => exact ⟨Hf5, ρ5, ω5, env5, m4, s5, o1⟩
        | cnt => exact ⟨Hf5, ρ5, ω5, env5, m4, s5, o1⟩
        | brk => exact StAt.ok (XR := XR) (W := W) (D := D) (x := (F.nx, env5)) s5 o1
        | ret u => exact StAt.ok (XR := XR) (W := W) (D := D) (x := (F.ret u, env5)) s5 o1
/-- a statement: no reading where the evaluator has none -/
theorem s_never {f : Env → Mem → R (F × Env)} {st : Stmt} (h : ∀ σ m, f σ m = .bad) : PS X st (tS X.K XR W f) := PS.imp ps_never fun D σ H ⟨B, Hf, ρ, ω, env, m, s, o⟩ => by rw [h] at o; exact o
theorem s_raise (g : GX G N C XR X W c) {k : Nat} {p : Str × Str} {fe : Env → Mem → R U} {a : Expr} {np cp pos : Pos} (hgl : glB c p.1 = true) (hk : G.cl[k]? = some p) (he : PE X a (tU X.K XR W fe)) (hp : pl a = true) :
    PS X (.Raise (some (.Call (.Name p.1 np) [a] [] cp)) none pos) (tS X.K XR W fun σ m => (fe σ m).bind fun u m1 => .exc k u m1) := by
  obtain ⟨q1, q2⟩ := g.glo hgl
  obtain ⟨Ck, fI, T⟩ := g.xt.cls k p hk
  obtain ⟨kr, hr⟩ := g.rm
  refine PS.imp (ps_raiseOwn g.calm T hr g.takes (pa_cons he pa_nil (star_pl hp)) q1 q2 (star_pl hp) rfl) fun D σ H ⟨B, Hf, ρ, ω, env, m, s, o⟩ => ?_
  obtain ⟨A, B', D', E, F', a1, o1⟩ := s.bindE (Rp := RU X.K) o
  refine ⟨A, B', D', E, F', a1, o1.mono fun v H1 ⟨u, Hf1, ρ1, m1, p1, s1, r, o2⟩ => ?_⟩
  refine ⟨v, rfl, fun d hd => ?_⟩
  refine o2 _ _ σ _ (upd Hf1 d (.xd [(p.2, v)])) ρ1 (s1.pres.trans (Pres.new hd s1.at_.fine.sub)) (s1.at_.fine.new hd) ?_
  rw [g.xr]
  exact ⟨p, Ck, d, v, hk, T.gC, rfl, rfl, upd_same, r.pres (Pres.new hd s1.at_.fine.sub)⟩
mutual
theorem sndS (hp : PassesOwn (model X.prog X.w) X.A X.env X.xe) (hq : X.stack = X.env :: X.outer ∧ X.env.frame = some X.env.locals) (g : GX G N C XR X W c) : ∀ (s : S) {st : Stmt}, okS G N c s st = true → PS X st (tS X.K XR W (evS L C s))
  | .asg i e, st, h => by
    simp only [okS] at h; split at h
    · simp only [Bool.and_eq_true, decide_eq_true_eq] at h
      obtain ⟨⟨⟨h1, h2⟩, h3⟩, h4⟩ := h
      rcases (Bool.or_eq_true _ _).mp h4 with h4 | h4
      · exact s_asg (sw_set g h1 h2 h4 (snd e g h3).1)
      · obtain ⟨h4, h5⟩ := (Bool.and_eq_true _ _).mp h4
        exact s_asg (sw_rs g h1 h2 h4 h3 h5)
    · cases h
  | .own i e, st, h => by
    simp only [okS] at h; split at h
    · simp only [Bool.and_eq_true, decide_eq_true_eq] at h
      obtain ⟨⟨⟨⟨h1, h2⟩, h3⟩, h4⟩, h5⟩ := h
      exact s_own (sw_lc g h1 h2 h4 h3 h5)
    · cases h
  | .frz i, st, h => by simp [okS] at h
  | .asgT ts e, st, h => by
    simp only [okS] at h; split at h
    · simp only [Bool.and_eq_true, Bool.or_eq_true, Bool.not_eq_true'] at h
      obtain ⟨⟨h1, h2⟩, h3⟩ := h
      exact s_asgT g h1 (snd e g h2).1 h3
    · cases h
  | .par2 i j a b, st, h => by simp [okS] at h
  | .par2o i j a b, st, h => by
    simp only [okS] at h; split at h
    · simp only [Bool.and_eq_true] at h
      obtain ⟨⟨⟨h1, h2⟩, h3⟩, h4⟩ := h
      rcases (Bool.or_eq_true _ _).mp h1 with h1 | h1
      · exact s_par2o g h1 (snd a g h2).1 (sndF g h4 h3)
      · exact s_par2oc g h1 (snd a g h2).1 (sndF g h4 h3)
    · cases h
  | .par1o i j a b, st, h => by simp [okS] at h
  | .asgTo i j a b, st, h => by simp [okS] at h
  | .par2oo i j a b, st, h => by simp [okS] at h
  | .par3o i j k a b d, st, h => by simp [okS] at h
  | .par3z i j k a b d, st, h => by simp [okS] at h
  | .par3m i j k a b d, st, h => by
    simp only [okS] at h; split at h
    · simp only [Bool.and_eq_true] at h
      obtain ⟨⟨⟨⟨h1, h2⟩, h3⟩, h4⟩, h5⟩ := h
      rcases (Bool.or_eq_true _ _).mp h1 with h1 | h1
      · exact s_par3m g h1 (snd a g h2).1 (sndF g h5 h3) (snd d g h4).1
      · exact s_par3mc g h1 (snd a g h2).1 (sndF g h5 h3) (snd d g h4).1
    · cases h
  | .augO i ix o e, st, h => by simp [okS] at h
  | .setOP i ix j e, st, h => by simp [okS] at h
  | .setO i ix e, st, h => by
    simp only [okS] at h; split at h
    · simp only [Bool.and_eq_true, decide_eq_true_eq] at h
      obtain ⟨⟨⟨⟨h1, h2⟩, h3⟩, h4⟩, h5⟩ := h
      exact s_setO g h1 h2 h4 (snd ix g h3).1 (snd e g h5).1
    · cases h
  | .setM r ix e, st, h => by
    simp only [okS] at h; split at h
    · simp only [Bool.and_eq_true] at h
      obtain ⟨⟨⟨h1, h2⟩, h3⟩, h4⟩ := h
      exact s_setM g h3 (snd r g h1).1 (snd ix g h2).1 (snd e g h4).1
    · cases h
  | .app i e, st, h => by
    simp only [okS] at h; split at h
    · simp only [Bool.and_eq_true, decide_eq_true_eq] at h
      obtain ⟨⟨⟨⟨⟨rfl, h1⟩, h2⟩, h3⟩, h4⟩, h5⟩ := h
      exact s_app g h1 h2 h4 h5 (snd e g h3).1
    · cases h
  | .ext i e, st, h => by simp [okS] at h
  | .setO2 i ix ix2 e, st, h => by simp [okS] at h
  | .appM i e, st, h => by simp [okS] at h
  | .popO i j, st, h => by simp [okS] at h
  | .aug i o e, st, h => by
    simp only [okS] at h; split at h
    · simp only [Bool.and_eq_true, decide_eq_true_eq] at h
      obtain ⟨⟨⟨h1, h2⟩, h3⟩, h4⟩ := h
      exact s_aug g h1 h2 h3 (snd e g h4).1
    · cases h
  | .expr e, st, h => by
    simp only [okS] at h; split at h
    · simp only [Bool.and_eq_true] at h
      refine PS.imp (ps_expr (snd e g h.1).1 (sw_no h.2)) fun D σ H ⟨B, Hf, ρ, ω, env, m, s, o⟩ => ?_
      simp only [evS] at o
      obtain ⟨A, B', D', E, F', a1, o1⟩ := s.bindE (Rp := RU X.K) o
      exact ⟨A, B', D', E, F', a1, o1.mono fun x H1 ⟨u, Hf1, ρ1, m1, p, s1, r, o1⟩ => StAt.ok (x := (F.nx, env)) s1 o1⟩
    · cases h
  | .ife k t f, st, h => by
    simp only [okS] at h; split at h
    · simp only [Bool.and_eq_true] at h
      obtain ⟨⟨h1, h2⟩, h3⟩ := h
      refine PS.imp (ps_if (snd k g h1).2 (sndSs hp hq g t h2) (sndSs hp hq g f h3)) fun D σ H ⟨B, Hf, ρ, ω, env, m, s, o⟩ => ?_
      simp only [evS] at o
      obtain ⟨A, B', D', E, F', a1, o1⟩ := s.bindE (f := fun σ m => (evE C k σ m).bind asB) (Rp := RBl) o
      refine ⟨A, B', D', E, F', a1, o1.mono fun b H1 ⟨u, Hf1, ρ1, m1, p, s1, r, o1⟩ => ?_⟩
      cases r
      cases b with
      | true => exact ⟨B, Hf1, ρ1, ω, env, m1, s1, o1⟩
      | false => exact ⟨B, Hf1, ρ1, ω, env, m1, s1, o1⟩
    · cases h
  | .for_ tg it body, st, h => by
    simp only [okS] at h; split at h
    · simp only [Bool.and_eq_true] at h
      obtain ⟨⟨⟨h1, h2⟩, h3⟩, h4⟩ := h
      exact s_for hp g h1 (sndI it g h2) h3 (sndSs hp hq g body h4)
    · cases h
  | .whl k body, st, h => by
    simp only [okS] at h; split at h
    · simp only [Bool.and_eq_true] at h
      exact s_whl hp (snd k g h.1).2 (sndSs hp hq g body h.2)
    · cases h
  | .ret e, st, h => by
    simp only [okS] at h; split at h
    · refine PS.imp (ps_ret (snd e g h).1) fun D σ H ⟨B, Hf, ρ, ω, env, m, s, o⟩ => ?_
      simp only [evS] at o
      obtain ⟨A, B', D', E, F', a1, o1⟩ := s.bindE (Rp := RU X.K) o
      exact ⟨A, B', D', E, F', a1, o1.mono fun x H1 ⟨u, Hf1, ρ1, m1, p, s1, r, o1⟩ => StAt.ok (x := (F.ret u, env)) s1 o1 x r⟩
    · cases h
  | .retN, st, h => by
    simp only [okS] at h; split at h
    · refine PS.imp ps_retN fun D σ H ⟨B, Hf, ρ, ω, env, m, s, o⟩ => ?_
      exact StAt.ok (x := (F.ret (.dat .none), env)) s o _ ⟨.non, rfl⟩
    · cases h
  | .brk, st, h => by
    simp only [okS] at h; split at h
    · exact PS.imp ps_break fun D σ H ⟨B, Hf, ρ, ω, env, m, s, o⟩ => StAt.ok (x := (F.brk, env)) s o
    · cases h
  | .cnt, st, h => by
    simp only [okS] at h; split at h
    · exact PS.imp ps_continue fun D σ H ⟨B, Hf, ρ, ω, env, m, s, o⟩ => StAt.ok (x := (F.cnt, env)) s o
    · cases h
  | .pass, st, h => by
    simp only [okS] at h; split at h
    · exact PS.imp ps_pass fun D σ H ⟨B, Hf, ρ, ω, env, m, s, o⟩ => StAt.ok (x := (F.nx, env)) s o
    · exact PS.imp ps_doc fun D σ H ⟨B, Hf, ρ, ω, env, m, s, o⟩ => StAt.ok (x := (F.nx, env)) s o
    · cases h
  | .raise k e, st, h => by
    cases hno : isNo e with
    | true =>
      refine s_never fun σ m => ?_
      cases e <;> simp only [isNo, Bool.false_eq_true] at hno
      rfl
    | false =>
      simp only [okS, hno, Bool.false_or] at h; split at h
      · simp only [Bool.and_eq_true] at h
        obtain ⟨⟨⟨h1, h2⟩, h3⟩, h4⟩ := h
        split at h1
        · rename_i p hp0
          have := of_decide_eq_true h1
          subst this
          exact s_raise g h2 hp0 (snd e g h3).1 h4
        · cases h1
      · cases h
  | .tryO md e k d, st, h => by simp [okS] at h
  | .tryX md e i k hs, st, h => by simp [okS] at h
theorem sndSs (hp : PassesOwn (model X.prog X.w) X.A X.env X.xe) (hq : X.stack = X.env :: X.outer ∧ X.env.frame = some X.env.locals) (g : GX G N C XR X W c) : ∀ (ss : Ss) {l : List Stmt}, okSs G N c ss l = true → PSs X l (tS X.K XR W (evSs L C ss))
  | .nil, l, h => by
    cases l with
    | nil => exact PSs.imp pss_nil fun D σ H ⟨B, Hf, ρ, ω, env, m, s, o⟩ => StAt.ok (x := (F.nx, env)) s o
    | cons _ _ => simp [okSs] at h
  | .cons s ss, l, h => by
    by_cases hs : ∃ i, s = .frz i
    · obtain ⟨i, rfl⟩ := hs
      simp only [okSs] at h
      refine PSs.imp (sndSs hp hq g ss h) fun D σ H ⟨B, Hf, ρ, ω, env, m, s, o⟩ => ?_
      simp only [evSs, evS] at o
      split at o
      · rename_i xs e
        rw [R.bind_ok] at o
        obtain ⟨Hf', s'⟩ := s.frz e
        exact ⟨B, Hf', ρ, ω, _, m, s', o⟩
      · rw [R.bind_ok] at o
        exact ⟨B, Hf, ρ, ω, env, m, s, o⟩
      · exact o.elim
    · cases l with
      | nil => cases s <;> first | (exact absurd ⟨_, rfl⟩ hs) | (simp [okSs] at h)
      | cons st r =>
        have h' : okS G N c s st = true ∧ okSs G N c ss r = true := by
          cases s <;> first | (exact absurd ⟨_, rfl⟩ hs) | (simpa only [okSs, Bool.and_eq_true] using h)
        refine PSs.imp (pss_cons (sndS hp hq g s h'.1) (sndSs hp hq g ss h'.2)) fun D σ H ⟨B, Hf, ρ, ω, env, m, s1, o⟩ => ?_
        simp only [evSs] at o
        refine ⟨B, Hf, ρ, ω, env, m, s1, OutS.bindS o fun x m' σ' H' Hf' ρ' ω' e s2 o2 => ?_⟩
        obtain ⟨fl, env'⟩ := x
        cases fl with
        | nx => exact ⟨B, Hf', ρ', ω', env', m', s2, o2⟩
        | brk => exact StAt.ok (XR := XR) (W := W) (D := D) (x := (F.brk, env')) s2 o2
        | cnt => exact StAt.ok (XR := XR) (W := W) (D := D) (x := (F.cnt, env')) s2 o2
        | ret u => exact StAt.ok (XR := XR) (W := W) (D := D) (x := (F.ret u, env')) s2 o2
end
end
end Eng

set_option Elab.async false
set_option linter.all false
set_option maxRecDepth 100000
set_option maxHeartbeats 1000000
/-! Defs: every def of a checked table, called n deep. The end of a law. -/
namespace Eng
open PySem PySem.Spec PyProof.Rows L2

/-- the def's name, if it makes lambdas -/
def lamOf (G : Cfg) (x : Str) : Option Str := if x ∈ G.lams then some x else none
structure Tab (Pg : Program) (w : World) (K : PySem.W.Frag) (mg : Str → Option Value) (G : Cfg) (P : Prog) : Prop where
  defs : ∀ f fd, P f = some fd → ∃ st a fdat ps, ps.length = fd.np ∧ Fun K fd.name fd.name st a fdat ∧ mg fd.name = some (.ref a) ∧ (G.kwo.contains f = false → Binds K fdat ps []) ∧ FnScope fd.N ps (defScope st) ∧
    okSs G fd.N ⟨defScope st, fun _ => true, lamOf G fd.name⟩ fd.body (defBody st) = true ∧ ∀ na ks perm, (f, na, ks, perm) ∈ G.kb → KB fdat ps na ks perm
  nm : ∀ f x, G.nm f = some x → ∃ fd, P f = some fd ∧ fd.name = x
  bn : ∀ x ∈ bnames, mg x = none
  gl : ∀ x d, (x, d) ∈ G.gl → ∃ u, mg x = some u ∧ (∀ v, sEq d v = true → ∃ z, RelV z u ∧ (∀ H, Dp K H z v) ∧ szOk v = true)
  gdt : ∀ x kvs nks, (x, kvs, nks) ∈ G.gd → ∃ a es n, mg x = some (.ref a) ∧ KDict K w a es n ∧ (∀ k i, (k, i) ∈ kvs → ∃ t, PySem.W.nsIn K a k = some (some (.int i t))) ∧ ∀ k ∈ nks, PySem.W.nsIn K a k = some none
  xt : XTab Pg K mg G.cl G.ci
  dfs : ∀ p ∈ G.df, DF K mg p
section
variable {Pg : Program} {w : World} {K : PySem.W.Frag} {mg : Str → Option Value} {base : Heap} {G : Cfg} {P : Prog} {L : Nat}
theorem slots_start {Hf H : Hp} {ρ : List Addr} {N : List Str} {vs : List V} {us : List U} (r : RUs K Hf ρ vs us) : Slots K H Hf ρ (fun _ => 0) (L2.start N vs) (us.map Sl.v ++ List.replicate (N.length - us.length) .no) := by
  have hl := r.len
  have noOwn : ∀ (i : Nat) (xs : List PyData), ¬ (us.map Sl.v ++ List.replicate (N.length - us.length) Sl.no)[i]? = some (.own xs) := fun i xs e => by
    rcases List.mem_append.mp (List.mem_of_getElem? e) with h | h
    · obtain ⟨u, _, e⟩ := List.mem_map.mp h; cases e
    · have := List.eq_of_mem_replicate h; cases this
  refine ⟨?_, fun i u e => ?_, fun i xs e => (noOwn i xs e).elim, fun i j xs ys e => (noOwn i xs e).elim⟩
  · unfold L2.start
    rw [List.length_append, List.length_append, List.length_map, List.length_map, List.length_replicate, List.length_replicate, hl]
  · by_cases hi : i < us.length
    · rw [List.getElem?_append_left (by rw [List.length_map]; exact hi), List.getElem?_map, List.getElem?_eq_getElem hi] at e
      cases e
      obtain ⟨v, e1, r1⟩ := r.get (List.getElem?_eq_getElem hi)
      refine ⟨v, ?_, r1⟩
      unfold L2.start
      rw [List.getElem?_append_left (by rw [List.length_map, hl]; exact hi), List.getElem?_map, e1]; rfl
    · rw [List.getElem?_append_right (by rw [List.length_map]; omega)] at e
      have := List.eq_of_mem_replicate (List.mem_of_getElem? e)
      cases this
theorem tab_code {c0 P0 a : Addr} {x : Str} {oc : Value} {od : Option Addr} {fd : FuncData} {osl : Array (Option Value)} (KIn : K.In base) (NB : base.Ns mainGlobals mg) (t : PySem.W.tabIn K x = some (c0, P0)) (hm : mg x = some (.ref a)) (lk : K.lookup a = some ⟨oc, od, .func fd, osl⟩) : fd.code = .ref c0 := by
  unfold PySem.W.tabIn at t
  split at t
  · rename_i f hf
    have e1 := PySem.W.mg_of KIn NB hf
    rw [hm] at e1
    cases e1
    rw [lk] at t
    simp only at t
    split at t
    · rename_i c hc
      split at t
      · split at t
        · cases t; exact hc
        · cases t
      · cases t
    · cases t
  · cases t
theorem fam (T : Tab Pg w K mg G P) (KIn : K.In base) (NB : base.Ns mainGlobals mg) (HT : ∀ x ∈ G.lams, ∃ c0 P0, PySem.W.tabIn K x = some (c0, P0) ∧ LamX.TabB base mg c0 P0) : ∀ (n f : Nat) (fd : FD), P f = some fd → ∃ a fdat ps, mg fd.name = some (.ref a) ∧ PySem.W.keepIn K (.ref a) = true ∧ (G.kwo.contains f = false → Binds K fdat ps []) ∧ FnG Pg w K mg base (3 * n) a fdat ps (spC K (xrG K mg G.cl) (callN L P n f)) ∧
    (∀ na ks perm, (f, na, ks, perm) ∈ G.kb → KB fdat ps na ks perm) ∧ ps.length = fd.np
  | 0, f, fd, h => by
    obtain ⟨st, a, fdat, ps, hp, F, hm, hb, S, ok, kb⟩ := T.defs f fd h
    exact ⟨a, fdat, ps, hm, F.kp, hb, ⟨fun vs H Q E ⟨_, _, _, _, _, _, o⟩ => o.elim, fun A outer s H args us vs Q E _ _ _ _ _ ⟨_, _, _, _, _, _, o⟩ => o.elim⟩, kb, hp⟩
  | n + 1, f, fd, h => by
    obtain ⟨st, a, fdat, ps, hp, F, hm, hb, S, ok, kb⟩ := T.defs f fd h
    refine ⟨a, fdat, ps, hm, F.kp, hb, ?_, kb, hp⟩
    obtain ⟨oc, od, kV, doc, pm, an, cdv, ct, osl, rfl, lk, hcd⟩ := F.ex
    have len : ∀ vs H Q E, spC K (xrG K mg G.cl) (callN L P (n + 1) f) vs H Q E → vs.length = ps.length := fun vs H Q E ⟨Hf, ρ, m, us, fi, r, o⟩ => by
      rw [callN_succ h] at o
      unfold runFD at o
      rw [r.len, hp]
      by_cases hl : us.length = fd.np
      · exact hl
      · rw [if_neg hl] at o; exact (o : False).elim
    have hcode := F
    refine fnG_of (k := 3 * n + 2) lk hcd S len fun A outer s H vs Q E hr hg ⟨Hf, ρ, m, us, fi, r, o⟩ => ?_
    have hl : us.length = fd.np := by rw [← r.len, ← hp]; exact len vs H Q E ⟨Hf, ρ, m, us, fi, r, o⟩
    have g : GX G fd.N (callN L P n) (xrG K mg G.cl) (cxOf (L2.CX Pg w) Pg w K mg base fd.N fd.name (defScope st) a cdv A outer s H E) (fun cls d _ H => E cls d H) ⟨defScope st, fun _ => true, lamOf G fd.name⟩ :=
      ⟨rfl, rfl, rfl, S.nd, rfl, hg, takes_of rfl rfl rfl rfl, by have := hr.un; show (A.deeper _).units + 65 < cLine; omega, T.bn, fun f' x hx => by
        obtain ⟨fd', h1, rfl⟩ := T.nm f' x hx
        obtain ⟨a', fdat', ps', k1, k2, k3, k4, k5, k6⟩ := fam T KIn NB HT n f' fd' h1
        exact ⟨a', fdat', ps', 3 * n, k1, k2, k3, hr.mono (by omega), k4, k5⟩, T.gl, T.gdt, ⟨_, hr⟩, rfl, T.xt, (fun x hx => by
        have hxn : x ∈ G.lams ∧ x = fd.name := by
          have hx' : lamOf G fd.name = some x := hx
          unfold lamOf at hx'
          split at hx'
          · rename_i hm; cases hx'; exact ⟨hm, rfl⟩
          · cases hx'
        obtain ⟨hxl, rfl⟩ := hxn
        obtain ⟨c0, P0, t1, t2⟩ := HT _ hxl
        refine ⟨⟨c0, P0, tab_code KIn NB t1 hm lk, t1, t2⟩, rfl, 3 * n, hr, fun f' x' hx' => ?_⟩
        obtain ⟨fd', h1, rfl⟩ := T.nm f' x' hx'
        obtain ⟨a', fdat', ps', k1, k2, k3, k4, k5, k6⟩ := fam T KIn NB HT n f' fd' h1
        exact ⟨a', fdat', ps', k1, k2, k3, k4, k5⟩), T.dfs⟩
    refine ⟨_, sndSs (L := L) (passes_of rfl) ⟨rfl, rfl⟩ g fd.body ok, ⟨H, Hf, ρ, Hf⟩, Hf, ρ, fun _ => 0, _, m, ⟨⟨m, fi⟩, Pres.refl _ _ _, Sub.refl _, ⟨fi, slots_start r⟩, fun i xs e => ?_⟩, ?_⟩
    · exfalso
      rcases List.mem_append.mp (List.mem_of_getElem? e) with h | h
      · obtain ⟨u, _, e⟩ := List.mem_map.mp h; cases e
      · have := List.eq_of_mem_replicate h; cases this
    · rw [callN_succ h] at o
      unfold runFD at o
      rw [if_pos hl] at o
      cases he : evSs L (callN L P n) fd.body (us.map Sl.v ++ List.replicate (fd.N.length - us.length) .no) m with
      | bad => rw [he] at o; exact (o : False).elim
      | exc c x m1 =>
        rw [he] at o
        exact fun cls d σ' H' Hf' ρ' p f x => o cls d H' Hf' ρ' p f x
      | ok y m1 =>
        rw [he, R.bind_ok] at o
        obtain ⟨fl, env'⟩ := y
        intro σ' H' Hf' ρ' ω' s'
        cases fl with
        | nx => exact o _ H' Hf' ρ' s'.pres s'.at_.fine ⟨.non, rfl⟩
        | ret u => exact fun v rv => o v H' Hf' ρ' s'.pres s'.at_.fine rv
        | brk => exact (o : False).elim
        | cnt => exact (o : False).elim
end
end Eng

set_option Elab.async false
set_option linter.all false
set_option maxRecDepth 100000
set_option maxHeartbeats 1000000
/-! The end of a law: its def is called on the script, where no repr is under way. -/
namespace Eng
open PySem PySem.Spec PyProof.Rows L2 LamX

theorem dp_ints {K : PySem.W.Frag} {H : Hp} : ∀ ns : List Int, DpAll K H (ns.map V.int) (ns.map PyData.int)
  | [] => .nil
  | n :: ns => .cons (.int n) (dp_ints ns)
theorem sz_ints : ∀ ns : List Int, szAll (ns.map PyData.int) = true
  | [] => rfl
  | n :: ns => by show (true && szAll (ns.map PyData.int)) = true; rw [sz_ints ns]; rfl
/-- from a heap in which at most the script is tracked -/
theorem end_core {P : Program} {w : World} {K : PySem.W.Frag} {mg mb : Str → Option Value} {k : Nat} {fa a : Addr} {XR : XRel} {g : List U → Mem → R U} {s₁ : Shared} {vs : List Value} {ns : List Int} {H : Hp}
    (KX : K.In s₁.heap) (hns : s₁.heap.Ns mainGlobals mg) (hb : s₁.heap.Ns builtinsNs mb) (hbb : ∀ x : Str, x ≠ "__name__" → mb x = bootBuiltins x) (hlim : s₁.heap.NoLimit) (hg : s₁.gens = #[])
    (ha : s₁.heap.get? a = some { cls := .type "list", data := .seq vs.toArray }) (hl : ns.length ≤ sizeLine) (hr : Room k callerA)
    (F : ∀ base : Heap, K.In base → base.Ns mainGlobals mg → ∃ fd x, FnG P w K mg base k fa fd [x] (spC K XR g) ∧ ∀ u : Value, BindsTo s₁ fd ⟨[u], []⟩ [(x, u)])
    (hT : ∃ m', g [.dat (.list (ns.map .int))] [] = .ok (.dat (.bool true)) m')
    (hO : Only H) (hS : SqL K H a (ns.map V.int)) (hok : HOk P w H s₁.heap) (hA : ∀ b, H b ≠ none → b = a) (hK : H a ≠ none → K.lookup a = none) :
    codeAny (model P w) callerA (.call (.ref fa) ⟨[.ref a], []⟩) (fun r s' => r = .ok (.ret (.bool true)) ∧ OldK s₁.heap s'.heap ∧ s'.os = s₁.os ∧ AllBare s'.gens) s₁ := by
  have base_of : ∀ {b : Addr} {o : Obj}, s₁.heap.get? b = some o → H b = none → (hidT s₁.heap H).get? b = some o := fun e n => hidT_get e n
  have noA : ∀ {b : Addr} {o : Obj} {es : Array DictEntry} {ep : Nat}, s₁.heap.get? b = some o → o.data = .dict es ep → H b = none := fun {b o es ep} e d => by
    cases q : H b with
    | none => rfl
    | some u =>
      have e' : b = a := hA b (by rw [q]; simp)
      subst e'
      rw [ha] at e; cases e
      have d' : Data.seq vs.toArray _ = Data.dict es ep := d
      cases d'
  have nsK : ∀ {b : Addr} {m : Str → Option Value}, s₁.heap.Ns b m → (hidT s₁.heap H).Ns b m := fun {b m} ⟨o, es, ep, e, d, r⟩ => ⟨o, es, ep, base_of e (noA e d), d, r⟩
  have hKb : K.In (hidT s₁.heap H) := fun b o e => base_of (KX b o e) (by
    cases q : H b with
    | none => rfl
    | some u =>
      have e' : b = a := hA b (by rw [q]; simp)
      subst e'
      rw [hK (by rw [q]; simp)] at e; cases e)
  have hM : Mod K mg (hidT s₁.heap H) := ⟨hKb, nsK hns, ⟨mb, nsK hb, hbb⟩, let ⟨mc, h1, h2⟩ := hlim; ⟨mc, nsK h1, h2⟩⟩
  have e0 : Env0 P w K mg (hidT s₁.heap H) callerA [] s₁ H := ⟨rfl, hM, fun b o e => of_hidT e, Nat.le_of_eq (hidT_size _ _), trivial, fun b hb => absurd (show b ∈ ([] : List Addr) from hb) (by simp), hok, .of_eq hg⟩
  obtain ⟨m', hT⟩ := hT
  obtain ⟨fd, x, hF, hbind⟩ := F _ hKb (nsK hns)
  have sp : spC K XR g [.ref a] H (fun v _ => v = .bl true) fun _ _ _ => False := by
    refine ⟨H, [], [], [.dat (.list (ns.map .int))], ⟨Sub.refl _, List.nodup_nil, fun a h => absurd h (by simp), rfl, fun i a o e => by simp at e⟩, ⟨⟨.lst hS (dp_ints ns), sz_list.mpr ⟨by rw [List.length_map]; exact hl, sz_ints ns⟩⟩, trivial⟩, ?_⟩
    rw [hT]
    intro v H' Hf' ρ' _ _ r
    cases r.1; rfl
  refine codeAny_mono (hF.run callerA [] s₁ H ⟨[.ref a], []⟩ [.ref a] [.ref a] _ _ hr rfl e0 (hbind (.ref a)) (.cons rfl .nil) sp) fun r s' h => ?_
  cases r with
  | error e => obtain ⟨_, _, _, _, _, _, _, _, _, _, _, _, z⟩ := h; exact z.elim
  | ok fl =>
    cases fl with
    | next => exact False.elim h
    | brk => exact False.elim h
    | cont => exact False.elim h
    | ret u =>
      obtain ⟨v, H', os, bare, un, hok', r', q⟩ := h
      have q' : v = .bl true := q
      subst q'
      obtain rfl : u = Value.bool true := r'
      refine ⟨rfl, OldK.of_keep fun b o e => ?_, os, bare⟩
      cases q : H b with
      | none => exact un.keep b o e q (by intro z; exact absurd (show b ∈ ([] : List Addr) from z) (by simp)) (by simp)
      | some u =>
        rcases hO b with z | ⟨ob, xs, z⟩
        · rw [q] at z; cases z
        · have z2 := un.frzs b ob _ z
          obtain ⟨e1, _⟩ := hok b _ z
          obtain ⟨e2, _⟩ := hok' b _ z2
          rw [e] at e1; cases e1
          exact e2
theorem end_call {P : Program} {w : World} {K : PySem.W.Frag} {mg mb : Str → Option Value} {k : Nat} {fa a : Addr} {XR : XRel} {g : List U → Mem → R U} {s₁ : Shared} {vs : List Value} {ns : List Int}
    (KX : K.In s₁.heap) (hns : s₁.heap.Ns mainGlobals mg) (hb : s₁.heap.Ns builtinsNs mb) (hbb : ∀ x : Str, x ≠ "__name__" → mb x = bootBuiltins x) (hlim : s₁.heap.NoLimit) (hg : s₁.gens = #[])
    (ha : s₁.heap.get? a = some { cls := .type "list", data := .seq vs.toArray }) (hi : IntsAre vs ns) (hl : ns.length ≤ sizeLine) (hr : Room k callerA)
    (F : ∀ base : Heap, K.In base → base.Ns mainGlobals mg → ∃ fd x, FnG P w K mg base k fa fd [x] (spC K XR g) ∧ ∀ u : Value, BindsTo s₁ fd ⟨[u], []⟩ [(x, u)])
    (hT : ∃ m', g [.dat (.list (ns.map .int))] [] = .ok (.dat (.bool true)) m') :
    codeAny (model P w) callerA (.call (.ref fa) ⟨[.ref a], []⟩) (fun r s' => r = .ok (.ret (.bool true)) ∧ OldK s₁.heap s'.heap ∧ s'.os = s₁.os ∧ AllBare s'.gens) s₁ := by
  have rv := vals_ints hi
  have lenV := hi.length
  cases hk : K.lookup a with
  | some o =>
    have e := KX a o hk
    rw [ha] at e
    cases e
    exact end_core (H := fun _ => none) KX hns hb hbb hlim hg ha hl hr F hT (fun _ => .inl rfl) (.inr ⟨_, vs.toArray, _, hk, rfl, rfl, rfl, by rw [List.size_toArray, lenV]; exact hl, by simpa using rv⟩) (fun b u z => by have z' : (none : Option HO) = some u := z; cases z') (fun b z => absurd rfl z) fun z => absurd rfl z
  | none =>
    refine end_core (H := fun b => if b = a then some (.frz { cls := .type "list", data := .seq vs.toArray } (.lst (ns.map V.int))) else none) KX hns hb hbb hlim hg ha hl hr F hT (fun b => ?_) (.inl (.inr ⟨{ cls := .type "list", data := .seq vs.toArray }, if_pos rfl⟩)) (fun b u z => ?_) (fun b z => ?_) fun _ => hk
    · by_cases hb : b = a
      · exact .inr ⟨_, _, if_pos hb⟩
      · exact .inl (if_neg hb)
    · by_cases hb : b = a
      · have z' := (if_pos hb).symm.trans z
        cases z'
        subst hb
        exact ⟨ha, by rw [List.length_map]; exact hl, vs, _, rv, ha⟩
      · have z' := (if_neg hb).symm.trans z
        cases z'
    · by_cases hb : b = a
      · exact hb
      · exact absurd (if_neg hb) z
theorem walk_eng {l : PySem.W.OpenLaw} {n k lawId : Nat} {q : Program} {loose : List Str} {XP : (Str → Option Value) → Heap → Prop} {YP : World → Heap → Prop} {d : DefRec} {K : Params → PySem.W.Frag} {G : Cfg} {P : Prog} {L : Nat} {fd : FD}
    (hn : l.most = some n) (hn2 : n ≤ sizeLine) (hdf : d.params.defaults = []) (hr : Room (3 * k) callerA)
    (hY : ∀ (w : World) (h : Heap), YP w h → (K w.params).In h)
    (T : ∀ (w : World) (mg : Str → Option Value) (h : Heap), (K w.params).In h → h.Ns mainGlobals mg → Tab l.prog w (K w.params) mg G P)
    (hfd : P lawId = some fd) (hnm : fd.name = d.name) (hnp : fd.np = 1) (hkw : G.kwo.contains lawId = false) (hlams : G.lams = [])
    (hT : ∀ ns : List Int, ns.length ≤ n → ∃ m', callN L P k lawId [.dat (.list (ns.map .int))] [] = .ok (.dat (.bool true)) m') :
    PySem.W.WalkO q loose XP YP l.row.toRowW d [] (fun f vs => PySem.call f vs) := by
  refine Att.attach_call hn hdf fun w s₀ s₁ mg mb fa o pm cd doc a vs ns Gd Y ho hd hcd hmg hobj hints hlen hg => ?_
  have KX := hY w _ Y
  have Tb := T w mg _ KX Gd.T.g
  refine end_call (k := 3 * k) (XR := xrG (K w.params) mg G.cl) (g := callN L P k lawId) KX Gd.T.g Gd.T.b Gd.T.builtins Gd.T.nolimit hg hobj hints (Nat.le_trans hlen hn2) hr (fun base hKb hNb => ?_) (hT ns hlen)
  obtain ⟨a', fdat, ps, h1, h2, h3, h4, _, h6⟩ := fam (Pg := l.prog) (w := w) (base := base) (L := L) Tb hKb hNb (fun x hx => by rw [hlams] at hx; cases hx) k lawId fd hfd
  rw [hnm, hmg] at h1
  cases h1
  rw [hnp] at h6
  cases ps with
  | nil => cases h6
  | cons x r =>
    cases r with
    | cons _ _ => cases h6
    | nil =>
      refine ⟨fdat, x, h4, fun u => ?_⟩
      have := h3 hkw s₁ [u] KX rfl
      exact this
/-! ### .. with tables of code objects -/
/-- the tables of the defs that make lambdas -/
def tabC (K : PySem.W.Frag) (x : Str) : Addr × Addr := (PySem.W.tabIn K x).getD (0, 0)
def tabsB (K : PySem.W.Frag) (xs : List Str) : Bool := xs.all (fun x => match PySem.W.tabIn K x with | some (_, P) => (K.lookup P).isNone | none => false) && decide ((xs.map fun x => (tabC K x).2).Nodup)
end Eng

set_option Elab.async false
set_option linter.all false
set_option maxRecDepth 100000
set_option maxHeartbeats 1000000
/-! From the facts of a text's defs to its table. -/
namespace Eng
open PySem PySem.Spec PyProof.Rows L2

/-- a def of the text stands in the module as it was written -/
def DI (K : PySem.W.Frag) (x : Str) (st : Stmt) : Prop := ∃ (f : Addr) (fd : FuncData), PySem.W.nsIn K mainGlobals x = some (some (.ref f)) ∧ Fun K x x st f fd
theorem di_mk {K : PySem.W.Frag} {x : Str} {st : Stmt} {f : Addr} {oc : Value} {od an : Option Addr} {osl : Array (Option Value)} {kV doc pm cdv ct : Value} (a : PySem.W.nsIn K mainGlobals x = some (some (.ref f)))
    (l : K.lookup f = some ⟨oc, od, .func (PySem.W.fnOf x x (defArgs st) (defBody st) (defScope st) .none kV doc pm an cdv ct), osl⟩)
    (c : PySem.W.codeIn K cdv x = true) (k : PySem.W.keepIn K (.ref f) = true) : DI K x st := ⟨f, _, a, fun_mk l c k⟩
/-- what is checked of a def by its text alone -/
structure SD (G : Cfg) (f : Nat) (fd : FD) (st : Stmt) : Prop where
  len : (fd.N.take fd.np).length = fd.np
  sc : FnScope fd.N (fd.N.take fd.np) (defScope st)
  ok : okSs G fd.N ⟨defScope st, fun _ => true, lamOf G fd.name⟩ fd.body (defBody st) = true
  bind : G.kwo.contains f = false → ∀ (kV doc pm : Value) (an : Option Addr) (cdv ct : Value) (us : List Value), us.length = (fd.N.take fd.np).length → bindArgs (PySem.W.fnOf fd.name fd.name (defArgs st) (defBody st) (defScope st) .none kV doc pm an cdv ct) ⟨us, []⟩ = pure ((fd.N.take fd.np).zip us)
  kb : ∀ (kV doc pm : Value) (an : Option Addr) (cdv ct : Value) (na : Nat) (ks : List Str) (perm : List Nat), (f, na, ks, perm) ∈ G.kb → KB (PySem.W.fnOf fd.name fd.name (defArgs st) (defBody st) (defScope st) .none kV doc pm an cdv ct) (fd.N.take fd.np) na ks perm
/-- .. of a def that calls what it got -/
def SDF (p : Str × Stmt × List Str) : Prop := ∃ pa nn, p.2.2 = [pa, nn] ∧ FnScope [pa, nn] [pa] (defScope p.2.1) ∧
  ∀ (kV doc pm : Value) (an : Option Addr) (cdv ct : Value) (us : List Value), us.length = [pa].length → bindArgs (PySem.W.fnOf p.1 p.1 (defArgs p.2.1) (defBody p.2.1) (defScope p.2.1) .none kV doc pm an cdv ct) ⟨us, []⟩ = pure ([pa].zip us)
def allSDF : List (Str × Stmt × List Str) → Prop
  | [] => True
  | p :: r => SDF p ∧ allSDF r
def allDIF (K : PySem.W.Frag) : List (Str × Stmt × List Str) → Prop
  | [] => True
  | p :: r => DI K p.1 p.2.1 ∧ allDIF K r
theorem allSDF.get : ∀ {l : List (Str × Stmt × List Str)}, allSDF l → ∀ p ∈ l, SDF p
  | [], _, _, h => absurd h (by simp)
  | x :: r, a, e, h => by
    rcases List.mem_cons.mp h with rfl | h
    · exact a.1
    · exact allSDF.get a.2 e h
theorem allDIF.get {K : PySem.W.Frag} : ∀ {l : List (Str × Stmt × List Str)}, allDIF K l → ∀ p ∈ l, DI K p.1 p.2.1
  | [], _, _, h => absurd h (by simp)
  | x :: r, a, e, h => by
    rcases List.mem_cons.mp h with rfl | h
    · exact a.1
    · exact allDIF.get a.2 e h
abbrev Tb := List (Nat × FD × Stmt)
def Tb.prog (t : Tb) : Prog := fun f => (t.lookup f).map (·.1)
def Tb.nm (t : Tb) : Nat → Option Str := fun f => (t.lookup f).map (·.1.name)
def allDI (K : PySem.W.Frag) : Tb → Prop
  | [] => True
  | e :: r => DI K e.2.1.name e.2.2 ∧ allDI K r
def allSD (G : Cfg) : Tb → Prop
  | [] => True
  | e :: r => SD G e.1 e.2.1 e.2.2 ∧ allSD G r
theorem lookupN {α : Type} : ∀ {l : List (Nat × α)} {n : Nat} {c : α}, l.lookup n = some c → (n, c) ∈ l
  | [], _, _, h => by cases h
  | (k, v) :: r, n, c, h => by
    rw [List.lookup_cons] at h
    by_cases e : n = k
    · subst e; simp at h; subst h; exact List.mem_cons_self
    · rw [show (n == k) = false by simpa using e] at h
      exact List.mem_cons_of_mem _ (lookupN h)
theorem allDI.get {K : PySem.W.Frag} : ∀ {t : Tb}, allDI K t → ∀ e ∈ t, DI K e.2.1.name e.2.2
  | [], _, e, h => absurd h (by simp)
  | x :: r, a, e, h => by
    rcases List.mem_cons.mp h with rfl | h
    · exact a.1
    · exact allDI.get a.2 e h
theorem allSD.get {G : Cfg} : ∀ {t : Tb}, allSD G t → ∀ e ∈ t, SD G e.1 e.2.1 e.2.2
  | [], _, e, h => absurd h (by simp)
  | x :: r, a, e, h => by
    rcases List.mem_cons.mp h with rfl | h
    · exact a.1
    · exact allSD.get a.2 e h
def allNone (K : PySem.W.Frag) : List Str → Prop
  | [] => True
  | x :: r => PySem.W.nsIn K mainGlobals x = some none ∧ allNone K r
def glOk (K : PySem.W.Frag) (x : Str × PyData) : Prop := (∃ i t, x.2 = .int i ∧ PySem.W.nsIn K mainGlobals x.1 = some (some (.int i t))) ∨ ∃ z t, x.2 = .str z ∧ szOk (.str z) = true ∧ PySem.W.nsIn K mainGlobals x.1 = some (some (.str z t))
def allInts (K : PySem.W.Frag) : List (Str × PyData) → Prop
  | [] => True
  | x :: r => glOk K x ∧ allInts K r
def allKv (K : PySem.W.Frag) (a : Addr) : List (Str × Int) → Prop
  | [] => True
  | x :: r => (∃ t, PySem.W.nsIn K a x.1 = some (some (.int x.2 t))) ∧ allKv K a r
def allNk (K : PySem.W.Frag) (a : Addr) : List Str → Prop
  | [] => True
  | x :: r => PySem.W.nsIn K a x = some none ∧ allNk K a r
theorem allKv.get {K : PySem.W.Frag} {a : Addr} : ∀ {l : List (Str × Int)}, allKv K a l → ∀ k i, (k, i) ∈ l → ∃ t, PySem.W.nsIn K a k = some (some (.int i t))
  | [], _, k, i, h => absurd h (by simp)
  | x :: r, ⟨h1, h2⟩, k, i, h => by
    rcases List.mem_cons.mp h with e | h
    · rw [← e] at h1; exact h1
    · exact allKv.get h2 k i h
theorem allNk.get {K : PySem.W.Frag} {a : Addr} : ∀ {l : List Str}, allNk K a l → ∀ k ∈ l, PySem.W.nsIn K a k = some none
  | [], _, k, h => absurd h (by simp)
  | x :: r, ⟨h1, h2⟩, k, h => by
    rcases List.mem_cons.mp h with e | h
    · rw [e]; exact h1
    · exact allNk.get h2 k h
def gdOk (w : World) (K : PySem.W.Frag) (x : Str × List (Str × Int) × List Str) : Prop := ∃ a, PySem.W.nsIn K mainGlobals x.1 = some (some (.ref a)) ∧ He.dicW K a = some (He.keysIn w.params (x.2.1.map (·.1))) ∧ allKv K a x.2.1 ∧ allNk K a x.2.2
def allGd (w : World) (K : PySem.W.Frag) : List (Str × List (Str × Int) × List Str) → Prop
  | [] => True
  | x :: r => gdOk w K x ∧ allGd w K r
theorem gi_mk {K : PySem.W.Frag} {x : Str} {i : Int} {t : Tok} (a : PySem.W.nsIn K mainGlobals x = some (some (.int i t))) : glOk K (x, PyData.int i) := .inl ⟨i, t, rfl, a⟩
theorem tab_of {Pg : Program} {w : World} {K : PySem.W.Frag} {mg : Str → Option Value} {h : Heap} {t : Tb} {G : Cfg} (KX : K.In h) (Gn : h.Ns mainGlobals mg) (hnm : G.nm = t.nm) (dI : allDI K t) (sD : allSD G t) (nI : allNone K bnames) (gI : allInts K G.gl) (dD : allGd w K G.gd) (xT : XTab Pg K mg G.cl G.ci) (dF : allDIF K G.df) (sF : allSDF G.df) : Tab Pg w K mg G t.prog := by
  refine ⟨fun f fd hf => ?_, fun f x hx => ?_, fun x hx => ?_, fun x d hx => ?_, fun x kvs nks hx => ?_, xT, fun p hp => ?_⟩
  · unfold Tb.prog at hf
    rw [Option.map_eq_some_iff] at hf
    obtain ⟨⟨fd', st⟩, e, rfl⟩ := hf
    have hm := lookupN e
    obtain ⟨a, fdat, a1, F⟩ := dI.get _ hm
    have S := sD.get _ hm
    obtain ⟨oc, od, kV, doc, pm, an, cdv, ct, osl, rfl, lk, hcd⟩ := F.ex
    exact ⟨st, a, _, _, S.len, F, PySem.W.mg_of KX Gn a1, fun hk => F.binds (S.bind hk), S.sc, S.ok, fun na ks perm h => S.kb kV doc pm an cdv ct na ks perm h⟩
  · rw [hnm] at hx
    unfold Tb.nm at hx
    rw [Option.map_eq_some_iff] at hx
    obtain ⟨e, he, rfl⟩ := hx
    exact ⟨e.1, by unfold Tb.prog; rw [he]; rfl, rfl⟩
  · have : ∀ l : List Str, allNone K l → x ∈ l → mg x = none := fun l => by
      induction l with
      | nil => intro _ h; exact absurd h (by simp)
      | cons y r ih =>
        intro a h
        rcases List.mem_cons.mp h with rfl | h
        · exact PySem.W.mg_none_of KX Gn a.1
        · exact ih a.2 h
    exact this _ nI hx
  · have : ∀ l : List (Str × PyData), allInts K l → (x, d) ∈ l → glOk K (x, d) := fun l => by
      induction l with
      | nil => intro _ h; exact absurd h (by simp)
      | cons y r ih =>
        intro a h
        rcases List.mem_cons.mp h with e | h
        · rw [e]; exact a.1
        · exact ih a.2 h
    rcases this _ gI hx with ⟨i, tk, e0, e⟩ | ⟨z, tk, e0, hz, e⟩
    · have e0 : d = .int i := e0
      subst e0
      refine ⟨_, PySem.W.mg_of KX Gn e, fun v hv => ?_⟩
      cases v <;> simp only [sEq, Bool.false_eq_true] at hv
      rw [beq_iff_eq] at hv
      subst hv
      exact ⟨.int _, ⟨tk, rfl⟩, fun _ => .int _, rfl⟩
    · have e0 : d = .str z := e0
      subst e0
      refine ⟨_, PySem.W.mg_of KX Gn e, fun v hv => ?_⟩
      cases v <;> simp only [sEq, Bool.false_eq_true, decide_eq_true_eq] at hv
      subst hv
      exact ⟨.str _, ⟨tk, rfl⟩, fun _ => .str _, hz⟩
  · have : ∀ l : List (Str × List (Str × Int) × List Str), allGd w K l → (x, kvs, nks) ∈ l → gdOk w K (x, kvs, nks) := fun l => by
      induction l with
      | nil => intro _ h; exact absurd h (by simp)
      | cons y r ih =>
        intro a h
        rcases List.mem_cons.mp h with e | h
        · rw [e]; exact a.1
        · exact ih a.2 h
    obtain ⟨a, h1, h2, h3, h4⟩ := this _ dD hx
    obtain ⟨es, n, D⟩ := He.dicW_ok h2
    exact ⟨a, es, n, PySem.W.mg_of KX Gn h1, D, h3.get, h4.get⟩
  · obtain ⟨a, fdat, a1, F⟩ := dF.get p hp
    obtain ⟨pa, nn, h1, h2, h3⟩ := sF.get p hp
    exact ⟨a, fdat, pa, nn, h1, PySem.W.mg_of KX Gn a1, F.kp, F, F.binds h3, h2⟩
/-! ### own errors: from the written part -/
def allOwn (Pg : Program) (K : PySem.W.Frag) (mg : Str → Option Value) : List (Str × Str) → List Addr → Prop
  | [], [] => True
  | p :: r, a :: as => (∃ fI, EngX.OwnTxt Pg K mg p.1 p.2 a fI) ∧ allOwn Pg K mg r as
  | _, _ => False
theorem allOwn.get {Pg : Program} {K : PySem.W.Frag} {mg : Str → Option Value} : ∀ {cl : List (Str × Str)} {A : List Addr}, allOwn Pg K mg cl A → ∀ (k : Nat) (p : Str × Str), cl[k]? = some p → ∃ a, A[k]? = some a ∧ ∃ fI, EngX.OwnTxt Pg K mg p.1 p.2 a fI
  | [], [], _, k, p, h => by simp at h
  | [], _ :: _, h, _, _, _ => h.elim
  | _ :: _, [], h, _, _, _ => h.elim
  | q :: r, a :: as, ⟨h1, h2⟩, 0, p, h => by cases h; exact ⟨a, rfl, h1⟩
  | q :: r, a :: as, ⟨h1, h2⟩, k + 1, p, h => allOwn.get h2 k p h
def rowSub (K : PySem.W.Frag) (a : Addr) (i : Nat) : Nat → List Addr → Prop
  | _, [] => True
  | j, b :: r => PySem.W.subIn K (.ref a) (.ref b) = some (decide (i = j)) ∧ rowSub K a i (j + 1) r
def matSub (K : PySem.W.Frag) (all : List Addr) : Nat → List Addr → Prop
  | _, [] => True
  | i, a :: r => rowSub K a i 0 all ∧ matSub K all (i + 1) r
theorem rowSub.get {K : PySem.W.Frag} {a : Addr} {i : Nat} : ∀ {l : List Addr} {j : Nat}, rowSub K a i j l → ∀ (k : Nat) (b : Addr), l[k]? = some b → PySem.W.subIn K (.ref a) (.ref b) = some (decide (i = j + k))
  | [], _, _, k, b, h => by simp at h
  | x :: r, j, ⟨h1, h2⟩, 0, b, h => by cases h; exact h1
  | x :: r, j, ⟨h1, h2⟩, k + 1, b, h => by
    have := rowSub.get h2 k b h
    rw [show j + (k + 1) = j + 1 + k by omega]; exact this
theorem matSub.get {K : PySem.W.Frag} {all : List Addr} : ∀ {l : List Addr} {i : Nat}, matSub K all i l → ∀ (k : Nat) (a : Addr), l[k]? = some a → rowSub K a (i + k) 0 all
  | [], _, _, k, a, h => by simp at h
  | x :: r, i, ⟨h1, h2⟩, 0, a, h => by cases h; exact h1
  | x :: r, i, ⟨h1, h2⟩, k + 1, a, h => by
    have := matSub.get h2 k a h
    rw [show i + (k + 1) = i + 1 + k by omega]; exact this
def isxOk (K : PySem.W.Frag) (A : List Addr) (x : Nat × Str × Bool) : Prop := ∃ Ca Cd, A[x.1]? = some Ca ∧ PySem.W.nsIn K mainGlobals x.2.1 = some (some (.ref Cd)) ∧ PySem.W.kitOne K (.ref Ca) (.ref Cd) = some x.2.2 ∧
  PySem.W.findIn K (.ref Ca) "__class__" = some (some (.builtin "object.__class__")) ∧ PySem.W.specialIn K (.builtin "object.__class__") "__get__" = some (some (.builtin "getset_descriptor.__get__")) ∧ PySem.W.takesIn K (.builtin "object.__class__") = some true ∧ PySem.W.mroIn K Ca (.type "object") = some true
def allIsx (K : PySem.W.Frag) (A : List Addr) : List (Nat × Str × Bool) → Prop
  | [] => True
  | x :: r => isxOk K A x ∧ allIsx K A r
theorem allIsx.get {K : PySem.W.Frag} {A : List Addr} : ∀ {l : List (Nat × Str × Bool)}, allIsx K A l → ∀ x ∈ l, isxOk K A x
  | [], _, x, h => absurd h (by simp)
  | y :: r, ⟨h1, h2⟩, x, h => by
    rcases List.mem_cons.mp h with rfl | h
    · exact h1
    · exact allIsx.get h2 x h
end Eng

set_option Elab.async false
set_option linter.all false
set_option maxRecDepth 100000
set_option maxHeartbeats 1000000
/-! The evaluator, step by step. -/
namespace Eng
open PySem
section
variable {C : Calls} {σ : Env} {m : Mem} {L : Nat}
@[simp] theorem ev_cst {d : PyData} : evE C (.cst d) σ m = .ok (.dat d) m := rfl
@[simp] theorem ev_glb {x : Str} {d : PyData} : evE C (.glb x d) σ m = .ok (.dat d) m := rfl
@[simp] theorem ev_var {i : Nat} : evE C (.var i) σ m = getV σ i m := rfl
@[simp] theorem ev_tup {es : Es} : evE C (.tup es) σ m = (evEs C es σ m).bind asTup := rfl
@[simp] theorem ev_lst {es : Es} : evE C (.lst es) σ m = (evEs C es σ m).bind asLst := rfl
@[simp] theorem ev_lmul {es : Es} {k : E} : evE C (.lmul es k) σ m = ((evEs C es σ m).bind asLst).bind fun x m1 => (evE C k σ m1).bind fun y m2 => d2 lmulV x y m2 := rfl
@[simp] theorem ev_sset {a : E} : evE C (.sset a) σ m = (evE C a σ m).bind (d1 ssetX) := rfl
@[simp] theorem ev_lset {a : E} : evE C (.lset a) σ m = (evE C a σ m).bind (d1 lsetV) := rfl
@[simp] theorem ev_bor {i : Nat} {a : E} : evE C (.bor i a) σ m = match frzV i σ with
    | some σ1 => borU (evE C a σ1 m)
    | none => .bad := rfl
@[simp] theorem bA_bor {i : Nat} {a : E} : bA (.bor i a) f σ m = f σ m := rfl
@[simp] theorem bA_lset {a : E} : bA (.lset a) f σ m = f σ m := rfl
@[simp] theorem bA_sset {a : E} : bA (.sset a) f σ m = f σ m := rfl
@[simp] theorem ev_sortk {a : E} : evE C (.sortk a) σ m = (evE C a σ m).bind sortKU := rfl
@[simp] theorem ev_dget {i : Nat} {es : Es} : evE C (.dget i es) σ m = ((getV σ i m).bind dctU).bind fun k m1 => (evEs C es σ m1).bind fun us m2 => dgetU k us m2 := rfl
@[simp] theorem ev_newD1 {k v : E} : evE C (.newD1 k v) σ m = (evE C k σ (m ++ [.dct []])).bind fun x m1 => (evE C v σ m1).bind fun y m2 => newD1U m.length x y m2 := rfl
@[simp] theorem ev_keysl {a : E} : evE C (.keysl a) σ m = (evE C a σ m).bind keysU := rfl
@[simp] theorem bA_newD1 {k v : E} : bA (.newD1 k v) f σ m = f σ m := rfl
@[simp] theorem ev_newRs {tg : Tg} {it : It} {own : List (Str × Nat)} : evE C (.newRs tg it own) σ m = ((evI C it σ m).bind sizeU).bind fun ds m1 => rsGo tg (wipeE σ (own.map (·.2))) ds m1 := rfl
@[simp] theorem bA_newRs {tg : Tg} {it : It} {own : List (Str × Nat)} : bA (.newRs tg it own) f σ m = f σ m := rfl
@[simp] theorem ev_popM {i : Nat} : evE C (.popM i) σ m = popMGo σ i m := rfl
@[simp] theorem bA_popM {i : Nat} : bA (.popM i) f σ m = f σ m := rfl
@[simp] theorem bA_ssc {elt : E} {tg : Tg} {it : It} {cond : E} {own : List (Str × Nat)} : bA (.ssc elt tg it cond own) f σ m = f σ m := rfl
@[simp] theorem ev_iteN {t a b : E} : evE C (.iteN t a b) σ m = ((evE C t σ m).bind asNz).bind fun c m1 => if c = true then evE C a σ m1 else evE C b σ m1 := rfl
@[simp] theorem asNz_int {i : Int} : asNz (.dat (.int i)) m = .ok (i != 0) m := rfl
@[simp] theorem bA_iteN {t a b : E} : bA (.iteN t a b) f σ m = f σ m := rfl
@[simp] theorem ev_dictP {a : E} : evE C (.dictP a) σ m = (evE C a σ m).bind dictPU := rfl
@[simp] theorem ev_lrng {a : E} : evE C (.lrng a) σ m = ((evE C a σ m).bind asInt).bind lrngU := rfl
@[simp] theorem bA_dictP {a : E} : bA (.dictP a) f σ m = f σ m := rfl
@[simp] theorem bA_lrng {a : E} : bA (.lrng a) f σ m = f σ m := rfl
@[simp] theorem ev_dlen {a : E} : evE C (.dlen a) σ m = (evE C a σ m).bind dlenU := rfl
@[simp] theorem ev_hear {xs : List Str} {x y : Str} {hd : HD} {e : E} : evE C (.hear xs x y hd e) σ m = @ite _ (tabsOk xs m) (Classical.propDecidable _) (hearGo hd (evE C e σ m)) .bad := rfl
@[simp] theorem bA_hear {xs : List Str} {x y : Str} {hd : HD} {e : E} : bA (.hear xs x y hd e) f σ m = f σ m := rfl
@[simp] theorem ev_idx {a b : E} : evE C (.idx a b) σ m = (evE C a σ m).bind fun x m1 => (lstU x m1).bind fun ds m2 => (evE C b σ m2).bind (d1 (idxV ds)) := rfl
@[simp] theorem bA_idx {a b : E} : bA (.idx a b) f σ m = f σ m := rfl
@[simp] theorem lstU_list {ds : List PyData} : lstU (.dat (.list ds)) m = .ok ds m := rfl
@[simp] theorem bA_dlen {a : E} : bA (.dlen a) f σ m = f σ m := rfl
@[simp] theorem bA_keysl {a : E} : bA (.keysl a) f σ m = f σ m := rfl
@[simp] theorem revD_tuple (xs : List PyData) : revD (.tuple xs) = some (.tuple xs.reverse) := rfl
@[simp] theorem ev_newD : evE C .newD σ m = .ok (.ref m.length) (m ++ [.dct []]) := rfl
@[simp] theorem ev_din {n : Bool} {a d : E} : evE C (.din n a d) σ m = (evE C a σ m).bind fun x m1 => (evE C d σ m1).bind fun y m2 => dinU n x y m2 := rfl
@[simp] theorem ev_newl {es : Es} : evE C (.newl es) σ m = (evEs C es σ m).bind asNew := rfl
@[simp] theorem ev_bin {o : BinO} {a b : E} : evE C (.bin o a b) σ m = (bA a (evE C a) σ m).bind fun x m1 => (bA b (evE C b) σ m1).bind fun y m2 => d2 (binVal o) x y m2 := rfl
@[simp] theorem ev_ladd {a b : E} : evE C (.ladd a b) σ m = (bA a (evE C a) σ m).bind fun x m1 => (bA b (evE C b) σ m1).bind fun y m2 => d2 (laddV) x y m2 := rfl
@[simp] theorem ev_neg {a : E} : evE C (.neg a) σ m = (evE C a σ m).bind (d1 negD) := rfl
@[simp] theorem ev_not {a : E} : evE C (.not a) σ m = ((evE C a σ m).bind asB).bind fun b m1 => .ok (.dat (.bool (!b))) m1 := rfl
@[simp] theorem ev_and {a b : E} : evE C (.and a b) σ m = ((evE C a σ m).bind asB).bind fun c m1 => if c = true then evE C b σ m1 else .ok (.dat (.bool false)) m1 := rfl
@[simp] theorem ev_or {a b : E} : evE C (.or a b) σ m = ((evE C a σ m).bind asB).bind fun c m1 => if c = true then .ok (.dat (.bool true)) m1 else evE C b σ m1 := rfl
@[simp] theorem ev_cmp {o : CmpO} {a b : E} : evE C (.cmp o a b) σ m = (bA a (evE C a) σ m).bind fun x m1 => (bA b (evE C b) σ m1).bind fun y m2 => d2 (cmpVal o) x y m2 := rfl
@[simp] theorem ev_chain {o o' : CmpO} {a b c : E} : evE C (.chain o o' a b c) σ m = (bA a (evE C a) σ m).bind fun x m1 => (bA b (evE C b) σ m1).bind fun y m2 => (c2 (cmpVal o) x y m2).bind fun k m3 =>
      if k = true then (bA c (evE C c) σ m3).bind fun z m4 => d2 (cmpVal o') y z m4 else .ok (.dat (.bool false)) m3 := rfl
@[simp] theorem ev_ite {t a b : E} : evE C (.ite t a b) σ m = ((evE C t σ m).bind asB).bind fun c m1 => if c = true then evE C a σ m1 else evE C b σ m1 := rfl
@[simp] theorem ev_call {f : Nat} {es : Es} : evE C (.call f es) σ m = (evEs C es σ m).bind fun us m1 => C f us m1 := rfl
@[simp] theorem ev_callk {f : Nat} {es ks : Es} {perm : List Nat} : evE C (.callk f es ks perm) σ m = (evEs C es σ m).bind fun us m1 => (evEs C ks σ m1).bind fun zs m2 => (R.ofO (permL (us ++ zs) perm) m2).bind fun ws m3 => C f ws m3 := rfl
@[simp] theorem ev_rev {a : E} : evE C (.rev a) σ m = (bA a (evE C a) σ m).bind (d1 revD) := rfl
@[simp] theorem ev_gd {o : GdO} {x : Str} {kvs : List (Str × Int)} {nks : List Str} {a : E} : evE C (.gd o x kvs nks a) σ m = (evE C a σ m).bind (d1 (gdVal o kvs nks)) := rfl
@[simp] theorem revD_list (xs : List PyData) : revD (.list xs) = some (.list xs.reverse) := rfl
@[simp] theorem ev_b1 {f : B1} {a : E} : evE C (.b1 f a) σ m = (bA a (evE C a) σ m).bind (d1 (b1Val f)) := rfl
@[simp] theorem ev_b2 {f : B2} {a b : E} : evE C (.b2 f a b) σ m = (evE C a σ m).bind fun x m1 => (evE C b σ m1).bind fun y m2 => d2 (b2Val f) x y m2 := rfl
@[simp] theorem ev_isi {a : E} {c : ClsT} : evE C (.isi a c) σ m = (evE C a σ m).bind (d1 fun d => some (.bool (clsVal c d))) := rfl
@[simp] theorem ev_isi2 {a : E} {c c' : ClsT} : evE C (.isi2 a c c') σ m = (evE C a σ m).bind (d1 fun d => some (.bool (clsVal c d || clsVal c' d))) := rfl
@[simp] theorem ev_ix {a i : E} : evE C (.ix a i) σ m = (bA a (evE C a) σ m).bind fun x m1 => (evE C i σ m1).bind fun y m2 => ixU x y m2 := rfl
@[simp] theorem ev_sl {a lo hi : E} : evE C (.sl a lo hi) σ m = (bA a (evE C a) σ m).bind fun x m1 => (oA lo (evE C lo) σ m1).bind fun l m2 => (oA hi (evE C hi) σ m2).bind fun h m3 => d1 (fun d => slVal d l h) x m3 := rfl
@[simp] theorem ev_nil : evEs C .nil σ m = .ok [] m := rfl
@[simp] theorem ev_cons {e : E} {es : Es} : evEs C (.cons e es) σ m = (evE C e σ m).bind fun u m1 => (evEs C es σ m1).bind fun us m2 => .ok (u :: us) m2 := rfl
@[simp] theorem bA_bv {i : Nat} {f : Env → Mem → R U} : bA (.bv i) f σ m = getB σ i m := rfl
@[simp] theorem it_seq {e : E} : evI C (.seq e) σ m = (evE C e σ m).bind seqU := rfl
@[simp] theorem it_rng1 {a : E} : evI C (.rng1 a) σ m = ((evE C a σ m).bind asInt).bind rng1U := rfl
@[simp] theorem it_rng2 {a b : E} : evI C (.rng2 a b) σ m = ((evE C a σ m).bind asInt).bind fun i m1 => ((evE C b σ m1).bind asInt).bind fun j m2 => rng2U i j m2 := rfl
@[simp] theorem it_enum {e : E} : evI C (.enum e) σ m = ((evE C e σ m).bind seqU).bind enumU := rfl
@[simp] theorem it_zip {a b : E} : evI C (.zip2 a b) σ m = (evE C a σ m).bind fun x m1 => (evE C b σ m1).bind fun y m2 => zipU x y m2 := rfl
section
variable {f : Env → Mem → R U}
@[simp] theorem bA_cst {d : PyData} : bA (.cst d) f σ m = f σ m := rfl
@[simp] theorem bA_rev {a : E} : bA (.rev a) f σ m = f σ m := rfl
@[simp] theorem bA_gd {o : GdO} {x : Str} {kvs : List (Str × Int)} {nks : List Str} {a : E} : bA (.gd o x kvs nks a) f σ m = f σ m := rfl
@[simp] theorem bA_glb {x : Str} {d : PyData} : bA (.glb x d) f σ m = f σ m := rfl
@[simp] theorem bA_var {i : Nat} : bA (.var i) f σ m = f σ m := rfl
@[simp] theorem bA_tup {es : Es} : bA (.tup es) f σ m = f σ m := rfl
@[simp] theorem bA_lst {es : Es} : bA (.lst es) f σ m = f σ m := rfl
@[simp] theorem bA_bin {o : BinO} {a b : E} : bA (.bin o a b) f σ m = f σ m := rfl
@[simp] theorem bA_neg {a : E} : bA (.neg a) f σ m = f σ m := rfl
@[simp] theorem bA_ite {a b c : E} : bA (.ite a b c) f σ m = f σ m := rfl
@[simp] theorem bA_cmp {o : CmpO} {a b : E} : bA (.cmp o a b) f σ m = f σ m := rfl
@[simp] theorem bA_call {k : Nat} {es : Es} : bA (.call k es) f σ m = f σ m := rfl
@[simp] theorem bA_callk {k : Nat} {es ks : Es} {p : List Nat} : bA (.callk k es ks p) f σ m = f σ m := rfl
@[simp] theorem bA_ladd {a b : E} : bA (.ladd a b) f σ m = f σ m := rfl
@[simp] theorem bA_lmul {es : Es} {k : E} : bA (.lmul es k) f σ m = f σ m := rfl
@[simp] theorem bA_dget {i : Nat} {es : Es} : bA (.dget i es) f σ m = f σ m := rfl
@[simp] theorem bA_sortk {a : E} : bA (.sortk a) f σ m = f σ m := rfl
@[simp] theorem bA_b1 {k : B1} {a : E} : bA (.b1 k a) f σ m = f σ m := rfl
@[simp] theorem bA_b2 {k : B2} {a b : E} : bA (.b2 k a b) f σ m = f σ m := rfl
@[simp] theorem bA_ix {a b : E} : bA (.ix a b) f σ m = f σ m := rfl
@[simp] theorem bA_sl {a b c : E} : bA (.sl a b c) f σ m = f σ m := rfl
end
theorem sizeU_ok {xs : List PyData} (h : xs.length ≤ sizeLine) : sizeU xs m = .ok xs m := if_pos h
/-- a list comprehension -/
theorem ev_comp {elt : E} {tg : Tg} {it : It} {cond : E} {own : List (Str × Nat)} {ds xs : List PyData} {m1 m2 : Mem} (hI : evI C it σ m = .ok ds m1) (hl : ds.length ≤ sizeLine)
    (hc : compGo (fun σ m => (evE C elt σ m).quiet) (cA cond (evE C cond)) tg (wipeE σ (own.map (·.2))) ds m1 = .ok xs m2) : evE C (.comp elt tg it cond own) σ m = .ok (.dat (.list xs)) m2 := by
  show (((evI C it σ m).bind sizeU).bind fun ds m1 => (compGo (fun σ m => (evE C elt σ m).quiet) (cA cond (evE C cond)) tg (wipeE σ (own.map (·.2))) ds m1).quiet.bind fun xs m2 => (R.ok (U.dat (.list xs)) m2 : R U)) = _
  rw [hI, R.bind_ok, sizeU_ok hl, R.bind_ok, hc]; rfl
/-! statements -/
@[simp] theorem s_asgE {i : Nat} {e : E} : evS L C (.asg i e) σ m = (evE C e σ m).bind fun u m1 => match setE σ i (.v u) with
    | some σ' => .ok (.nx, σ') m1
    | none => .bad := rfl
@[simp] theorem s_ownE {i : Nat} {e : E} : evS L C (.own i e) σ m = (evE C e σ m).bind fun u m1 => match u with
    | .dat (.list xs) => match setE σ i (.own xs) with
      | some σ' => .ok (.nx, σ') m1
      | none => .bad
    | _ => .bad := rfl
@[simp] theorem s_frzE {i : Nat} : evS L C (.frz i) σ m = match σ[i]? with
    | some (.own xs) => .ok (.nx, σ.set i (.v (.dat (.list xs)))) m
    | some (.v u) => .ok (.nx, σ) m
    | _ => .bad := rfl
@[simp] theorem s_par2E {i j : Nat} {a b : E} : evS L C (.par2 i j a b) σ m = (evE C a σ m).bind fun x m1 => (evE C b σ m1).bind fun y m2 => match (setE σ i (.v x)).bind fun σ' => setE σ' j (.v y) with
    | some σ' => .ok (.nx, σ') m2
    | none => .bad := rfl
@[simp] theorem s_par2oE {i j : Nat} {a b : E} : evS L C (.par2o i j a b) σ m = (evE C a σ m).bind fun x m1 => (evE C b σ m1).bind fun y m2 => match y with
    | .dat (.list xs) => match (setE σ i (.v x)).bind fun σ' => setE σ' j (.own xs) with
      | some σ' => .ok (.nx, σ') m2
      | none => .bad
    | _ => .bad := rfl
@[simp] theorem s_par1oE {i j : Nat} {a b : E} : evS L C (.par1o i j a b) σ m = (evE C a σ m).bind fun x m1 => match x with
    | .dat (.list xs) => (evE C b σ m1).bind fun y m2 => match (setE σ i (.own xs)).bind fun σ' => setE σ' j (.v y) with
      | some σ' => .ok (.nx, σ') m2
      | none => .bad
    | _ => .bad := rfl
@[simp] theorem s_asgToE {i j : Nat} {a b : E} : evS L C (.asgTo i j a b) σ m = (evE C a σ m).bind fun x m1 => match x with
    | .dat (.list xs) => (evE C b σ m1).bind fun y m2 => match (setE σ i (.own xs)).bind fun σ' => setE σ' j (.v y) with
      | some σ' => .ok (.nx, σ') m2
      | none => .bad
    | _ => .bad := rfl
@[simp] theorem s_par2ooE {i j : Nat} {a b : E} : evS L C (.par2oo i j a b) σ m = (evE C a σ m).bind fun x m1 => match x with
    | .dat (.list xs) => (evE C b σ m1).bind fun y m2 => match y with
      | .dat (.list ys) => match (setE σ i (.own xs)).bind fun σ' => setE σ' j (.own ys) with
        | some σ' => .ok (.nx, σ') m2
        | none => .bad
      | _ => .bad
    | _ => .bad := rfl
@[simp] theorem s_par3oE {i j l : Nat} {a b c : E} : evS L C (.par3o i j l a b c) σ m = (evE C a σ m).bind fun x m1 => match x with
    | .dat (.list xs) => (evE C b σ m1).bind fun y m2 => (evE C c σ m2).bind fun z m3 => match ((setE σ i (.own xs)).bind fun σ' => setE σ' j (.v y)).bind fun σ' => setE σ' l (.v z) with
      | some σ' => .ok (.nx, σ') m3
      | none => .bad
    | _ => .bad := rfl
@[simp] theorem s_par3zE {i j l : Nat} {a b c : E} : evS L C (.par3z i j l a b c) σ m = (evE C a σ m).bind fun x m1 => (evE C b σ m1).bind fun y m2 => (evE C c σ m2).bind fun z m3 => match z with
    | .dat (.list xs) => match ((setE σ i (.v x)).bind fun σ' => setE σ' j (.v y)).bind fun σ' => setE σ' l (.own xs) with
      | some σ' => .ok (.nx, σ') m3
      | none => .bad
    | _ => .bad := rfl
@[simp] theorem s_par3mE {i j l : Nat} {a b c : E} : evS L C (.par3m i j l a b c) σ m = (evE C a σ m).bind fun x m1 => (evE C b σ m1).bind fun y m2 => match y with
    | .dat (.list xs) => (evE C c σ m2).bind fun z m3 => match ((setE σ i (.v x)).bind fun σ' => setE σ' j (.own xs)).bind fun σ' => setE σ' l (.v z) with
      | some σ' => .ok (.nx, σ') m3
      | none => .bad
    | _ => .bad := rfl
@[simp] theorem s_augOE {i : Nat} {ix e : E} {o : BinO} : evS L C (.augO i ix o e) σ m = match σ[i]? with
    | some (.own xs) => (evE C ix σ m).bind fun y m1 => match ixO xs y with
      | some p => (evE C e σ m1).bind fun u m2 => augOGo σ i o xs p u m2
      | none => .bad
    | _ => .bad := rfl
@[simp] theorem s_setOPE {i j : Nat} {ix e : E} : evS L C (.setOP i ix j e) σ m = (evE C e σ m).bind fun u m1 => match u with
    | .dat (.tuple [d, d2]) => match σ[i]? with
      | some (.own xs) => (evE C ix σ m1).bind fun y m2 => setOPGo σ i j xs d d2 y m2
      | _ => .bad
    | _ => .bad := rfl
@[simp] theorem s_setOE {i : Nat} {ix e : E} : evS L C (.setO i ix e) σ m = (evE C e σ m).bind fun u m1 => match σ[i]? with
    | some (.own xs) => (evE C ix σ m1).bind fun y m2 => setOGo σ i xs u y m2
    | _ => .bad := rfl
@[simp] theorem s_setME {r ix e : E} : evS L C (.setM r ix e) σ m = (evE C e σ m).bind fun u m1 => (evE C r σ m1).bind fun x m2 => (evE C ix σ m2).bind fun y m3 => setMGo σ u x y m3 := rfl
@[simp] theorem s_appE {i : Nat} {e : E} : evS L C (.app i e) σ m = match σ[i]? with
    | some (.own xs) => (evE C e σ m).bind fun u m1 => appGo σ i xs u m1
    | _ => .bad := rfl
@[simp] theorem s_extE {i : Nat} {e : E} : evS L C (.ext i e) σ m = match σ[i]? with
    | some (.own xs) => (evE C e σ m).bind fun u m1 => extGo σ i xs u m1
    | _ => .bad := rfl
@[simp] theorem s_setO2E {i : Nat} {ix ix2 e : E} : evS L C (.setO2 i ix ix2 e) σ m = (evE C e σ m).bind fun u m1 => match u with
    | .dat (.tuple [d, d2]) => match σ[i]? with
      | some (.own xs) => ((evE C ix σ m1).bind fun y m2 => setOGo σ i xs (.dat d) y m2).bind (setO2Go σ i d2 (evE C ix2))
      | _ => .bad
    | _ => .bad := rfl
@[simp] theorem s_appME {i : Nat} {e : E} : evS L C (.appM i e) σ m = match σ[i]? with
    | some (.v (.ref k)) => match m[k]? with
      | some (.lst _) => (evE C e σ m).bind fun u m1 => appMGo σ k u m1
      | _ => .bad
    | _ => .bad := rfl
@[simp] theorem s_popOE {i j : Nat} : evS L C (.popO i j) σ m = match σ[j]? with
    | some (.own xs) => popGo σ i j xs m
    | _ => .bad := rfl
@[simp] theorem s_augE {i : Nat} {o : BinO} {e : E} : evS L C (.aug i o e) σ m = match σ[i]? with
    | some (.v (.dat d)) => (evE C e σ m).bind fun u m1 => augGo σ i o d u m1
    | _ => .bad := rfl
@[simp] theorem s_raiseE {k : Nat} {e : E} : evS L C (.raise k e) σ m = (evE C e σ m).bind fun u m1 => .exc k u m1 := rfl
@[simp] theorem s_tryOE {md : TM} {e : E} {k : Nat} {d : PyData} : evS L C (.tryO md e k d) σ m = tryOGo md k d σ (evE C e σ m) := rfl
@[simp] theorem s_tryE {md : TM} {e : E} {i k : Nat} {hs : List HS} : evS L C (.tryX md e i k hs) σ m = tryGo md i k hs σ (evE C e σ m) := rfl
@[simp] theorem s_ifeE {c : E} {t f : Ss} : evS L C (.ife c t f) σ m = ((evE C c σ m).bind asB).bind fun b m1 => if b = true then evSs L C t σ m1 else evSs L C f σ m1 := rfl
@[simp] theorem s_forE {tg : Tg} {it : It} {body : Ss} : evS L C (.for_ tg it body) σ m = (evI C it σ m).bind fun ds m1 => forGo (fun σ m => evSs L C body σ m) tg ds σ m1 := rfl
@[simp] theorem s_retE {e : E} : evS L C (.ret e) σ m = (evE C e σ m).bind fun u m1 => .ok (.ret u, σ) m1 := rfl
@[simp] theorem s_exprE {e : E} : evS L C (.expr e) σ m = (evE C e σ m).bind fun _ m1 => .ok (.nx, σ) m1 := rfl
@[simp] theorem s_nil : evSs L C .nil σ m = .ok (.nx, σ) m := rfl
noncomputable def thenS (L : Nat) (C : Calls) (ss : Ss) (x : F × Env) (m : Mem) : R (F × Env) := match x.1 with
  | .nx => evSs L C ss x.2 m
  | _ => .ok x m
@[simp] theorem s_cons {s : S} {ss : Ss} : evSs L C (.cons s ss) σ m = (evS L C s σ m).bind (thenS L C ss) := rfl
@[simp] theorem then_nx {ss : Ss} : thenS L C ss (.nx, σ) m = evSs L C ss σ m := rfl
@[simp] theorem then_ret {ss : Ss} {u : U} : thenS L C ss (.ret u, σ) m = .ok (.ret u, σ) m := rfl
def finS (x : F × Env) (m : Mem) : R U := match x.1 with
  | .ret u => .ok u m
  | .nx => .ok (.dat .none) m
  | _ => .bad
@[simp] theorem fin_ret {u : U} : finS (.ret u, σ) m = .ok u m := rfl
theorem call_eq {P : Prog} {n f : Nat} {fd : FD} {us : List U} (h : P f = some fd) (hl : us.length = fd.np) : callN L P (n + 1) f us m = (evSs L (callN L P n) fd.body (us.map Sl.v ++ List.replicate (fd.N.length - us.length) .no) m).bind finS := by
  rw [callN_succ h]
  unfold runFD
  rw [if_pos hl]; rfl
/-- a loop with an invariant by the turn -/
theorem forGo_inv {body : Env → Mem → R (F × Env)} {tg : Tg} (ds : List PyData) (I : Nat → Env → Mem → Prop) (h : ∀ i d σ m, ds[i]? = some d → I i σ m → ∃ σ1 σ2 m2, asgTg tg d σ = some σ1 ∧ body σ1 m = .ok (.nx, σ2) m2 ∧ I (i + 1) σ2 m2) :
    ∀ {σ : Env} {m : Mem}, I 0 σ m → ∃ σ' m', forGo body tg ds σ m = .ok (.nx, σ') m' ∧ I ds.length σ' m' := by
  induction ds generalizing I with
  | nil => intro σ m hi; exact ⟨σ, m, rfl, hi⟩
  | cons d ds ih =>
    intro σ m hi
    obtain ⟨σ1, σ2, m2, h1, h2, h3⟩ := h 0 d σ m rfl hi
    obtain ⟨σ', m', k1, k2⟩ := ih (fun i => I (i + 1)) (fun i d σ m hd hi => h (i + 1) d σ m (by simpa using hd) hi) h3
    refine ⟨σ', m', ?_, k2⟩
    unfold forGo
    rw [h1]
    simp only [h2, R.bind_ok]
    exact k1
inductive All2 {α β : Type} (R : α → β → Prop) : List α → List β → Prop
  | nil : All2 R [] []
  | cons {a : α} {b : β} {as : List α} {bs : List β} : R a b → All2 R as bs → All2 R (a :: as) (b :: bs)
theorem All2.length {α β : Type} {R : α → β → Prop} : ∀ {as : List α} {bs : List β}, All2 R as bs → bs.length = as.length
  | _, _, .nil => rfl
  | _, _, .cons _ h => by rw [List.length_cons, List.length_cons, h.length]
theorem compGo_pure {elt : Env → Mem → R U} {tg : Tg} {σ : Env} {m : Mem} {f : PyData → PyData} : ∀ {ds : List PyData}, (∀ d ∈ ds, ∃ σ', asgTg tg d σ = some σ' ∧ elt σ' m = .ok (.dat (f d)) m) → compGo elt none tg σ ds m = .ok (ds.map f) m
  | [], _ => rfl
  | d :: ds, h => by
    obtain ⟨σ', h1, h2⟩ := h d List.mem_cons_self
    unfold compGo
    rw [h1]
    simp only [condGo, R.bind_ok, if_true, h2, asD_dat]
    rw [compGo_pure fun e he => h e (List.mem_cons_of_mem _ he)]
    rfl
theorem compGo_inv {elt : Env → Mem → R U} {tg : Tg} {σ : Env} {I : Mem → Prop} {Rr : PyData → PyData → Prop} : ∀ {ds : List PyData} {m : Mem}, I m → (∀ d ∈ ds, ∀ m, I m → ∃ σ' x m', asgTg tg d σ = some σ' ∧ elt σ' m = .ok (.dat x) m' ∧ I m' ∧ Rr d x) →
    ∃ xs m', compGo elt none tg σ ds m = .ok xs m' ∧ I m' ∧ All2 Rr ds xs
  | [], m, hi, _ => ⟨[], m, rfl, hi, .nil⟩
  | d :: ds, m, hi, h => by
    obtain ⟨σ', x, m1, h1, h2, h3, h4⟩ := h d List.mem_cons_self m hi
    obtain ⟨xs, m2, k1, k2, k3⟩ := compGo_inv h3 fun e he => h e (List.mem_cons_of_mem _ he)
    refine ⟨x :: xs, m2, ?_, k2, .cons h4 k3⟩
    unfold compGo
    rw [h1]
    simp only [condGo, R.bind_ok, if_true, h2, asD_dat, k1]
end
@[simp] theorem bv_addI (i j : Int) : binVal .add (.int i) (.int j) = some (.int (i + j)) := rfl
@[simp] theorem bv_subI (i j : Int) : binVal .sub (.int i) (.int j) = some (.int (i - j)) := rfl
theorem bv_modI {i j : Int} (h : 0 < j) : binVal .mod (.int i) (.int j) = some (.int (i % j)) := if_pos h
theorem bv_mulI {i j : Int} (h : L2.CMul i j) : binVal .mul (.int i) (.int j) = some (.int (i * j)) := if_pos h
theorem bv_fdivI {i j : Int} (h : L2.CDivW i j) : binVal .fdiv (.int i) (.int j) = some (.int (i / j)) := if_pos h
theorem bv_powI {i j : Int} (h : L2.CPow i j) : binVal .pow (.int i) (.int j) = some (.int (i ^ j.toNat)) := if_pos h
@[simp] theorem cv_eqI (i j : Int) : cmpVal .eq (.int i) (.int j) = some (.bool (decide (i = j))) := rfl
@[simp] theorem cv_neI (i j : Int) : cmpVal .ne (.int i) (.int j) = some (.bool (!decide (i = j))) := rfl
@[simp] theorem cv_ltI (i j : Int) : cmpVal .lt (.int i) (.int j) = some (.bool (decide (i < j))) := rfl
@[simp] theorem cv_leI (i j : Int) : cmpVal .le (.int i) (.int j) = some (.bool (decide (i ≤ j))) := rfl
@[simp] theorem cv_gtI (i j : Int) : cmpVal .gt (.int i) (.int j) = some (.bool (decide (j < i))) := rfl
@[simp] theorem cv_geI (i j : Int) : cmpVal .ge (.int i) (.int j) = some (.bool (decide (j ≤ i))) := rfl
@[simp] theorem cv_neS (i j : Str) : cmpVal .ne (.str i) (.str j) = some (.bool (!decide (i = j))) := rfl
@[simp] theorem b2_max (i j : Int) : b2Val .max (.int i) (.int j) = some (.int (if j > i then j else i)) := rfl
@[simp] theorem b2_min (i j : Int) : b2Val .min (.int i) (.int j) = some (.int (if j < i then j else i)) := rfl
@[simp] theorem b1_absI (i : Int) : b1Val .abs (.int i) = some (.int (if i < 0 then -i else i)) := rfl
@[simp] theorem b1_intI (i : Int) : b1Val .int (.int i) = some (.int i) := rfl
@[simp] theorem oA_def {a : E} {f : Env → Mem → R U} {σ : Env} {m : Mem} : oA a f σ m = match a with
  | .no => .ok none m
  | _ => ((f σ m).bind asInt).bind fun i m1 => .ok (some i) m1 := rfl
@[simp] theorem getV_def {σ : Env} {i : Nat} {m : Mem} : getV σ i m = match σ[i]? with
  | some (.v u) => .ok u m
  | _ => .bad := rfl
@[simp] theorem getB_def {σ : Env} {i : Nat} {m : Mem} : getB σ i m = match σ[i]? with
  | some (.v u) => .ok u m
  | some (.own xs) => .ok (.dat (.list xs)) m
  | _ => .bad := rfl
@[simp] theorem asTup_def {us : List U} {m : Mem} : asTup us m = R.dat ((datL us).map .tuple) m := rfl
@[simp] theorem asLst_def {us : List U} {m : Mem} : asLst us m = R.dat ((datL us).map .list) m := rfl
@[simp] theorem datL_nil : datL [] = some [] := rfl
@[simp] theorem datL_cons {d : PyData} {r : List U} : datL (.dat d :: r) = (datL r).map (d :: ·) := rfl
@[simp] theorem clsVal_def {c : ClsT} {d : PyData} : clsVal c d = match c, d with
  | .int, .int _ => true
  | .int, .bool _ => true
  | .bool, .bool _ => true
  | .str, .str _ => true
  | .list, .list _ => true
  | .tuple, .tuple _ => true
  | _, _ => false := rfl
@[simp] theorem wipeE_nil {σ : Env} : wipeE σ [] = σ := rfl
@[simp] theorem wipeE_cons {σ : Env} {v : Nat} {vs : List Nat} : wipeE σ (v :: vs) = (wipeE σ vs).set v .no := rfl
@[simp] theorem asgTg_nm {i : Nat} {d : PyData} {σ : Env} : asgTg (.nm i) d σ = if i < σ.length then some (σ.set i (.v (.dat d))) else none := rfl
@[simp] theorem asgTg_tp {ts : List Tg} {ds : List PyData} {σ : Env} : asgTg (.tp ts) (.tuple ds) σ = asgTgs ts ds σ := rfl
@[simp] theorem asgTgs_nil {σ : Env} : asgTgs [] [] σ = some σ := rfl
@[simp] theorem asgTgs_cons {t : Tg} {ts : List Tg} {d : PyData} {ds : List PyData} {σ : Env} : asgTgs (t :: ts) (d :: ds) σ = (asgTg t d σ).bind fun σ' => asgTgs ts ds σ' := rfl
@[simp] theorem setE_def {σ : Env} {i : Nat} {s : Sl} : setE σ i s = if i < σ.length then some (σ.set i s) else none := rfl
@[simp] theorem cA_def {a : E} {f : Env → Mem → R U} : cA a f = match a with
  | .no => none
  | _ => some fun σ m => (f σ m).quiet := rfl
@[simp] theorem isNoneD_def {d : PyData} : isNoneD d = match d with
  | .none => true
  | _ => false := rfl
end Eng

set_option Elab.async false
set_option linter.all false
set_option maxRecDepth 100000
set_option maxHeartbeats 1000000
/-! List comprehensions over mapped lists; steps of a list of its own. -/
namespace Eng
open PySem PySem.Spec PyProof.Rows L2
section
variable {α : Type} {C : Calls} {elt cond : E} {tg : Tg} {it : It} {own : List (Str × Nat)} {σ : Env} {m : Mem} {g f : α → PyData} {p : α → Bool} {l : List α}
theorem comp_map {el : Env → Mem → R U} : ∀ {l : List α}, (∀ a ∈ l, ∃ σ', asgTg tg (g a) σ = some σ' ∧ el σ' m = .ok (.dat (f a)) m) → compGo el none tg σ (l.map g) m = .ok (l.map f) m
  | [], _ => rfl
  | a :: l, h => by
    obtain ⟨σ', h1, h2⟩ := h a List.mem_cons_self
    rw [List.map_cons, List.map_cons]
    unfold compGo
    rw [h1]
    simp only [condGo, R.bind_ok, if_true, h2, asD_dat]
    rw [comp_map fun e he => h e (List.mem_cons_of_mem _ he)]
    rfl
theorem comp_filt {el c : Env → Mem → R U} : ∀ {l : List α}, (∀ a ∈ l, ∃ σ', asgTg tg (g a) σ = some σ' ∧ c σ' m = .ok (.dat (.bool (p a))) m ∧ (p a = true → el σ' m = .ok (.dat (f a)) m)) → compGo el (some c) tg σ (l.map g) m = .ok ((l.filter p).map f) m
  | [], _ => rfl
  | a :: l, h => by
    obtain ⟨σ', h1, h2, h3⟩ := h a List.mem_cons_self
    rw [List.map_cons]
    unfold compGo
    rw [h1]
    have ih := comp_filt fun e he => h e (List.mem_cons_of_mem _ he)
    simp only [condGo, h2, R.bind_ok, asB_bool]
    cases hp : p a with
    | true =>
      rw [if_pos rfl, h3 hp, List.filter_cons_of_pos hp]
      simp only [R.bind_ok, asD_dat, ih, List.map_cons]
    | false =>
      rw [if_neg (by simp), List.filter_cons_of_neg (by simp [hp]), ih]
theorem ev_compM (hI : evI C it σ m = .ok (l.map g) m) (hl : l.length ≤ 1000) (h : ∀ a ∈ l, ∃ σ', asgTg tg (g a) (wipeE σ (own.map (·.2))) = some σ' ∧ evE C elt σ' m = .ok (.dat (f a)) m) : evE C (.comp elt tg it .no own) σ m = .ok (.dat (.list (l.map f))) m := by
  refine ev_comp hI (by rw [List.length_map]; exact small1001 hl) ?_
  refine comp_map fun a ha => ?_
  obtain ⟨σ', h1, h2⟩ := h a ha
  exact ⟨σ', h1, by rw [h2]; rfl⟩
theorem ev_compF (hc : cA cond (evE C cond) = some fun σ m => (evE C cond σ m).quiet) (hI : evI C it σ m = .ok (l.map g) m) (hl : l.length ≤ 1000)
    (h : ∀ a ∈ l, ∃ σ', asgTg tg (g a) (wipeE σ (own.map (·.2))) = some σ' ∧ evE C cond σ' m = .ok (.dat (.bool (p a))) m ∧ (p a = true → evE C elt σ' m = .ok (.dat (f a)) m)) : evE C (.comp elt tg it cond own) σ m = .ok (.dat (.list ((l.filter p).map f))) m := by
  refine ev_comp hI (by rw [List.length_map]; exact small1001 hl) ?_
  rw [hc]
  refine comp_filt fun a ha => ?_
  obtain ⟨σ', h1, h2, h3⟩ := h a ha
  exact ⟨σ', h1, by rw [h2]; rfl, fun hp => by rw [h3 hp]; rfl⟩
end
@[simp] theorem s_asgTE {L : Nat} {C : Calls} {ts : List Tg} {e : E} {σ : Env} {m : Mem} : evS L C (.asgT ts e) σ m = (evE C e σ m).bind fun u m1 => match u with
    | .dat (.tuple ds) => match asgTgs ts ds σ with
      | some σ' => .ok (.nx, σ') m1
      | none => .bad
    | .dat (.list ds) => match asgTgs ts ds σ with
      | some σ' => .ok (.nx, σ') m1
      | none => .bad
    | _ => .bad := rfl
theorem ext_ok {m : Mem} {σ : Env} {i : Nat} {xs ys : List PyData} (h : xs.length + ys.length ≤ 1000) : extGo σ i xs (.dat (.list ys)) m = .ok (.nx, σ.set i (.own (xs ++ ys))) m := if_pos (small1001 h)
end Eng

set_option Elab.async false
set_option linter.all false
set_option maxRecDepth 100000
set_option maxHeartbeats 1000000
/-! What repr, ==, in ask of data. -/
namespace Eng
open PySem PySem.Spec PyProof.Rows L2
structure Fac (d : PyData) (w k : Nat) : Prop where
  lay : d.canLay0 = true
  sh : d.showable = true
  ish : d.intsShort 13 = true
  wt : d.weight ≤ w
  dp : d.depth ≤ k
structure FacA (ds : List PyData) (n w k : Nat) : Prop where
  lay : PyData.canLayAll0 ds = true
  sh : PyData.showableAll ds = true
  ish : PyData.intsShortAll 13 ds = true
  wt : PyData.weightAll ds ≤ n * (w + 1)
  dp : PyData.depthAll ds ≤ k
section
variable {d e : PyData} {ds es : List PyData} {w w' k k' n : Nat}
theorem Fac.mono (h : Fac d w k) (h1 : w ≤ w') (h2 : k ≤ k') : Fac d w' k' := ⟨h.lay, h.sh, h.ish, Nat.le_trans h.wt h1, Nat.le_trans h.dp h2⟩
theorem Fac.all : ∀ {ds : List PyData}, (∀ d ∈ ds, Fac d w k) → FacA ds ds.length w k
  | [], _ => ⟨rfl, rfl, rfl, Nat.zero_le _, Nat.zero_le _⟩
  | d :: ds, h => by
    have h1 := h d List.mem_cons_self
    have h2 := Fac.all fun e he => h e (List.mem_cons_of_mem _ he)
    refine ⟨?_, ?_, ?_, ?_, ?_⟩
    · simp only [PyData.canLayAll0, h1.lay, h2.lay, Bool.and_self]
    · simp only [PyData.showableAll, h1.sh, h2.sh, Bool.and_self]
    · simp only [PyData.intsShortAll, h1.ish, h2.ish, Bool.and_self]
    · simp only [PyData.weightAll, List.length_cons, Nat.succ_mul]
      have := h1.wt
      have := h2.wt
      omega
    · simp only [PyData.depthAll]
      have := h1.dp
      have := h2.dp
      omega
theorem Fac.list (h : ∀ d ∈ ds, Fac d w k) (hn : ds.length ≤ n) : Fac (.list ds) (n * (w + 1)) (k + 1) := by
  have a := Fac.all h
  have hm : ds.length * (w + 1) ≤ n * (w + 1) := Nat.mul_le_mul_right _ hn
  refine ⟨by simp only [PyData.canLay0]; exact a.lay, by simp only [PyData.showable]; exact a.sh, by simp only [PyData.intsShort]; exact a.ish, ?_, ?_⟩
  · simp only [PyData.weight]; exact Nat.le_trans a.wt hm
  · simp only [PyData.depth]; have := a.dp; omega
theorem Fac.tuple (h : ∀ d ∈ ds, Fac d w k) (hn : ds.length ≤ n) : Fac (.tuple ds) (n * (w + 1)) (k + 1) := by
  have a := Fac.all h
  have hm : ds.length * (w + 1) ≤ n * (w + 1) := Nat.mul_le_mul_right _ hn
  refine ⟨by simp only [PyData.canLay0]; exact a.lay, by simp only [PyData.showable]; exact a.sh, by simp only [PyData.intsShort]; exact a.ish, ?_, ?_⟩
  · simp only [PyData.weight]; exact Nat.le_trans a.wt hm
  · simp only [PyData.depth]; have := a.dp; omega
theorem short_nat : ∀ i < 1001, ((PyData.int (i : Nat)).shown).length ≤ 13 := by decide +kernel
theorem Fac.int {i : Nat} (h : i < 1001) : Fac (.int (i : Int)) 11 0 := by
  have hl : i.log2 ≤ 10 := by
    rcases Nat.eq_zero_or_pos i with e | e
    · subst e; decide
    · have := (Nat.log2_lt (n := i) (k := 11) (by omega)).mpr (by omega)
      omega
  refine ⟨rfl, ?_, ?_, ?_, Nat.le_refl _⟩
  · simp only [PyData.showable, decide_eq_true_eq, Int.natAbs_natCast]; omega
  · simp only [PyData.intsShort, decide_eq_true_eq]; exact short_nat i h
  · simp only [PyData.weight, Int.natAbs_natCast]
    split <;> omega
theorem Fac.bool (b : Bool) : Fac (.bool b) 0 0 := ⟨rfl, rfl, rfl, Nat.zero_le _, Nat.le_refl _⟩
theorem Fac.none : Fac .none 0 0 := ⟨rfl, rfl, rfl, Nat.zero_le _, Nat.le_refl _⟩
theorem Fac.str {x : Str} (h : PyData.strOk x = true) (hw : x.cps.size ≤ w) : Fac (.str x) w 0 := ⟨by simp only [PyData.canLay0]; exact h, rfl, rfl, by simp only [PyData.weight]; exact hw, Nat.le_refl _⟩
/-- its text -/
theorem Fac.repr (h : Fac d w k) (hw : w ≤ 1000000) (hk : k ≤ 60) : ∃ z : Str, b1Val .repr d = some (.str z) := by
  have e : b1Val .repr d = if d.showable && decide (d.shown.length ≤ sizeLine) && decide (d.depth ≤ 60) then some (.str d.shown) else .none := by cases d <;> rfl
  have l : PyData.layable0 d = true := by
    have : (2 : Nat) ^ 20 = 1048576 := by decide
    have := h.wt
    have := h.dp
    show (d.canLay0 && decide (d.depth ≤ 64) && decide (d.weight ≤ 2 ^ 20)) = true
    rw [h.lay]
    simp only [Bool.true_and, Bool.and_eq_true, decide_eq_true_eq]
    exact ⟨by omega, by omega⟩
  have s := PyProof.Rows.shown_le13 l h.ish
  refine ⟨d.shown, ?_⟩
  rw [e, if_pos]
  have := h.dp
  simp only [Bool.and_eq_true, decide_eq_true_eq]
  exact ⟨⟨h.sh, by rw [sizeLine_eq]; omega⟩, by omega⟩
/-- the signs of a text -/
def Sg (x : Str) : Prop := ∀ c ∈ x.cps.toList, c < 16 ^ 8
theorem Sg.ofString (s : String) : Sg (Str.ofString s) := by
  intro c hc
  rw [Str.ofString_eq_toList] at hc
  obtain ⟨ch, _, rfl⟩ := List.mem_map.mp (by simpa using hc : c ∈ s.toList.map Char.toNat)
  have := ch.valid
  have h2 : ch.toNat < 0x110000 := by
    have h3 : ch.toNat = ch.val.toNat := rfl
    rw [h3]
    rcases this with h | h
    · exact Nat.lt_trans h (by decide)
    · exact h.2
  exact Nat.lt_trans h2 (by decide)
theorem Sg.app {x y : Str} (h1 : Sg x) (h2 : Sg y) : Sg (x ++ y) := by
  intro c hc
  have e : (x ++ y).cps = x.cps ++ y.cps := rfl
  rw [e, Array.toList_append] at hc
  rcases List.mem_append.mp hc with h | h
  · exact h1 c h
  · exact h2 c h
theorem Sg.join {sep : Str} (hs : Sg sep) : ∀ {l : List Str}, (∀ x ∈ l, Sg x) → Sg (Str.join sep l)
  | [], _ => by intro c hc; exact absurd hc (by simp [Str.join, Str.empty])
  | [x], h => h x (by simp)
  | x :: y :: l, h => by
    show Sg (x ++ sep ++ Str.join sep (y :: l))
    exact ((h x (by simp)).app hs).app (Sg.join hs fun z hz => h z (List.mem_cons_of_mem _ hz))
mutual
/-- whole numbers, truth values, None; lists and tuples of these -/
def numD : PyData → Bool
  | .none | .bool _ | .int _ => true
  | .str _ => false
  | .list xs | .tuple xs => numA xs
  | .dict _ => false
def numA : List PyData → Bool
  | [] => true
  | x :: xs => numD x && numA xs
end
mutual
theorem sg_shown : ∀ {d : PyData}, numD d = true → Sg d.shown
  | .none, _ => by rw [PyData.shown_none]; exact Sg.ofString _
  | .bool b, _ => by rw [PyData.shown_bool]; split <;> exact Sg.ofString _
  | .int i, _ => by rw [PyData.shown_int]; exact Sg.ofString _
  | .str _, h => by simp [numD] at h
  | .list xs, h => by
    rw [PyData.shown_list]
    exact ((Sg.ofString _).app (Sg.join (Sg.ofString _) (sg_all (by simpa [numD] using h)))).app (Sg.ofString _)
  | .tuple xs, h => by
    rw [PyData.shown_tuple]
    exact ((Sg.ofString _).app (Sg.join (Sg.ofString _) (sg_all (by simpa [numD] using h)))).app (by split <;> exact Sg.ofString _)
  | .dict _, h => by simp [numD] at h
theorem sg_all : ∀ {ds : List PyData}, numA ds = true → ∀ x ∈ PyData.shownAll ds, Sg x
  | [], _, x, hx => by rw [PyData.shownAll_nil] at hx; exact absurd hx (by simp)
  | d :: ds, h, x, hx => by
    simp only [numA, Bool.and_eq_true] at h
    rw [PyData.shownAll_cons] at hx
    rcases List.mem_cons.mp hx with rfl | hx
    · exact sg_shown h.1
    · exact sg_all h.2 x hx
end
theorem Fac.shaped (h : Fac d w k) (hk : k ≤ 60) : SeqAt.shaped d = true := by
  have := h.dp
  show (d.canLay0 && decide (d.depth ≤ 64)) = true
  rw [h.lay, Bool.true_and, decide_eq_true_eq]; omega
/-! ### the same, exactly -/
mutual
/-- no truth value, no dict within -/
def plainD : PyData → Bool
  | .none | .int _ | .str _ => true
  | .bool _ | .dict _ => false
  | .list xs | .tuple xs => plainA xs
def plainA : List PyData → Bool
  | [] => true
  | x :: xs => plainD x && plainA xs
end
mutual
theorem eqv_iff : ∀ (d e : PyData), plainD d = true → plainD e = true → (PyData.eqv d e = true ↔ d = e)
  | .none, e, _, _ => by cases e <;> simp [PyData.eqv]
  | .int i, e, _, h => by
    cases e with
    | bool b => simp [plainD] at h
    | int j => simp [PyData.eqv]
    | _ => simp [PyData.eqv]
  | .str x, e, _, h => by
    cases e with
    | str y => simp [PyData.eqv]
    | _ => simp [PyData.eqv]
  | .bool b, e, h, _ => by simp [plainD] at h
  | .dict b, e, h, _ => by simp [plainD] at h
  | .list xs, e, h, h' => by
    simp only [plainD] at h
    cases e with
    | list ys =>
      simp only [plainD] at h'
      simp only [PyData.eqv, PyData.list.injEq]
      exact eqvA_iff xs ys h h'
    | _ => simp [PyData.eqv]
  | .tuple xs, e, h, h' => by
    simp only [plainD] at h
    cases e with
    | tuple ys =>
      simp only [plainD] at h'
      simp only [PyData.eqv, PyData.tuple.injEq]
      exact eqvA_iff xs ys h h'
    | _ => simp [PyData.eqv]
theorem eqvA_iff : ∀ (ds es : List PyData), plainA ds = true → plainA es = true → (PyData.eqvAll ds es = true ↔ ds = es)
  | [], [], _, _ => by simp [PyData.eqvAll]
  | [], _ :: _, _, _ => by simp [PyData.eqvAll]
  | _ :: _, [], _, _ => by simp [PyData.eqvAll]
  | x :: xs, y :: ys, h, h' => by
    simp only [plainA, Bool.and_eq_true] at h h'
    simp only [PyData.eqvAll, Bool.and_eq_true, List.cons.injEq]
    rw [eqv_iff x y h.1 h'.1, eqvA_iff xs ys h.2 h'.2]
end
/-- == of two data that are lists or tuples -/
def isSq : PyData → Bool
  | .list _ | .tuple _ => true
  | _ => false
theorem cmp_eqS (hd : Fac d w k) (he : Fac e w' k') (hk : k ≤ 60) (hk' : k' ≤ 60) (hs : isSq d = true) : cmpVal .eq d e = some (.bool (PyData.eqv d e)) := by
  have s1 := hd.shaped hk
  have s2 := he.shaped hk'
  cases d <;> simp only [isSq, Bool.false_eq_true] at hs
  all_goals cases e <;> exact if_pos ⟨s1, s2⟩
theorem cmp_neS (hd : Fac d w k) (he : Fac e w' k') (hk : k ≤ 60) (hk' : k' ≤ 60) (hs : isSq d = true) : cmpVal .ne d e = some (.bool (!PyData.eqv d e)) := by
  have s1 := hd.shaped hk
  have s2 := he.shaped hk'
  cases d <;> simp only [isSq, Bool.false_eq_true] at hs
  all_goals cases e <;> exact if_pos ⟨s1, s2⟩
theorem cmp_neB (x y : Bool) : cmpVal .ne (.bool x) (.bool y) = some (.bool (!(x == y))) := by cases x <;> cases y <;> rfl
end
end Eng

set_option Elab.async false
set_option linter.all false
set_option maxRecDepth 100000
set_option maxHeartbeats 4000000
namespace K44
open PySem PySem.Spec PyProof.Rows L2 Eng
/-! ### the defs -/
def lams : List Str := []
def d_is_integer : FD := ⟨"is_integer", 1, ["value"],
    (.cons (.ret (.and (.isi (.var 0) .int) (.not (.isi (.var 0) .bool))))
      .nil)⟩
def d_is_number : FD := ⟨"is_number", 1, ["value"],
    (.cons (.ret (.and (.call 0 (.cons (.var 0) .nil)) (.cmp .ge (.var 0) (.cst (.int 0)))))
      .nil)⟩
def d_is_below : FD := ⟨"is_below", 2, ["value", "most"],
    (.cons (.ret (.and (.call 1 (.cons (.var 0) .nil)) (.cmp .lt (.var 0) (.var 1))))
      .nil)⟩
def d_is_sequence : FD := ⟨"is_sequence", 1, ["value"],
    (.cons (.ret (.isi2 (.var 0) .list .tuple))
      .nil)⟩
def e_are_below_1 : E := (.call 2 (.cons (.var 2) (.cons (.var 1) .nil)))
def c_are_below_1 : E := (.comp e_are_below_1 (.nm 2) (.seq (.var 0)) .no [("one", 2)])
theorem bA_c_are_below_1 {f : Eng.Env → Mem → R U} {σ : Eng.Env} {m : Mem} : bA c_are_below_1 f σ m = f σ m := rfl
def d_are_below : FD := ⟨"are_below", 2, ["value", "most", "one"],
    (.cons (.ret (.and (.call 3 (.cons (.var 0) .nil)) (.b1 .all c_are_below_1)))
      .nil)⟩
def d_is_map : FD := ⟨"is_map", 2, ["value", "boards"],
    (.cons (.ret (.and (.call 4 (.cons (.var 0) (.cons (.var 1) .nil))) (.cmp .eq (.b1 .len (.var 0)) (.var 1))))
      .nil)⟩
def e_are_deeds_1 : E := (.call 5 (.cons (.var 2) (.cons (.var 1) .nil)))
def c_are_deeds_1 : E := (.comp e_are_deeds_1 (.nm 2) (.seq (.var 0)) .no [("one", 2)])
theorem bA_c_are_deeds_1 {f : Eng.Env → Mem → R U} {σ : Eng.Env} {m : Mem} : bA c_are_deeds_1 f σ m = f σ m := rfl
def d_are_deeds : FD := ⟨"are_deeds", 1, ["value", "boards", "one"],
    (.cons (.ife (.or (.not (.call 3 (.cons (.var 0) .nil))) (.or (.not (.chain .le .le (.cst (.int 1)) (.b1 .len (.var 0)) (.glb "MOST_DEEDS" (.int 6)))) (.not (.call 3 (.cons (.ix (.var 0) (.cst (.int 0))) .nil))))) (.cons (.ret (.cst (.bool false)))
      .nil) .nil)
      (.cons (.asg 1 (.b1 .len (.ix (.var 0) (.cst (.int 0)))))
      (.cons (.ret (.and (.chain .le .le (.cst (.int 1)) (.var 1) (.glb "MOST_BOARDS" (.int 8))) (.b1 .all c_are_deeds_1)))
      .nil)))⟩
def e_check_machine_1 : E := (.b1 .tuple (.var 1))
def c_check_machine_1 : E := (.comp e_check_machine_1 (.nm 1) (.seq (.ix (.var 0) (.cst (.int 1)))) .no [("one", 1)])
theorem bA_c_check_machine_1 {f : Eng.Env → Mem → R U} {σ : Eng.Env} {m : Mem} : bA c_check_machine_1 f σ m = f σ m := rfl
def d_check_machine : FD := ⟨"check_machine", 1, ["value", "one"],
    (.cons (.ife (.or (.not (.call 3 (.cons (.var 0) .nil))) (.cmp .ne (.b1 .len (.var 0)) (.cst (.int 2)))) (.cons (.raise 0 .no)
      .nil) .nil)
      (.cons (.ife (.not (.call 6 (.cons (.ix (.var 0) (.cst (.int 1))) .nil))) (.cons (.raise 0 .no)
      .nil) .nil)
      (.cons (.ife (.not (.call 2 (.cons (.ix (.var 0) (.cst (.int 0))) (.cons (.b1 .len (.ix (.ix (.var 0) (.cst (.int 1))) (.cst (.int 0)))) .nil)))) (.cons (.raise 0 .no)
      .nil) .nil)
      (.cons (.ret (.tup (.cons (.ix (.var 0) (.cst (.int 0))) (.cons (.b1 .tuple c_check_machine_1) .nil))))
      .nil))))⟩
def b_rows_to_1 : Ss := (.cons (.ife (.din true (.ix (.var 8) (.var 6)) (.var 3)) (.cons (.setM (.var 3) (.ix (.var 8) (.var 6)) (.bin .add (.ix (.var 3) (.var 6)) (.tup (.cons (.var 7) .nil))))
      (.cons (.app 4 (.ix (.var 8) (.var 6)))
      .nil)) .nil)
      .nil)
def l_rows_to_1 : S := (.for_ (.tp [(.nm 7), (.nm 8)]) (.enum (.var 2)) b_rows_to_1)
def b_rows_to_2 : Ss := (.cons (.asg 6 (.ix (.bv 4) (.var 5)))
      (.cons l_rows_to_1
      (.cons (.aug 5 .add (.cst (.int 1)))
      .nil)))
def l_rows_to_2 : S := (.whl (.cmp .lt (.var 5) (.b1 .len (.bv 4))) b_rows_to_2)
def e_rows_to_1 : E := (.tup (.cons (.var 9) (.cons (.ix (.var 3) (.var 9)) .nil)))
def c_rows_to_1 : E := (.comp e_rows_to_1 (.nm 9) (.seq (.var 4)) .no [("board", 9)])
theorem bA_c_rows_to_1 {f : Eng.Env → Mem → R U} {σ : Eng.Env} {m : Mem} : bA c_rows_to_1 f σ m = f σ m := rfl
def d_rows_to : FD := ⟨"rows_to", 1, ["machine", "start", "deeds", "found", "line", "at", "here", "deed", "made", "board"],
    (.cons (.asgT [(.nm 1), (.nm 2)] (.var 0))
      (.cons (.par3m 3 4 5 (.newD1 (.var 1) (.tup .nil)) (.lst (.cons (.var 1) .nil)) (.cst (.int 0)))
      (.cons l_rows_to_2
      (.cons (.frz 4)
      (.cons (.ret c_rows_to_1)
      .nil)))))⟩
def b_clash_1 : Ss := (.cons (.ife (.cmp .ne (.ix (.var 6) (.ix (.ix (.var 2) (.var 7)) (.var 3))) (.ix (.ix (.var 2) (.var 7)) (.ix (.var 6) (.var 3)))) (.cons (.ret (.tup (.cons (.var 4) (.cons (.var 5) (.cons (.var 7) .nil)))))
      .nil) .nil)
      .nil)
def l_clash_1 : S := (.for_ (.nm 7) (.rng2 (.bin .add (.var 5) (.cst (.int 1))) (.b1 .len (.var 2))) b_clash_1)
def b_clash_2 : Ss := (.cons l_clash_1
      .nil)
def l_clash_2 : S := (.for_ (.tp [(.nm 5), (.nm 6)]) (.enum (.var 2)) b_clash_2)
def b_clash_3 : Ss := (.cons l_clash_2
      .nil)
def l_clash_3 : S := (.for_ (.tp [(.nm 3), (.nm 4)]) (.seq (.call 8 (.cons (.var 1) .nil))) b_clash_3)
def d_clash : FD := ⟨"clash", 1, ["machine", "told", "deeds", "board", "row", "one", "made", "other"],
    (.cons (.asg 1 (.call 7 (.cons (.var 0) .nil)))
      (.cons (.asg 2 (.ix (.var 1) (.cst (.int 1))))
      (.cons l_clash_3
      (.cons (.ret (.cst .none))
      .nil))))⟩
def d_costs_nothing : FD := ⟨"costs_nothing", 1, ["machine"],
    (.cons (.ret (.cmp .is (.call 9 (.cons (.var 0) .nil)) (.cst .none)))
      .nil)⟩
def e_two_of_one_rim_1 : E := (.tup (.cons (.cst (.int 0)) (.cons (.var 6) .nil)))
def c_two_of_one_rim_1 : E := (.comp e_two_of_one_rim_1 (.nm 6) (.seq (.var 3)) .no [("deed", 6)])
theorem bA_c_two_of_one_rim_1 {f : Eng.Env → Mem → R U} {σ : Eng.Env} {m : Mem} : bA c_two_of_one_rim_1 f σ m = f σ m := rfl
def d_two_of_one_rim : FD := ⟨"two_of_one_rim", 1, ["machine", "found", "begun", "row", "one", "other", "deed"],
    (.cons (.asg 1 (.call 9 (.cons (.var 0) .nil)))
      (.cons (.ife (.cmp .is (.var 1) (.cst .none)) (.cons (.ret (.cst .none))
      .nil) .nil)
      (.cons (.asgT [(.nm 3), (.nm 4), (.nm 5)] (.var 1))
      (.cons (.asg 2 (.b1 .tuple c_two_of_one_rim_1))
      (.cons (.ret (.tup (.cons (.bin .add (.var 2) (.tup (.cons (.tup (.cons (.cst (.int 0)) (.cons (.var 4) .nil))) (.cons (.tup (.cons (.cst (.int 1)) (.cons (.var 5) .nil))) .nil)))) (.cons (.bin .add (.var 2) (.tup (.cons (.tup (.cons (.cst (.int 1)) (.cons (.var 5) .nil))) (.cons (.tup (.cons (.cst (.int 0)) (.cons (.var 4) .nil))) .nil)))) .nil))))
      .nil)))))⟩
def d__law_box : FD := ⟨"_law_box", 2, ["_law_script", "_law_k", "_law_cell", "_law_great"],
    (.cons (.asg 2 (.bin .add (.bin .mul (.cst (.int 8263)) (.var 1)) (.cst (.int 2053))))
      (.cons (.ife (.cmp .lt (.var 1) (.b1 .len (.var 0))) (.cons (.asg 2 (.b1 .abs (.b1 .int (.ix (.var 0) (.var 1)))))
      .nil) (.cons (.ife (.cmp .gt (.b1 .len (.var 0)) (.cst (.int 0))) (.cons (.asg 2 (.bin .add (.var 2) (.bin .mul (.bin .mod (.b1 .int (.b1 .abs (.b1 .int (.ix (.var 0) (.bin .mod (.b1 .int (.var 1)) (.b1 .len (.var 0))))))) (.cst (.int 2147483563))) (.cst (.int 51347)))))
      .nil) .nil)
      .nil))
      (.cons (.asg 3 (.ite (.cmp .ge (.var 2) (.bin .pow (.cst (.int 10)) (.cst (.int 18)))) (.var 2) (.cst (.int 0))))
      (.cons (.ret (.newl (.cons (.var 3) (.cons (.bin .add (.bin .mod (.b1 .int (.bin .add (.bin .mul (.bin .mod (.b1 .int (.var 2)) (.cst (.int 2147483563))) (.cst (.int 40014))) (.bin .mul (.cst (.int 2053)) (.var 1)))) (.cst (.int 2147483563))) (.cst (.int 1))) .nil))))
      .nil))))⟩
def d__law_take : FD := ⟨"_law_take", 2, ["_law_box_here", "_law_many", "_law_raw", "_law_digit"],
    (.cons (.ife (.cmp .gt (.ix (.var 0) (.cst (.int 0))) (.cst (.int 0))) (.cons (.asg 3 (.bin .mod (.b1 .int (.ix (.var 0) (.cst (.int 0)))) (.var 1)))
      (.cons (.setM (.var 0) (.cst (.int 0)) (.bin .fdiv (.ix (.var 0) (.cst (.int 0))) (.var 1)))
      (.cons (.ret (.var 3))
      .nil))) .nil)
      (.cons (.asg 2 (.bin .mod (.b1 .int (.bin .add (.bin .mul (.ix (.var 0) (.cst (.int 1))) (.cst (.int 39373))) (.cst (.int 331)))) (.cst (.int 2147483647))))
      (.cons (.setM (.var 0) (.cst (.int 1)) (.bin .add (.bin .mod (.b1 .int (.bin .add (.bin .mul (.var 2) (.cst (.int 40692))) (.cst (.int 37)))) (.cst (.int 2147483399))) (.cst (.int 1))))
      (.cons (.ret (.bin .mod (.b1 .int (.bin .fdiv (.bin .add (.bin .mul (.var 2) (.cst (.int 2147483629))) (.ix (.var 0) (.cst (.int 1)))) (.cst (.int 8209)))) (.var 1)))
      .nil))))⟩
def d__law_pick : FD := ⟨"_law_pick", 2, ["_law_box_here", "_law_some"],
    (.cons (.ret (.ix (.var 1) (.call 13 (.cons (.var 0) (.cons (.b1 .len (.var 1)) .nil)))))
      .nil)⟩
def e__law_machine_1 : E := (.call 14 (.cons (.var 0) (.cons (.lst (.cons (.var 7) (.cons (.cst (.int 0)) .nil))) .nil)))
def c__law_machine_1 : E := (.comp e__law_machine_1 (.nm 7) (.rng1 (.var 3)) .no [("_law_board_here", 7)])
theorem bA_c__law_machine_1 {f : Eng.Env → Mem → R U} {σ : Eng.Env} {m : Mem} : bA c__law_machine_1 f σ m = f σ m := rfl
def e__law_machine_2 : E := (.bin .mod (.bin .add (.var 7) (.cst (.int 1))) (.var 3))
def c__law_machine_2 : E := (.comp e__law_machine_2 (.nm 7) (.rng1 (.var 3)) .no [("_law_board_here", 7)])
theorem bA_c__law_machine_2 {f : Eng.Env → Mem → R U} {σ : Eng.Env} {m : Mem} : bA c__law_machine_2 f σ m = f σ m := rfl
def e__law_machine_3 : E := (.call 13 (.cons (.var 0) (.cons (.var 3) .nil)))
def c__law_machine_3 : E := (.comp e__law_machine_3 (.nm 7) (.rng1 (.var 3)) .no [("_law_board_here", 7)])
theorem bA_c__law_machine_3 {f : Eng.Env → Mem → R U} {σ : Eng.Env} {m : Mem} : bA c__law_machine_3 f σ m = f σ m := rfl
def b__law_machine_1 : Ss := (.cons (.asg 6 (.call 13 (.cons (.var 0) (.cons (.cst (.int 4)) .nil))))
      (.cons (.ife (.cmp .eq (.var 6) (.cst (.int 0))) (.cons (.app 4 (.b1 .tuple c__law_machine_1))
      .nil) (.cons (.ife (.cmp .eq (.var 6) (.cst (.int 1))) (.cons (.app 4 (.b1 .tuple c__law_machine_2))
      .nil) (.cons (.app 4 (.b1 .tuple c__law_machine_3))
      .nil))
      .nil))
      .nil))
def l__law_machine_1 : S := (.for_ (.nm 5) (.rng1 (.bin .add (.cst (.int 1)) (.call 13 (.cons (.var 0) (.cons (.var 2) .nil))))) b__law_machine_1)
def d__law_machine : FD := ⟨"_law_machine", 3, ["_law_box_here", "_law_boards", "_law_deeds", "_law_many", "_law_maps", "_law_deed", "_law_way", "_law_board_here"],
    (.cons (.asg 3 (.bin .add (.cst (.int 1)) (.call 13 (.cons (.var 0) (.cons (.var 1) .nil)))))
      (.cons (.own 4 (.lst .nil))
      (.cons l__law_machine_1
      (.cons (.ret (.tup (.cons (.call 13 (.cons (.var 0) (.cons (.var 3) .nil))) (.cons (.b1 .tuple (.bv 4)) .nil))))
      .nil))))⟩
def e__law_counts_1 : E := (.cst (.int 1))
def t__law_counts_1 : E := (.cmp .eq (.var 3) (.var 2))
def c__law_counts_1 : E := (.comp e__law_counts_1 (.tp [(.nm 3), (.nm 4)]) (.seq (.var 1)) t__law_counts_1 [("_law_one", 3), ("_law_deed", 4)])
theorem bA_c__law_counts_1 {f : Eng.Env → Mem → R U} {σ : Eng.Env} {m : Mem} : bA c__law_counts_1 f σ m = f σ m := rfl
def e__law_counts_2 : E := (.b1 .len c__law_counts_1)
def c__law_counts_2 : E := (.comp e__law_counts_2 (.nm 2) (.rng1 (.var 0)) .no [("_law_hand", 2)])
theorem bA_c__law_counts_2 {f : Eng.Env → Mem → R U} {σ : Eng.Env} {m : Mem} : bA c__law_counts_2 f σ m = f σ m := rfl
def d__law_counts : FD := ⟨"_law_counts", 2, ["_law_hands", "_law_history_here", "_law_hand", "_law_one", "_law_deed"],
    (.cons (.ret (.b1 .tuple c__law_counts_2))
      .nil)⟩
def b__law_board_1 : Ss := (.cons (.ife (.cmp .lt (.ix (.bv 4) (.var 5)) (.ix (.var 2) (.var 5))) (.cons (.asg 3 (.ix (.ix (.ix (.var 0) (.cst (.int 1))) (.var 6)) (.var 3)))
      .nil) .nil)
      (.cons (.setO 4 (.var 5) (.bin .add (.ix (.bv 4) (.var 5)) (.cst (.int 1))))
      .nil))
def l__law_board_1 : S := (.for_ (.tp [(.nm 5), (.nm 6)]) (.seq (.var 1)) b__law_board_1)
def d__law_board : FD := ⟨"_law_board", 3, ["_law_machine_here", "_law_history_here", "_law_counts_here", "_law_board_here", "_law_seen", "_law_hand", "_law_deed"],
    (.cons (.par2o 3 4 (.ix (.var 0) (.cst (.int 0))) (.lmul (.cons (.cst (.int 0)) .nil) (.b1 .len (.var 2))))
      (.cons l__law_board_1
      (.cons (.ret (.var 3))
      .nil)))⟩
def e__law_vectors_1 : E := (.bin .add (.var 4) (.tup (.cons (.var 5) .nil)))
def c__law_vectors_1 : E := (.comp e__law_vectors_1 (.nm 5) (.rng1 (.bin .add (.var 2) (.cst (.int 1)))) .no [("_law_one", 5)])
theorem bA_c__law_vectors_1 {f : Eng.Env → Mem → R U} {σ : Eng.Env} {m : Mem} : bA c__law_vectors_1 f σ m = f σ m := rfl
def b__law_vectors_1 : Ss := (.cons (.asg 3 (.bin .add (.var 3) c__law_vectors_1))
      .nil)
def l__law_vectors_1 : S := (.for_ (.nm 4) (.seq (.var 1)) b__law_vectors_1)
def b__law_vectors_2 : Ss := (.cons (.asg 3 (.lst .nil))
      (.cons l__law_vectors_1
      (.cons (.asg 1 (.var 3))
      .nil)))
def l__law_vectors_2 : S := (.for_ (.nm 2) (.seq (.var 0)) b__law_vectors_2)
def d__law_vectors : FD := ⟨"_law_vectors", 1, ["_law_counts_here", "_law_found", "_law_many", "_law_longer", "_law_vector", "_law_one"],
    (.cons (.asg 1 (.lst (.cons (.tup .nil) .nil)))
      (.cons l__law_vectors_2
      (.cons (.ret (.var 1))
      .nil)))⟩
def e__law_table_1 : E := (.call 17 (.cons (.var 0) (.cons (.var 2) (.cons (.var 4) .nil))))
def c__law_table_1 : E := (.comp e__law_table_1 (.nm 4) (.seq (.call 18 (.cons (.var 3) .nil))) .no [("_law_vector", 4)])
theorem bA_c__law_table_1 {f : Eng.Env → Mem → R U} {σ : Eng.Env} {m : Mem} : bA c__law_table_1 f σ m = f σ m := rfl
def d__law_table : FD := ⟨"_law_table", 3, ["_law_machine_here", "_law_hands", "_law_history_here", "_law_counts_here", "_law_vector"],
    (.cons (.asg 3 (.call 16 (.cons (.var 1) (.cons (.var 2) .nil))))
      (.cons (.ret (.tup (.cons (.var 3) (.cons (.b1 .tuple c__law_table_1) .nil))))
      .nil))⟩
def e__law_histories_1 : E := (.bin .add (.var 6) (.tup (.cons (.tup (.cons (.var 8) (.cons (.var 9) .nil))) .nil)))
def c__law_histories_1 : E := (.comp e__law_histories_1 (.nm 9) (.rng1 (.b1 .len (.ix (.var 0) (.cst (.int 1))))) .no [("_law_deed", 9)])
theorem bA_c__law_histories_1 {f : Eng.Env → Mem → R U} {σ : Eng.Env} {m : Mem} : bA c__law_histories_1 f σ m = f σ m := rfl
def b__law_histories_1 : Ss := (.cons (.ife (.cmp .lt (.ix (.var 7) (.var 8)) (.ix (.var 2) (.var 8))) (.cons (.asg 5 (.bin .add (.var 5) c__law_histories_1))
      .nil) .nil)
      .nil)
def l__law_histories_1 : S := (.for_ (.nm 8) (.rng1 (.var 1)) b__law_histories_1)
def b__law_histories_2 : Ss := (.cons (.asg 7 (.call 16 (.cons (.var 1) (.cons (.var 6) .nil))))
      (.cons l__law_histories_1
      .nil))
def l__law_histories_2 : S := (.for_ (.nm 6) (.seq (.var 3)) b__law_histories_2)
def b__law_histories_3 : Ss := (.cons (.asg 5 (.lst .nil))
      (.cons l__law_histories_2
      (.cons (.asg 3 (.var 5))
      .nil)))
def l__law_histories_3 : S := (.for_ (.nm 4) (.rng1 (.b1 .sum (.var 2))) b__law_histories_3)
def d__law_histories : FD := ⟨"_law_histories", 3, ["_law_machine_here", "_law_hands", "_law_counts_here", "_law_found", "_law_turn", "_law_longer", "_law_history_here", "_law_here", "_law_hand", "_law_deed"],
    (.cons (.asg 3 (.lst (.cons (.tup .nil) .nil)))
      (.cons l__law_histories_3
      (.cons (.ret (.var 3))
      .nil)))⟩
def e__law_clash_1 : E := (.tup (.cons (.cst (.int 0)) (.cons (.var 8) .nil)))
def c__law_clash_1 : E := (.comp e__law_clash_1 (.nm 8) (.seq (.var 5)) .no [("_law_deed", 8)])
theorem bA_c__law_clash_1 {f : Eng.Env → Mem → R U} {σ : Eng.Env} {m : Mem} : bA c__law_clash_1 f σ m = f σ m := rfl
def b__law_clash_1 : Ss := (.cons (.ife (.cmp .ne (.ix (.ix (.ix (.var 0) (.cst (.int 1))) (.var 7)) (.ix (.ix (.ix (.var 0) (.cst (.int 1))) (.var 9)) (.var 6))) (.ix (.ix (.ix (.var 0) (.cst (.int 1))) (.var 9)) (.ix (.ix (.ix (.var 0) (.cst (.int 1))) (.var 7)) (.var 6)))) (.cons (.ret (.tup (.cons (.var 5) (.cons (.var 7) (.cons (.var 9) .nil)))))
      .nil) .nil)
      .nil)
def l__law_clash_1 : S := (.for_ (.nm 9) (.rng2 (.bin .add (.var 7) (.cst (.int 1))) (.b1 .len (.ix (.var 0) (.cst (.int 1))))) b__law_clash_1)
def b__law_clash_2 : Ss := (.cons l__law_clash_1
      .nil)
def l__law_clash_2 : S := (.for_ (.nm 7) (.rng1 (.b1 .len (.ix (.var 0) (.cst (.int 1))))) b__law_clash_2)
def b__law_clash_3 : Ss := (.cons (.ife (.din true (.ix (.ix (.ix (.var 0) (.cst (.int 1))) (.var 8)) (.var 6)) (.var 2)) (.cons (.setM (.var 2) (.ix (.ix (.ix (.var 0) (.cst (.int 1))) (.var 8)) (.var 6)) (.bin .add (.var 5) (.tup (.cons (.var 8) .nil))))
      (.cons (.app 4 (.bin .add (.var 5) (.tup (.cons (.var 8) .nil))))
      .nil)) .nil)
      .nil)
def l__law_clash_3 : S := (.for_ (.nm 8) (.rng1 (.b1 .len (.ix (.var 0) (.cst (.int 1))))) b__law_clash_3)
def b__law_clash_4 : Ss := (.cons (.asg 6 (.call 17 (.cons (.var 0) (.cons c__law_clash_1 (.cons (.tup (.cons (.b1 .len (.var 5)) .nil)) .nil)))))
      (.cons l__law_clash_2
      (.cons l__law_clash_3
      .nil)))
def l__law_clash_4 : S := (.for_ (.nm 5) (.seq (.var 1)) b__law_clash_4)
def b__law_clash_5 : Ss := (.cons (.own 4 (.lst .nil))
      (.cons l__law_clash_4
      (.cons (.frz 4)
      (.cons (.asg 1 (.var 4))
      .nil))))
def l__law_clash_5 : S := (.for_ (.nm 3) (.rng1 (.b1 .len (.ix (.ix (.var 0) (.cst (.int 1))) (.cst (.int 0))))) b__law_clash_5)
def d__law_clash : FD := ⟨"_law_clash", 1, ["_law_machine_here", "_law_rows", "_law_seen", "_law_turn", "_law_longer", "_law_row", "_law_board_here", "_law_one", "_law_deed", "_law_other"],
    (.cons (.asg 1 (.lst (.cons (.tup .nil) .nil)))
      (.cons (.asg 2 (.newD1 (.ix (.var 0) (.cst (.int 0))) (.tup .nil)))
      (.cons l__law_clash_5
      (.cons (.ret (.cst .none))
      .nil))))⟩
def e__law_kinds_1 : E := (.call 19 (.cons (.var 0) (.cons (.var 1) (.cons (.var 3) .nil))))
def c__law_kinds_1 : E := (.comp e__law_kinds_1 (.nm 3) (.seq (.call 20 (.cons (.var 0) (.cons (.var 1) (.cons (.var 2) .nil))))) .no [("_law_history_here", 3)])
theorem bA_c__law_kinds_1 {f : Eng.Env → Mem → R U} {σ : Eng.Env} {m : Mem} : bA c__law_kinds_1 f σ m = f σ m := rfl
def d__law_kinds : FD := ⟨"_law_kinds", 3, ["_law_machine_here", "_law_hands", "_law_counts_here", "_law_history_here"],
    (.cons (.ret (.lset c__law_kinds_1))
      .nil)⟩
def b_law_1 : Ss := (.cons (.asg 7 (.bin .mul (.var 7) (.call 22 (.cons (.var 3) (.cons (.cst (.int 1)) (.cons (.tup (.cons (.var 8) .nil)) .nil))))))
      .nil)
def l_law_1 : S := (.for_ (.nm 8) (.seq (.var 6)) b_law_1)
def e_law_1 : E := (.tup (.cons (.cst (.int 0)) (.cons (.var 16) .nil)))
def c_law_1 : E := (.comp e_law_1 (.nm 16) (.seq (.ix (.var 4) (.cst (.int 0)))) .no [("_law_deed", 16)])
theorem bA_c_law_1 {f : Eng.Env → Mem → R U} {σ : Eng.Env} {m : Mem} : bA c_law_1 f σ m = f σ m := rfl
def e_law_2 : E := (.call 19 (.cons (.var 3) (.cons (.cst (.int 2)) (.cons (.var 15) .nil))))
def c_law_2 : E := (.comp e_law_2 (.nm 15) (.seq (.var 5)) .no [("_law_history_here", 15)])
def e_law_3 : E := (.tup (.cons (.cst (.int 0)) (.cons (.var 16) .nil)))
def t_law_1 : E := (.cmp .eq (.var 17) (.var 11))
def c_law_3 : E := (.comp e_law_3 (.tp [(.nm 17), (.nm 16)]) (.seq (.var 15)) t_law_1 [("_law_who", 17), ("_law_deed", 16)])
def e_law_4 : E := (.call 19 (.cons (.var 3) (.cons (.cst (.int 1)) (.cons c_law_3 .nil))))
def c_law_4 : E := (.comp e_law_4 (.nm 15) (.seq (.var 5)) .no [("_law_history_here", 15)])
def b_law_2 : Ss := (.cons (.own 14 c_law_4)
      (.cons (.frz 14)
      (.cons (.ife (.cmp .ne (.ix (.var 14) (.cst (.int 0))) (.ix (.var 14) (.cst (.int 1)))) (.cons (.ret (.cst (.bool false)))
      .nil) .nil)
      .nil)))
def l_law_2 : S := (.for_ (.nm 11) (.rng1 (.cst (.int 2))) b_law_2)
def b_law_3 : Ss := (.cons (.asg 2 (.call 12 (.cons (.var 0) (.cons (.var 1) .nil))))
      (.cons (.asg 3 (.call 15 (.cons (.var 2) (.cons (.cst (.int 4)) (.cons (.cst (.int 3)) .nil)))))
      (.cons (.asg 4 (.call 21 (.cons (.var 3) .nil)))
      (.cons (.ife (.cmp .ne (.b1 .repr (.lst (.cons (.call 9 (.cons (.var 3) .nil)) (.cons (.callk 9 .nil (.cons (.b1 .list (.var 3)) .nil) [0]) .nil)))) (.b1 .repr (.lst (.cons (.var 4) (.cons (.var 4) .nil))))) (.cons (.ret (.cst (.bool false)))
      .nil) .nil)
      (.cons (.ife (.cmp .ne (.b1 .repr (.lst (.cons (.call 10 (.cons (.var 3) .nil)) (.cons (.callk 10 .nil (.cons (.var 3) .nil) [0]) .nil)))) (.b1 .repr (.lst (.cons (.cmp .is (.var 4) (.cst .none)) (.cons (.cmp .is (.var 4) (.cst .none)) .nil))))) (.cons (.ret (.cst (.bool false)))
      .nil) .nil)
      (.cons (.asg 5 (.call 11 (.cons (.var 3) .nil)))
      (.cons (.ife (.or (.cmp .ne (.b1 .repr (.callk 11 .nil (.cons (.var 3) .nil) [0])) (.b1 .repr (.var 5))) (.cmp .ne (.cmp .is (.var 5) (.cst .none)) (.cmp .is (.var 4) (.cst .none)))) (.cons (.ret (.cst (.bool false)))
      .nil) .nil)
      (.cons (.ife (.cmp .is (.var 5) (.cst .none)) (.cons (.asg 6 (.call 14 (.cons (.var 2) (.cons (.lst (.cons (.tup (.cons (.cst (.int 1)) (.cons (.cst (.int 1)) .nil))) (.cons (.tup (.cons (.cst (.int 2)) (.cons (.cst (.int 1)) .nil))) (.cons (.tup (.cons (.cst (.int 1)) (.cons (.cst (.int 1)) (.cons (.cst (.int 1)) .nil)))) .nil)))) .nil))))
      (.cons (.asg 7 (.cst (.int 1)))
      (.cons l_law_1
      (.cons (.ife (.cmp .ne (.call 22 (.cons (.var 3) (.cons (.b1 .len (.var 6)) (.cons (.var 6) .nil)))) (.var 7)) (.cons (.ret (.cst (.bool false)))
      .nil) .nil)
      .nil)))) (.cons (.asg 9 (.b1 .tuple c_law_1))
      (.cons (.asg 10 (.tup (.cons (.bin .add (.var 9) (.tup (.cons (.tup (.cons (.cst (.int 0)) (.cons (.ix (.var 4) (.cst (.int 1))) .nil))) (.cons (.tup (.cons (.cst (.int 1)) (.cons (.ix (.var 4) (.cst (.int 2))) .nil))) .nil)))) (.cons (.bin .add (.var 9) (.tup (.cons (.tup (.cons (.cst (.int 1)) (.cons (.ix (.var 4) (.cst (.int 2))) .nil))) (.cons (.tup (.cons (.cst (.int 0)) (.cons (.ix (.var 4) (.cst (.int 1))) .nil))) .nil)))) .nil))))
      (.cons (.ife (.cmp .ne (.b1 .repr (.var 5)) (.b1 .repr (.var 10))) (.cons (.ret (.cst (.bool false)))
      .nil) .nil)
      (.cons (.asg 8 (.bin .add (.b1 .len (.var 9)) (.cst (.int 1))))
      (.cons (.ife (.and (.cmp .lt (.var 8) (.cst (.int 3))) (.not (.cmp .gt (.call 22 (.cons (.var 3) (.cons (.cst (.int 2)) (.cons (.tup (.cons (.var 8) (.cons (.cst (.int 1)) .nil))) .nil)))) (.bin .mul (.call 22 (.cons (.var 3) (.cons (.cst (.int 1)) (.cons (.tup (.cons (.var 8) .nil)) .nil)))) (.call 22 (.cons (.var 3) (.cons (.cst (.int 1)) (.cons (.tup (.cons (.cst (.int 1)) .nil)) .nil)))))))) (.cons (.ret (.cst (.bool false)))
      .nil) .nil)
      (.cons (.asgT [(.nm 12), (.nm 13)] c_law_2)
      (.cons (.ife (.or (.cmp .ne (.ix (.var 12) (.cst (.int 0))) (.ix (.var 13) (.cst (.int 0)))) (.or (.cmp .eq (.var 12) (.var 13)) (.cmp .ne (.b1 .len (.ix (.var 5) (.cst (.int 0)))) (.bin .add (.b1 .len (.ix (.var 4) (.cst (.int 0)))) (.cst (.int 2)))))) (.cons (.ret (.cst (.bool false)))
      .nil) .nil)
      (.cons l_law_2
      .nil)))))))))
      .nil))))))))
def l_law_3 : S := (.for_ (.nm 1) (.rng1 (.cst (.int 4))) b_law_3)
def d_law : FD := ⟨"law", 1, ["_law_script", "_law_k", "_law_box_here", "_law_machine_here", "_law_due", "_law_found", "_law_counts_here", "_law_product", "_law_many", "_law_row", "_law_pair", "_law_hand", "_law_one", "_law_other", "_law_rims", "_law_history_here", "_law_deed", "_law_who"],
    (.cons l_law_3
      (.cons (.ret (.cst (.bool true)))
      .nil))⟩
def topS (i : Nat) : Stmt := PySem.Challenge.pw_ownback_k44_whole_when_other_hands_cost.main.body.getD i (.Pass ⟨0, 0, 0, 0⟩)
abbrev s_is_integer : Stmt := topS 6
abbrev s_is_number : Stmt := topS 7
abbrev s_is_below : Stmt := topS 8
abbrev s_is_sequence : Stmt := topS 9
abbrev s_are_below : Stmt := topS 10
abbrev s_is_map : Stmt := topS 12
abbrev s_are_deeds : Stmt := topS 13
abbrev s_check_machine : Stmt := topS 14
abbrev s_rows_to : Stmt := topS 16
abbrev s_clash : Stmt := topS 17
abbrev s_costs_nothing : Stmt := topS 18
abbrev s_two_of_one_rim : Stmt := topS 19
abbrev s__law_box : Stmt := topS 21
abbrev s__law_take : Stmt := topS 22
abbrev s__law_pick : Stmt := topS 23
abbrev s__law_machine : Stmt := topS 24
abbrev s__law_counts : Stmt := topS 26
abbrev s__law_board : Stmt := topS 27
abbrev s__law_vectors : Stmt := topS 28
abbrev s__law_table : Stmt := topS 29
abbrev s__law_histories : Stmt := topS 30
abbrev s__law_clash : Stmt := topS 31
abbrev s__law_kinds : Stmt := topS 32
abbrev s_law : Stmt := topS 33
def tb : Tb := [(0, d_is_integer, s_is_integer), (1, d_is_number, s_is_number), (2, d_is_below, s_is_below), (3, d_is_sequence, s_is_sequence), (4, d_are_below, s_are_below), (5, d_is_map, s_is_map), (6, d_are_deeds, s_are_deeds), (7, d_check_machine, s_check_machine), (8, d_rows_to, s_rows_to), (9, d_clash, s_clash), (10, d_costs_nothing, s_costs_nothing), (11, d_two_of_one_rim, s_two_of_one_rim), (12, d__law_box, s__law_box), (13, d__law_take, s__law_take), (14, d__law_pick, s__law_pick), (15, d__law_machine, s__law_machine), (16, d__law_counts, s__law_counts), (17, d__law_board, s__law_board), (18, d__law_vectors, s__law_vectors), (19, d__law_table, s__law_table), (20, d__law_histories, s__law_histories), (21, d__law_clash, s__law_clash), (22, d__law_kinds, s__law_kinds), (23, d_law, s_law)]
abbrev P : Prog := tb.prog
def gl : List (Str × PyData) := [("MOST_DEEDS", .int 6), ("MOST_BOARDS", .int 8)]
def gdt : List (Str × List (Str × Int) × List Str) := []
def kb : List (Nat × Nat × List Str × List Nat) := [(9, 0, ["machine"], [0]), (10, 0, ["machine"], [0]), (11, 0, ["machine"], [0])]
def cl : List (Str × Str) := []
def ci : List (Nat × Str × Bool) := []
def kwo : List Nat := []
def df : List (Str × Stmt × List Str) := []
def G : Cfg := ⟨tb.nm, gl, kb, gdt, cl, ci, kwo, df, lams⟩
/-! ### the checks -/
set_option maxRecDepth 100000 in
theorem ok_is_integer : okSs G d_is_integer.N ⟨defScope s_is_integer, fun _ => true, lamOf G d_is_integer.name⟩ d_is_integer.body (defBody s_is_integer) = true := by decide +kernel
theorem sc_is_integer : FnScope d_is_integer.N (d_is_integer.N.take d_is_integer.np) (defScope s_is_integer) := ⟨rfl, rfl, rfl, by decide +kernel, rfl, by decide +kernel, by decide +kernel⟩
theorem sd_is_integer : SD G 0 d_is_integer s_is_integer := ⟨rfl, sc_is_integer, ok_is_integer, fun _ _ _ _ _ _ _ us hl => match us, hl with | [_], _ => rfl, fun kV doc pm an cdv ct na ks perm h => by
    simp only [G, kb, List.mem_cons, List.not_mem_nil, or_false, Prod.mk.injEq, Nat.reduceEqDiff, false_and] at h
    done⟩
set_option maxRecDepth 100000 in
theorem ok_is_number : okSs G d_is_number.N ⟨defScope s_is_number, fun _ => true, lamOf G d_is_number.name⟩ d_is_number.body (defBody s_is_number) = true := by decide +kernel
theorem sc_is_number : FnScope d_is_number.N (d_is_number.N.take d_is_number.np) (defScope s_is_number) := ⟨rfl, rfl, rfl, by decide +kernel, rfl, by decide +kernel, by decide +kernel⟩
theorem sd_is_number : SD G 1 d_is_number s_is_number := ⟨rfl, sc_is_number, ok_is_number, fun _ _ _ _ _ _ _ us hl => match us, hl with | [_], _ => rfl, fun kV doc pm an cdv ct na ks perm h => by
    simp only [G, kb, List.mem_cons, List.not_mem_nil, or_false, Prod.mk.injEq, Nat.reduceEqDiff, false_and] at h
    done⟩
set_option maxRecDepth 100000 in
theorem ok_is_below : okSs G d_is_below.N ⟨defScope s_is_below, fun _ => true, lamOf G d_is_below.name⟩ d_is_below.body (defBody s_is_below) = true := by decide +kernel
theorem sc_is_below : FnScope d_is_below.N (d_is_below.N.take d_is_below.np) (defScope s_is_below) := ⟨rfl, rfl, rfl, by decide +kernel, rfl, by decide +kernel, by decide +kernel⟩
theorem sd_is_below : SD G 2 d_is_below s_is_below := ⟨rfl, sc_is_below, ok_is_below, fun _ _ _ _ _ _ _ us hl => match us, hl with | [_, _], _ => rfl, fun kV doc pm an cdv ct na ks perm h => by
    simp only [G, kb, List.mem_cons, List.not_mem_nil, or_false, Prod.mk.injEq, Nat.reduceEqDiff, false_and] at h
    done⟩
set_option maxRecDepth 100000 in
theorem ok_is_sequence : okSs G d_is_sequence.N ⟨defScope s_is_sequence, fun _ => true, lamOf G d_is_sequence.name⟩ d_is_sequence.body (defBody s_is_sequence) = true := by decide +kernel
theorem sc_is_sequence : FnScope d_is_sequence.N (d_is_sequence.N.take d_is_sequence.np) (defScope s_is_sequence) := ⟨rfl, rfl, rfl, by decide +kernel, rfl, by decide +kernel, by decide +kernel⟩
theorem sd_is_sequence : SD G 3 d_is_sequence s_is_sequence := ⟨rfl, sc_is_sequence, ok_is_sequence, fun _ _ _ _ _ _ _ us hl => match us, hl with | [_], _ => rfl, fun kV doc pm an cdv ct na ks perm h => by
    simp only [G, kb, List.mem_cons, List.not_mem_nil, or_false, Prod.mk.injEq, Nat.reduceEqDiff, false_and] at h
    done⟩
set_option maxRecDepth 100000 in
theorem ok_are_below : okSs G d_are_below.N ⟨defScope s_are_below, fun _ => true, lamOf G d_are_below.name⟩ d_are_below.body (defBody s_are_below) = true := by decide +kernel
theorem sc_are_below : FnScope d_are_below.N (d_are_below.N.take d_are_below.np) (defScope s_are_below) := ⟨rfl, rfl, rfl, by decide +kernel, rfl, by decide +kernel, by decide +kernel⟩
theorem sd_are_below : SD G 4 d_are_below s_are_below := ⟨rfl, sc_are_below, ok_are_below, fun _ _ _ _ _ _ _ us hl => match us, hl with | [_, _], _ => rfl, fun kV doc pm an cdv ct na ks perm h => by
    simp only [G, kb, List.mem_cons, List.not_mem_nil, or_false, Prod.mk.injEq, Nat.reduceEqDiff, false_and] at h
    done⟩
set_option maxRecDepth 100000 in
theorem ok_is_map : okSs G d_is_map.N ⟨defScope s_is_map, fun _ => true, lamOf G d_is_map.name⟩ d_is_map.body (defBody s_is_map) = true := by decide +kernel
theorem sc_is_map : FnScope d_is_map.N (d_is_map.N.take d_is_map.np) (defScope s_is_map) := ⟨rfl, rfl, rfl, by decide +kernel, rfl, by decide +kernel, by decide +kernel⟩
theorem sd_is_map : SD G 5 d_is_map s_is_map := ⟨rfl, sc_is_map, ok_is_map, fun _ _ _ _ _ _ _ us hl => match us, hl with | [_, _], _ => rfl, fun kV doc pm an cdv ct na ks perm h => by
    simp only [G, kb, List.mem_cons, List.not_mem_nil, or_false, Prod.mk.injEq, Nat.reduceEqDiff, false_and] at h
    done⟩
set_option maxRecDepth 100000 in
theorem ok_are_deeds : okSs G d_are_deeds.N ⟨defScope s_are_deeds, fun _ => true, lamOf G d_are_deeds.name⟩ d_are_deeds.body (defBody s_are_deeds) = true := by decide +kernel
theorem sc_are_deeds : FnScope d_are_deeds.N (d_are_deeds.N.take d_are_deeds.np) (defScope s_are_deeds) := ⟨rfl, rfl, rfl, by decide +kernel, rfl, by decide +kernel, by decide +kernel⟩
theorem sd_are_deeds : SD G 6 d_are_deeds s_are_deeds := ⟨rfl, sc_are_deeds, ok_are_deeds, fun _ _ _ _ _ _ _ us hl => match us, hl with | [_], _ => rfl, fun kV doc pm an cdv ct na ks perm h => by
    simp only [G, kb, List.mem_cons, List.not_mem_nil, or_false, Prod.mk.injEq, Nat.reduceEqDiff, false_and] at h
    done⟩
set_option maxRecDepth 100000 in
theorem ok_check_machine : okSs G d_check_machine.N ⟨defScope s_check_machine, fun _ => true, lamOf G d_check_machine.name⟩ d_check_machine.body (defBody s_check_machine) = true := by decide +kernel
theorem sc_check_machine : FnScope d_check_machine.N (d_check_machine.N.take d_check_machine.np) (defScope s_check_machine) := ⟨rfl, rfl, rfl, by decide +kernel, rfl, by decide +kernel, by decide +kernel⟩
theorem sd_check_machine : SD G 7 d_check_machine s_check_machine := ⟨rfl, sc_check_machine, ok_check_machine, fun _ _ _ _ _ _ _ us hl => match us, hl with | [_], _ => rfl, fun kV doc pm an cdv ct na ks perm h => by
    simp only [G, kb, List.mem_cons, List.not_mem_nil, or_false, Prod.mk.injEq, Nat.reduceEqDiff, false_and] at h
    done⟩
set_option maxRecDepth 100000 in
theorem ok_rows_to : okSs G d_rows_to.N ⟨defScope s_rows_to, fun _ => true, lamOf G d_rows_to.name⟩ d_rows_to.body (defBody s_rows_to) = true := by decide +kernel
theorem sc_rows_to : FnScope d_rows_to.N (d_rows_to.N.take d_rows_to.np) (defScope s_rows_to) := ⟨rfl, rfl, rfl, by decide +kernel, rfl, by decide +kernel, by decide +kernel⟩
theorem sd_rows_to : SD G 8 d_rows_to s_rows_to := ⟨rfl, sc_rows_to, ok_rows_to, fun _ _ _ _ _ _ _ us hl => match us, hl with | [_], _ => rfl, fun kV doc pm an cdv ct na ks perm h => by
    simp only [G, kb, List.mem_cons, List.not_mem_nil, or_false, Prod.mk.injEq, Nat.reduceEqDiff, false_and] at h
    done⟩
set_option maxRecDepth 100000 in
theorem ok_clash : okSs G d_clash.N ⟨defScope s_clash, fun _ => true, lamOf G d_clash.name⟩ d_clash.body (defBody s_clash) = true := by decide +kernel
theorem sc_clash : FnScope d_clash.N (d_clash.N.take d_clash.np) (defScope s_clash) := ⟨rfl, rfl, rfl, by decide +kernel, rfl, by decide +kernel, by decide +kernel⟩
theorem sd_clash : SD G 9 d_clash s_clash := ⟨rfl, sc_clash, ok_clash, fun _ _ _ _ _ _ _ us hl => match us, hl with | [_], _ => rfl, fun kV doc pm an cdv ct na ks perm h => by
    simp only [G, kb, List.mem_cons, List.not_mem_nil, or_false, Prod.mk.injEq, Nat.reduceEqDiff, false_and, true_and, eq_self, false_or] at h
    rcases h with ⟨rfl, rfl, rfl⟩
    · exact fun us hl => match us, hl with | [x0], _ => ⟨[x0], rfl, rfl, rfl⟩
    ⟩
set_option maxRecDepth 100000 in
theorem ok_costs_nothing : okSs G d_costs_nothing.N ⟨defScope s_costs_nothing, fun _ => true, lamOf G d_costs_nothing.name⟩ d_costs_nothing.body (defBody s_costs_nothing) = true := by decide +kernel
theorem sc_costs_nothing : FnScope d_costs_nothing.N (d_costs_nothing.N.take d_costs_nothing.np) (defScope s_costs_nothing) := ⟨rfl, rfl, rfl, by decide +kernel, rfl, by decide +kernel, by decide +kernel⟩
theorem sd_costs_nothing : SD G 10 d_costs_nothing s_costs_nothing := ⟨rfl, sc_costs_nothing, ok_costs_nothing, fun _ _ _ _ _ _ _ us hl => match us, hl with | [_], _ => rfl, fun kV doc pm an cdv ct na ks perm h => by
    simp only [G, kb, List.mem_cons, List.not_mem_nil, or_false, Prod.mk.injEq, Nat.reduceEqDiff, false_and, true_and, eq_self, false_or] at h
    rcases h with ⟨rfl, rfl, rfl⟩
    · exact fun us hl => match us, hl with | [x0], _ => ⟨[x0], rfl, rfl, rfl⟩
    ⟩
set_option maxRecDepth 100000 in
theorem ok_two_of_one_rim : okSs G d_two_of_one_rim.N ⟨defScope s_two_of_one_rim, fun _ => true, lamOf G d_two_of_one_rim.name⟩ d_two_of_one_rim.body (defBody s_two_of_one_rim) = true := by decide +kernel
theorem sc_two_of_one_rim : FnScope d_two_of_one_rim.N (d_two_of_one_rim.N.take d_two_of_one_rim.np) (defScope s_two_of_one_rim) := ⟨rfl, rfl, rfl, by decide +kernel, rfl, by decide +kernel, by decide +kernel⟩
theorem sd_two_of_one_rim : SD G 11 d_two_of_one_rim s_two_of_one_rim := ⟨rfl, sc_two_of_one_rim, ok_two_of_one_rim, fun _ _ _ _ _ _ _ us hl => match us, hl with | [_], _ => rfl, fun kV doc pm an cdv ct na ks perm h => by
    simp only [G, kb, List.mem_cons, List.not_mem_nil, or_false, Prod.mk.injEq, Nat.reduceEqDiff, false_and, true_and, eq_self, false_or] at h
    rcases h with ⟨rfl, rfl, rfl⟩
    · exact fun us hl => match us, hl with | [x0], _ => ⟨[x0], rfl, rfl, rfl⟩
    ⟩
set_option maxRecDepth 100000 in
theorem ok__law_box : okSs G d__law_box.N ⟨defScope s__law_box, fun _ => true, lamOf G d__law_box.name⟩ d__law_box.body (defBody s__law_box) = true := by decide +kernel
theorem sc__law_box : FnScope d__law_box.N (d__law_box.N.take d__law_box.np) (defScope s__law_box) := ⟨rfl, rfl, rfl, by decide +kernel, rfl, by decide +kernel, by decide +kernel⟩
theorem sd__law_box : SD G 12 d__law_box s__law_box := ⟨rfl, sc__law_box, ok__law_box, fun _ _ _ _ _ _ _ us hl => match us, hl with | [_, _], _ => rfl, fun kV doc pm an cdv ct na ks perm h => by
    simp only [G, kb, List.mem_cons, List.not_mem_nil, or_false, Prod.mk.injEq, Nat.reduceEqDiff, false_and] at h
    done⟩
set_option maxRecDepth 100000 in
theorem ok__law_take : okSs G d__law_take.N ⟨defScope s__law_take, fun _ => true, lamOf G d__law_take.name⟩ d__law_take.body (defBody s__law_take) = true := by decide +kernel
theorem sc__law_take : FnScope d__law_take.N (d__law_take.N.take d__law_take.np) (defScope s__law_take) := ⟨rfl, rfl, rfl, by decide +kernel, rfl, by decide +kernel, by decide +kernel⟩
theorem sd__law_take : SD G 13 d__law_take s__law_take := ⟨rfl, sc__law_take, ok__law_take, fun _ _ _ _ _ _ _ us hl => match us, hl with | [_, _], _ => rfl, fun kV doc pm an cdv ct na ks perm h => by
    simp only [G, kb, List.mem_cons, List.not_mem_nil, or_false, Prod.mk.injEq, Nat.reduceEqDiff, false_and] at h
    done⟩
set_option maxRecDepth 100000 in
theorem ok__law_pick : okSs G d__law_pick.N ⟨defScope s__law_pick, fun _ => true, lamOf G d__law_pick.name⟩ d__law_pick.body (defBody s__law_pick) = true := by decide +kernel
theorem sc__law_pick : FnScope d__law_pick.N (d__law_pick.N.take d__law_pick.np) (defScope s__law_pick) := ⟨rfl, rfl, rfl, by decide +kernel, rfl, by decide +kernel, by decide +kernel⟩
theorem sd__law_pick : SD G 14 d__law_pick s__law_pick := ⟨rfl, sc__law_pick, ok__law_pick, fun _ _ _ _ _ _ _ us hl => match us, hl with | [_, _], _ => rfl, fun kV doc pm an cdv ct na ks perm h => by
    simp only [G, kb, List.mem_cons, List.not_mem_nil, or_false, Prod.mk.injEq, Nat.reduceEqDiff, false_and] at h
    done⟩
set_option maxRecDepth 100000 in
theorem ok__law_machine : okSs G d__law_machine.N ⟨defScope s__law_machine, fun _ => true, lamOf G d__law_machine.name⟩ d__law_machine.body (defBody s__law_machine) = true := by decide +kernel
theorem sc__law_machine : FnScope d__law_machine.N (d__law_machine.N.take d__law_machine.np) (defScope s__law_machine) := ⟨rfl, rfl, rfl, by decide +kernel, rfl, by decide +kernel, by decide +kernel⟩
theorem sd__law_machine : SD G 15 d__law_machine s__law_machine := ⟨rfl, sc__law_machine, ok__law_machine, fun _ _ _ _ _ _ _ us hl => match us, hl with | [_, _, _], _ => rfl, fun kV doc pm an cdv ct na ks perm h => by
    simp only [G, kb, List.mem_cons, List.not_mem_nil, or_false, Prod.mk.injEq, Nat.reduceEqDiff, false_and] at h
    done⟩
set_option maxRecDepth 100000 in
theorem ok__law_counts : okSs G d__law_counts.N ⟨defScope s__law_counts, fun _ => true, lamOf G d__law_counts.name⟩ d__law_counts.body (defBody s__law_counts) = true := by decide +kernel
theorem sc__law_counts : FnScope d__law_counts.N (d__law_counts.N.take d__law_counts.np) (defScope s__law_counts) := ⟨rfl, rfl, rfl, by decide +kernel, rfl, by decide +kernel, by decide +kernel⟩
theorem sd__law_counts : SD G 16 d__law_counts s__law_counts := ⟨rfl, sc__law_counts, ok__law_counts, fun _ _ _ _ _ _ _ us hl => match us, hl with | [_, _], _ => rfl, fun kV doc pm an cdv ct na ks perm h => by
    simp only [G, kb, List.mem_cons, List.not_mem_nil, or_false, Prod.mk.injEq, Nat.reduceEqDiff, false_and] at h
    done⟩
set_option maxRecDepth 100000 in
theorem ok__law_board : okSs G d__law_board.N ⟨defScope s__law_board, fun _ => true, lamOf G d__law_board.name⟩ d__law_board.body (defBody s__law_board) = true := by decide +kernel
theorem sc__law_board : FnScope d__law_board.N (d__law_board.N.take d__law_board.np) (defScope s__law_board) := ⟨rfl, rfl, rfl, by decide +kernel, rfl, by decide +kernel, by decide +kernel⟩
theorem sd__law_board : SD G 17 d__law_board s__law_board := ⟨rfl, sc__law_board, ok__law_board, fun _ _ _ _ _ _ _ us hl => match us, hl with | [_, _, _], _ => rfl, fun kV doc pm an cdv ct na ks perm h => by
    simp only [G, kb, List.mem_cons, List.not_mem_nil, or_false, Prod.mk.injEq, Nat.reduceEqDiff, false_and] at h
    done⟩
set_option maxRecDepth 100000 in
theorem ok__law_vectors : okSs G d__law_vectors.N ⟨defScope s__law_vectors, fun _ => true, lamOf G d__law_vectors.name⟩ d__law_vectors.body (defBody s__law_vectors) = true := by decide +kernel
theorem sc__law_vectors : FnScope d__law_vectors.N (d__law_vectors.N.take d__law_vectors.np) (defScope s__law_vectors) := ⟨rfl, rfl, rfl, by decide +kernel, rfl, by decide +kernel, by decide +kernel⟩
theorem sd__law_vectors : SD G 18 d__law_vectors s__law_vectors := ⟨rfl, sc__law_vectors, ok__law_vectors, fun _ _ _ _ _ _ _ us hl => match us, hl with | [_], _ => rfl, fun kV doc pm an cdv ct na ks perm h => by
    simp only [G, kb, List.mem_cons, List.not_mem_nil, or_false, Prod.mk.injEq, Nat.reduceEqDiff, false_and] at h
    done⟩
set_option maxRecDepth 100000 in
theorem ok__law_table : okSs G d__law_table.N ⟨defScope s__law_table, fun _ => true, lamOf G d__law_table.name⟩ d__law_table.body (defBody s__law_table) = true := by decide +kernel
theorem sc__law_table : FnScope d__law_table.N (d__law_table.N.take d__law_table.np) (defScope s__law_table) := ⟨rfl, rfl, rfl, by decide +kernel, rfl, by decide +kernel, by decide +kernel⟩
theorem sd__law_table : SD G 19 d__law_table s__law_table := ⟨rfl, sc__law_table, ok__law_table, fun _ _ _ _ _ _ _ us hl => match us, hl with | [_, _, _], _ => rfl, fun kV doc pm an cdv ct na ks perm h => by
    simp only [G, kb, List.mem_cons, List.not_mem_nil, or_false, Prod.mk.injEq, Nat.reduceEqDiff, false_and] at h
    done⟩
set_option maxRecDepth 100000 in
theorem ok__law_histories : okSs G d__law_histories.N ⟨defScope s__law_histories, fun _ => true, lamOf G d__law_histories.name⟩ d__law_histories.body (defBody s__law_histories) = true := by decide +kernel
theorem sc__law_histories : FnScope d__law_histories.N (d__law_histories.N.take d__law_histories.np) (defScope s__law_histories) := ⟨rfl, rfl, rfl, by decide +kernel, rfl, by decide +kernel, by decide +kernel⟩
theorem sd__law_histories : SD G 20 d__law_histories s__law_histories := ⟨rfl, sc__law_histories, ok__law_histories, fun _ _ _ _ _ _ _ us hl => match us, hl with | [_, _, _], _ => rfl, fun kV doc pm an cdv ct na ks perm h => by
    simp only [G, kb, List.mem_cons, List.not_mem_nil, or_false, Prod.mk.injEq, Nat.reduceEqDiff, false_and] at h
    done⟩
set_option maxRecDepth 100000 in
theorem ok__law_clash : okSs G d__law_clash.N ⟨defScope s__law_clash, fun _ => true, lamOf G d__law_clash.name⟩ d__law_clash.body (defBody s__law_clash) = true := by decide +kernel
theorem sc__law_clash : FnScope d__law_clash.N (d__law_clash.N.take d__law_clash.np) (defScope s__law_clash) := ⟨rfl, rfl, rfl, by decide +kernel, rfl, by decide +kernel, by decide +kernel⟩
theorem sd__law_clash : SD G 21 d__law_clash s__law_clash := ⟨rfl, sc__law_clash, ok__law_clash, fun _ _ _ _ _ _ _ us hl => match us, hl with | [_], _ => rfl, fun kV doc pm an cdv ct na ks perm h => by
    simp only [G, kb, List.mem_cons, List.not_mem_nil, or_false, Prod.mk.injEq, Nat.reduceEqDiff, false_and] at h
    done⟩
set_option maxRecDepth 100000 in
theorem ok__law_kinds : okSs G d__law_kinds.N ⟨defScope s__law_kinds, fun _ => true, lamOf G d__law_kinds.name⟩ d__law_kinds.body (defBody s__law_kinds) = true := by decide +kernel
theorem sc__law_kinds : FnScope d__law_kinds.N (d__law_kinds.N.take d__law_kinds.np) (defScope s__law_kinds) := ⟨rfl, rfl, rfl, by decide +kernel, rfl, by decide +kernel, by decide +kernel⟩
theorem sd__law_kinds : SD G 22 d__law_kinds s__law_kinds := ⟨rfl, sc__law_kinds, ok__law_kinds, fun _ _ _ _ _ _ _ us hl => match us, hl with | [_, _, _], _ => rfl, fun kV doc pm an cdv ct na ks perm h => by
    simp only [G, kb, List.mem_cons, List.not_mem_nil, or_false, Prod.mk.injEq, Nat.reduceEqDiff, false_and] at h
    done⟩
set_option maxRecDepth 100000 in
theorem ok_law : okSs G d_law.N ⟨defScope s_law, fun _ => true, lamOf G d_law.name⟩ d_law.body (defBody s_law) = true := by decide +kernel
theorem sc_law : FnScope d_law.N (d_law.N.take d_law.np) (defScope s_law) := ⟨rfl, rfl, rfl, by decide +kernel, rfl, by decide +kernel, by decide +kernel⟩
theorem sd_law : SD G 23 d_law s_law := ⟨rfl, sc_law, ok_law, fun _ _ _ _ _ _ _ us hl => match us, hl with | [_], _ => rfl, fun kV doc pm an cdv ct na ks perm h => by
    simp only [G, kb, List.mem_cons, List.not_mem_nil, or_false, Prod.mk.injEq, Nat.reduceEqDiff, false_and] at h
    done⟩
theorem sd : allSD G tb := ⟨sd_is_integer, sd_is_number, sd_is_below, sd_is_sequence, sd_are_below, sd_is_map, sd_are_deeds, sd_check_machine, sd_rows_to, sd_clash, sd_costs_nothing, sd_two_of_one_rim, sd__law_box, sd__law_take, sd__law_pick, sd__law_machine, sd__law_counts, sd__law_board, sd__law_vectors, sd__law_table, sd__law_histories, sd__law_clash, sd__law_kinds, sd_law, trivial⟩
theorem sdf : allSDF G.df := trivial
theorem P_is_integer : P 0 = some d_is_integer := rfl
theorem P_is_number : P 1 = some d_is_number := rfl
theorem P_is_below : P 2 = some d_is_below := rfl
theorem P_is_sequence : P 3 = some d_is_sequence := rfl
theorem P_are_below : P 4 = some d_are_below := rfl
theorem P_is_map : P 5 = some d_is_map := rfl
theorem P_are_deeds : P 6 = some d_are_deeds := rfl
theorem P_check_machine : P 7 = some d_check_machine := rfl
theorem P_rows_to : P 8 = some d_rows_to := rfl
theorem P_clash : P 9 = some d_clash := rfl
theorem P_costs_nothing : P 10 = some d_costs_nothing := rfl
theorem P_two_of_one_rim : P 11 = some d_two_of_one_rim := rfl
theorem P__law_box : P 12 = some d__law_box := rfl
theorem P__law_take : P 13 = some d__law_take := rfl
theorem P__law_pick : P 14 = some d__law_pick := rfl
theorem P__law_machine : P 15 = some d__law_machine := rfl
theorem P__law_counts : P 16 = some d__law_counts := rfl
theorem P__law_board : P 17 = some d__law_board := rfl
theorem P__law_vectors : P 18 = some d__law_vectors := rfl
theorem P__law_table : P 19 = some d__law_table := rfl
theorem P__law_histories : P 20 = some d__law_histories := rfl
theorem P__law_clash : P 21 = some d__law_clash := rfl
theorem P__law_kinds : P 22 = some d__law_kinds := rfl
theorem P_law : P 23 = some d_law := rfl
end K44
-- DEFS 24 GL 2

set_option Elab.async false
set_option linter.all false
set_option maxRecDepth 100000
set_option maxHeartbeats 2000000
namespace K44
open PySem PySem.Spec PyProof.Rows L2 Eng
variable {L n : Nat} {m : Mem}
def isI : PyData → Bool
  | .int _ => true
  | _ => false
theorem is_integer_ok (d : PyData) : callN L P (n + 1) 0 [.dat d] m = .ok (.dat (.bool (isI d))) m := by
  rw [call_eq P_is_integer rfl]
  cases d <;> simp [d_is_integer, isI]
theorem is_number_int (i : Int) : callN L P (n + 2) 1 [.dat (.int i)] m = .ok (.dat (.bool (decide (0 ≤ i)))) m := by
  rw [call_eq P_is_number rfl]
  simp [d_is_number, is_integer_ok, isI]
theorem is_below_int (i j : Int) : callN L P (n + 3) 2 [.dat (.int i), .dat (.int j)] m = .ok (.dat (.bool (decide (0 ≤ i) && decide (i < j)))) m := by
  rw [call_eq P_is_below rfl]
  simp [d_is_below, is_number_int]
  by_cases h : 0 ≤ i <;> simp [h]
def iD (l : List Nat) : List PyData := l.map fun (x : Nat) => .int (x : Int)
def tI (l : List Nat) : PyData := .tuple (iD l)
def mkS (t : Bool) (xs : List PyData) : PyData := if t then .tuple xs else .list xs
@[simp] theorem iD_len (l : List Nat) : (iD l).length = l.length := by unfold iD; rw [List.length_map]
theorem is_sequence_S (t : Bool) (xs : List PyData) : callN L P (n + 1) 3 [.dat (mkS t xs)] m = .ok (.dat (.bool true)) m := by
  rw [call_eq P_is_sequence rfl]
  cases t <;> simp [d_is_sequence, mkS]
@[simp] theorem len_S (t : Bool) (xs : List PyData) : b1Val .len (mkS t xs) = some (.int xs.length) := by cases t <;> rfl
@[simp] theorem tup_S (t : Bool) (xs : List PyData) : b1Val .tuple (mkS t xs) = some (.tuple xs) := by cases t <;> rfl
@[simp] theorem lst_S (t : Bool) (xs : List PyData) : b1Val .list (mkS t xs) = some (.list xs) := by cases t <;> rfl
@[simp] theorem seq_S (t : Bool) (xs : List PyData) (m : Mem) : seqU (.dat (mkS t xs)) m = .ok xs m := by cases t <;> rfl
@[simp] theorem ix_S (t : Bool) (xs : List PyData) (i : Int) : ixVal (mkS t xs) (.int i) = L2.atI xs i := by cases t <;> rfl
@[simp] theorem len_T (xs : List PyData) : b1Val .len (.tuple xs) = some (.int xs.length) := rfl
@[simp] theorem len_L (xs : List PyData) : b1Val .len (.list xs) = some (.int xs.length) := rfl
@[simp] theorem tup_L (xs : List PyData) : b1Val .tuple (.list xs) = some (.tuple xs) := rfl
@[simp] theorem tup_T (xs : List PyData) : b1Val .tuple (.tuple xs) = some (.tuple xs) := rfl
@[simp] theorem ix_T (xs : List PyData) (i : Int) : ixVal (.tuple xs) (.int i) = L2.atI xs i := rfl
@[simp] theorem ix_L (xs : List PyData) (i : Int) : ixVal (.list xs) (.int i) = L2.atI xs i := rfl
theorem atI_nat {xs : List PyData} {i : Nat} {d : PyData} (h : xs[i]? = some d) : L2.atI xs (i : Int) = some d := by
  have hi := (List.getElem?_eq_some_iff.mp h).1
  unfold L2.atI L2.ixN
  rw [if_pos (by omega), if_pos (by omega)]
  simpa using h
@[simp] theorem atI_0 (d : PyData) (xs : List PyData) : L2.atI (d :: xs) 0 = some d := atI_nat (i := 0) rfl
@[simp] theorem atI_1 (c d : PyData) (xs : List PyData) : L2.atI (c :: d :: xs) 1 = some d := atI_nat (i := 1) rfl
theorem asBools_rep (k : Nat) : asBools (List.replicate k (PyData.bool true)) = some (List.replicate k true) := by
  induction k with
  | zero => rfl
  | succ k ih => rw [List.replicate_succ]; simp [asBools, ih, List.replicate_succ]
theorem all_true {α : Type} (l : List α) : b1Val .all (.list (l.map fun _ => PyData.bool true)) = some (.bool true) := by
  rw [List.map_const']
  simp [b1Val, asBools_rep]
theorem all_comp {C : Calls} {elt e : E} {σ : Eng.Env} {i : Nat} {own : List (Str × Nat)} {ds : List PyData} (hI : evE C e σ m = .ok (.dat d) m) (hs : seqU (.dat d) m = .ok ds m) (hl : ds.length ≤ 1000)
    (hi : ∀ x ∈ ds, ∃ σ', asgTg (.nm i) x (wipeE σ (own.map (·.2))) = some σ' ∧ evE C elt σ' m = .ok (.dat (.bool true)) m) : evE C (.comp elt (.nm i) (.seq e) .no own) σ m = .ok (.dat (.list (ds.map fun _ => .bool true))) m := by
  refine ev_comp (ds := ds) (m1 := m) (by rw [it_seq, hI, R.bind_ok, hs]) (small1001 hl) (compGo_pure fun x hx => ?_)
  obtain ⟨σ', h1, h2⟩ := hi x hx
  exact ⟨σ', h1, by rw [h2]; rfl⟩
theorem are_below_S (t : Bool) (xs : List Nat) (b : Nat) (hl : xs.length ≤ 1000) (h : ∀ x ∈ xs, x < b) : callN L P (n + 4) 4 [.dat (mkS t (iD xs)), .dat (.int b)] m = .ok (.dat (.bool true)) m := by
  rw [call_eq P_are_below rfl]
  have key : evE (callN L P (n + 3)) c_are_below_1 [.v (.dat (mkS t (iD xs))), .v (.dat (.int b)), .no] m = .ok (.dat (.list ((iD xs).map fun _ => .bool true))) m := by
    refine all_comp (d := mkS t (iD xs)) rfl (seq_S _ _ _) (by simpa using hl) fun d hd => ?_
    obtain ⟨x, hx, rfl⟩ := List.mem_map.mp hd
    have := h x hx
    refine ⟨_, rfl, ?_⟩
    simp [e_are_below_1, is_below_int]
    omega
  simp [d_are_below, is_sequence_S, bA_c_are_below_1, key, all_true]
theorem is_map_ok (r : List Nat) (b : Nat) (hl : r.length = b) (hb : b ≤ 1000) (h : ∀ x ∈ r, x < b) : callN L P (n + 5) 5 [.dat (tI r), .dat (.int b)] m = .ok (.dat (.bool true)) m := by
  rw [call_eq P_is_map rfl]
  have k := are_below_S (L := L) (n := n) (m := m) true r b (by omega) h
  simp only [mkS, if_true] at k
  simp [d_is_map, tI, k, hl]
structure MOk (b s : Nat) (rules : List (List Nat)) : Prop where
  sb : s < b
  b8 : b ≤ 8
  ne : rules ≠ []
  l6 : rules.length ≤ 6
  each : ∀ r ∈ rules, r.length = b ∧ ∀ x ∈ r, x < b
def rD (rules : List (List Nat)) : List PyData := rules.map tI
@[simp] theorem rD_len (l : List (List Nat)) : (rD l).length = l.length := by unfold rD; rw [List.length_map]
def mD (t : Bool) (s : Nat) (rules : List (List Nat)) : PyData := mkS t [.int s, .tuple (rD rules)]
theorem are_deeds_ok {b s : Nat} {rules : List (List Nat)} (h : MOk b s rules) : callN L P (n + 6) 6 [.dat (.tuple (rD rules))] m = .ok (.dat (.bool true)) m := by
  obtain ⟨r0, rs, rfl⟩ : ∃ r0 rs, rules = r0 :: rs := by
    cases rules with
    | nil => exact absurd rfl h.ne
    | cons a l => exact ⟨a, l, rfl⟩
  have h0 := h.each r0 List.mem_cons_self
  have hl := h.l6
  have h8 := h.b8
  have hsb := h.sb
  rw [call_eq P_are_deeds rfl]
  have k1 := is_sequence_S (L := L) (n := n + 4) (m := m) true (rD (r0 :: rs))
  have k2 := is_sequence_S (L := L) (n := n + 4) (m := m) true (iD r0)
  simp only [mkS, if_true] at k1 k2
  have e0 : L2.atI (rD (r0 :: rs)) 0 = some (tI r0) := atI_0 _ _
  have key : evE (callN L P (n + 5)) c_are_deeds_1 [.v (.dat (.tuple (rD (r0 :: rs)))), .v (.dat (.int b)), .no] m = .ok (.dat (.list ((rD (r0 :: rs)).map fun _ => .bool true))) m := by
    refine all_comp (d := .tuple (rD (r0 :: rs))) rfl rfl (by simp only [rD_len]; omega) fun d hd => ?_
    obtain ⟨x, hx, rfl⟩ := List.mem_map.mp hd
    have q := h.each x hx
    refine ⟨_, rfl, ?_⟩
    simp [e_are_deeds_1, is_map_ok x b q.1 (by omega) q.2]
  have hl' : ((rs.length : Int) + 1 ≤ 6) := by simp only [List.length_cons] at hl; omega
  have hl1 : (1 : Int) ≤ (rs.length : Int) + 1 := by omega
  have hb1 : (1 : Int) ≤ b := by omega
  have hb8 : (b : Int) ≤ 8 := by omega
  simp [d_are_deeds, k1, k2, e0, tI, h0.1, bA_c_are_deeds_1, key, all_true, hl', hl1, hb1, hb8]
theorem check_machine_ok {b s : Nat} {rules : List (List Nat)} (t : Bool) (h : MOk b s rules) : callN L P (n + 7) 7 [.dat (mD t s rules)] m = .ok (.dat (mD true s rules)) m := by
  obtain ⟨r0, rs, e⟩ : ∃ r0 rs, rules = r0 :: rs := by
    cases rules with
    | nil => exact absurd rfl h.ne
    | cons a l => exact ⟨a, l, rfl⟩
  have h0 := h.each r0 (by rw [e]; exact List.mem_cons_self)
  have hl := h.l6
  have hsb := h.sb
  rw [call_eq P_check_machine rfl]
  have k1 := is_sequence_S (L := L) (n := n + 5) (m := m) t [.int s, .tuple (rD rules)]
  have k2 := are_deeds_ok (L := L) (n := n) (m := m) h
  have k3 := is_below_int (L := L) (n := n + 3) (m := m) s b
  have e0 : L2.atI (rD rules) 0 = some (tI r0) := by rw [e]; exact atI_0 _ _
  have hlt : (s : Int) < b := by omega
  have key : evE (callN L P (n + 6)) c_check_machine_1 [.v (.dat (mkS t [.int s, .tuple (rD rules)])), .no] m = .ok (.dat (.list (rD rules))) m := by
    refine ev_comp (ds := rD rules) (m1 := m) (by simp) (small1001 (by simp only [rD_len]; omega)) ?_
    have := compGo_pure (elt := fun σ m => (evE (callN L P (n + 6)) e_check_machine_1 σ m).quiet) (tg := .nm 1) (σ := [.v (.dat (mkS t [.int s, .tuple (rD rules)])), .no]) (m := m) (f := id) (ds := rD rules) fun d hd => by
      obtain ⟨x, hx, rfl⟩ := List.mem_map.mp hd
      exact ⟨_, rfl, by simp [e_check_machine_1, tI]⟩
    rw [List.map_id] at this
    exact this
  simp [d_check_machine, mD, k1, k2, e0, tI, h0.1, k3, hlt, bA_c_check_machine_1, key, tup_L]
  simp [mkS]
structure COk (cs : List Nat) : Prop where
  ne : 1 ≤ cs.length
  l4 : cs.length ≤ 4
  big : ∀ c ∈ cs, c ≤ 1000
def ext (F : List (List Nat)) (c : Nat) : List (List Nat) := F.flatMap fun v => (List.range (c + 1)).map fun x => v ++ [x]
def vecs (cs : List Nat) : List (List Nat) := cs.foldl ext [[]]
theorem vecs_snoc (cs : List Nat) (c : Nat) : vecs (cs ++ [c]) = ext (vecs cs) c := by unfold vecs; rw [List.foldl_append]; rfl
def prod1 (cs : List Nat) : Nat := (cs.map (· + 1)).foldl (· * ·) 1
theorem prod1_snoc (cs : List Nat) (c : Nat) : prod1 (cs ++ [c]) = prod1 cs * (c + 1) := by unfold prod1; rw [List.map_append, List.foldl_append]; rfl
theorem ext_len (F : List (List Nat)) (c : Nat) : (ext F c).length = F.length * (c + 1) := by
  unfold ext
  induction F with
  | nil => simp
  | cons v F ih => rw [List.flatMap_cons, List.length_append, ih]; simp [Nat.add_mul]; omega
theorem take_snoc {α : Type} {l : List α} {i : Nat} {x : α} (h : l[i]? = some x) : l.take (i + 1) = l.take i ++ [x] := by
  rw [List.take_add_one, h]; rfl
theorem vecs_len (cs : List Nat) : (vecs cs).length = prod1 cs := by
  have : ∀ i, i ≤ cs.length → (vecs (cs.take i)).length = prod1 (cs.take i) := fun i => by
    induction i with
    | zero => intro _; rfl
    | succ i ih =>
      intro hi
      have hx := List.getElem?_eq_getElem (show i < cs.length by omega)
      rw [take_snoc hx, vecs_snoc, ext_len, prod1_snoc, ih (by omega)]
  have := this cs.length (Nat.le_refl _)
  rwa [List.take_length] at this
theorem prod1_take (cs : List Nat) (i : Nat) : prod1 (cs.take i) ≤ prod1 cs := by
  have : ∀ k i, cs.length - i = k → prod1 (cs.take i) ≤ prod1 cs := fun k => by
    induction k with
    | zero => intro i hi; rw [List.take_of_length_le (by omega)]; exact Nat.le_refl _
    | succ k ih =>
      intro i hi
      have hx := List.getElem?_eq_getElem (show i < cs.length by omega)
      have := ih (i + 1) (by omega)
      rw [take_snoc hx, prod1_snoc] at this
      refine Nat.le_trans ?_ this
      exact Nat.le_mul_of_pos_right _ (by omega)
  exact this _ i rfl
theorem rng0 (k : Nat) : rngD 0 k = (List.range k).map fun (x : Nat) => .int (x : Int) := by
  unfold rngD; congr 1; funext i; simp
theorem snoc_ok (v : List Nat) (x : Nat) (h : v.length < 1000) : binVal .add (tI v) (.tuple [.int x]) = some (tI (v ++ [x])) := by
  have hz : v.length + 1 ≤ sizeLine := small1001 h
  unfold tI
  simp only [binVal, iD_len, List.length_singleton]
  rw [if_pos hz]
  simp [iD]
theorem vecs_mem_len {cs : List Nat} : ∀ v ∈ vecs cs, v.length = cs.length := by
  have : ∀ i, i ≤ cs.length → ∀ v ∈ vecs (cs.take i), v.length = i := fun i => by
    induction i with
    | zero => intro _ v hv; simp [vecs] at hv; rw [hv]; rfl
    | succ i ih =>
      intro hi v hv
      have hx := List.getElem?_eq_getElem (show i < cs.length by omega)
      rw [take_snoc hx, vecs_snoc] at hv
      unfold ext at hv
      obtain ⟨w, hw, hv⟩ := List.mem_flatMap.mp hv
      obtain ⟨x, _, rfl⟩ := List.mem_map.mp hv
      rw [List.length_append, ih (by omega) w hw]; rfl
  have := this cs.length (Nat.le_refl _)
  rwa [List.take_length] at this
theorem rng1_nat {k : Nat} (h : k ≤ 100000) : rng1U (k : Int) m = .ok (rngD 0 k) m := by
  unfold rng1U
  rw [if_pos ⟨by omega, by omega⟩, Int.toNat_natCast]
theorem rng1_succ {c : Nat} (h : c ≤ 10000) : rng1U ((c : Int) + 1) m = .ok (rngD 0 (c + 1)) m := by
  have e : ((c : Int) + 1) = ((c + 1 : Nat) : Int) := by omega
  rw [e, rng1_nat (by omega)]
theorem iD_get {cs : List Nat} {i : Nat} {d : PyData} (h : (iD cs)[i]? = some d) : ∃ x : Nat, cs[i]? = some x ∧ d = .int x := by
  unfold iD at h
  rw [List.getElem?_map, Option.map_eq_some_iff] at h
  obtain ⟨x, h1, h2⟩ := h
  exact ⟨x, h1, h2.symm⟩
def InV (cs v : List Nat) : Prop := v.length = cs.length ∧ ∀ (i : Nat) (x c : Nat), v[i]? = some x → cs[i]? = some c → x ≤ c
def place (cs v : List Nat) : Nat := (v.zip cs).foldl (fun f p => f * (p.2 + 1) + p.1) 0
theorem ext_get {c x : Nat} (hx : x ≤ c) : ∀ {F : List (List Nat)} {p : Nat} {w : List Nat}, F[p]? = some w → (ext F c)[p * (c + 1) + x]? = some (w ++ [x])
  | [], p, w, h => by simp at h
  | v :: F, 0, w, h => by
    simp at h; subst h
    unfold ext
    rw [Nat.zero_mul, Nat.zero_add, List.flatMap_cons, List.getElem?_append_left (by simp; omega), List.getElem?_map, List.getElem?_range (by omega)]
    rfl
  | v :: F, p + 1, w, h => by
    simp at h
    have ih := ext_get hx h
    unfold ext at ih ⊢
    rw [List.flatMap_cons, List.getElem?_append_right (by simp; rw [Nat.add_mul]; omega)]
    have : (p + 1) * (c + 1) + x - ((List.range (c + 1)).map fun x => v ++ [x]).length = p * (c + 1) + x := by simp; rw [Nat.add_mul]; omega
    rw [this]; exact ih
theorem place_get {cs v : List Nat} (hv : InV cs v) : (vecs cs)[place cs v]? = some v := by
  have : ∀ i, i ≤ cs.length → (vecs (cs.take i))[((v.zip cs).take i).foldl (fun f p => f * (p.2 + 1) + p.1) 0]? = some (v.take i) := fun i => by
    induction i with
    | zero => intro _; simp [vecs]
    | succ i ih =>
      intro hi
      have hc := List.getElem?_eq_getElem (show i < cs.length by omega)
      have hx := List.getElem?_eq_getElem (show i < v.length by rw [hv.1]; omega)
      have hz : (v.zip cs)[i]? = some (v[i]'(by rw [hv.1]; omega), cs[i]'(by omega)) := by rw [List.getElem?_zip_eq_some]; exact ⟨hx, hc⟩
      rw [take_snoc hz, List.foldl_append, take_snoc hc, vecs_snoc, take_snoc hx]
      exact ext_get (hv.2 i _ _ hx hc) (ih (by omega))
  have := this cs.length (Nat.le_refl _)
  rw [List.take_length, List.take_of_length_le (by rw [List.length_zip, hv.1]; omega), List.take_of_length_le (by rw [hv.1]; exact Nat.le_refl _)] at this
  exact this
theorem vecs_in {cs v : List Nat} (h : v ∈ vecs cs) : InV cs v := by
  have : ∀ i, i ≤ cs.length → ∀ v ∈ vecs (cs.take i), ∀ (j : Nat) (x c : Nat), v[j]? = some x → cs[j]? = some c → x ≤ c := fun i => by
    induction i with
    | zero => intro _ v hv; simp [vecs] at hv; subst hv; intro j x c h; simp at h
    | succ i ih =>
      intro hi v hv j x c hx hc
      have hcc := List.getElem?_eq_getElem (show i < cs.length by omega)
      rw [take_snoc hcc, vecs_snoc] at hv
      unfold ext at hv
      obtain ⟨w, hw, hv⟩ := List.mem_flatMap.mp hv
      obtain ⟨y, hy, rfl⟩ := List.mem_map.mp hv
      have hwl : w.length = i := by have := vecs_mem_len w hw; rw [this, List.length_take]; omega
      by_cases hj : j < i
      · rw [List.getElem?_append_left (by omega)] at hx
        exact ih (by omega) w hw j x c hx hc
      · have hji : j = i := by
          have := (List.getElem?_eq_some_iff.mp hx).1
          rw [List.length_append, List.length_singleton] at this; omega
        subst hji
        rw [List.getElem?_append_right (by omega), hwl] at hx
        simp at hx
        rw [hcc] at hc
        simp at hc
        rw [List.mem_range] at hy
        omega
  have h2 := this cs.length (Nat.le_refl _)
  rw [List.take_length] at h2
  exact ⟨vecs_mem_len v h, h2 v h⟩
structure TOk (cs bs : List Nat) (b : Nat) : Prop where
  c : COk cs
  len : bs.length = prod1 cs
  small : prod1 cs ≤ 1000
  lt : ∀ x ∈ bs, x < b
def tD (t t1 : Bool) (cs bs : List Nat) : PyData := mkS t [mkS t1 (iD cs), mkS t1 (iD bs)]
def bump (cs : List Nat) (a : Nat) : List Nat := cs.set a (cs.getD a 0 + 1)
def drop1 (cs : List Nat) (a : Nat) : List Nat := cs.set a (cs.getD a 0 - 1)
theorem getD_of {cs : List Nat} {a x : Nat} (h : cs[a]? = some x) : cs.getD a 0 = x := by rw [List.getD_eq_getElem?_getD, h]; rfl
theorem app_ok {σ : Eng.Env} {i : Nat} {xs : List PyData} {d : PyData} (h : xs.length < sizeLine) : appGo σ i xs (.dat d) m = .ok (.nx, σ.set i (.own (xs ++ [d]))) m := if_pos h
def stepR (rules : List (List Nat)) (d b : Nat) : Nat := (rules.getD d []).getD b 0
def grow (f : List Nat → Nat) (rules : List (List Nat)) (cs' : List Nat) (a d : Nat) (w : List Nat) : Nat := if w.getD a 0 < cs'.getD a 0 then f w else stepR rules d (f (w.set a (w.getD a 0 - 1)))
theorem iD_at {v : List Nat} {a : Nat} (h : a < v.length) : L2.atI (iD v) (a : Int) = some (.int (v.getD a 0 : Nat)) := by
  refine atI_nat ?_
  unfold iD
  rw [List.getElem?_map, List.getElem?_eq_getElem h]
  simp [List.getD_eq_getElem?_getD, List.getElem?_eq_getElem h]
def Bx (q : Nat) (m : Mem) : Prop := ∃ g s : Int, m[q]? = some (.lst [.int g, .int s])
theorem Bx.set {q : Nat} (h : Bx q m) {g s : Int} : (m.set q (.lst [.int g, .int s]))[q]? = some (.lst [.int g, .int s]) := by
  obtain ⟨_, _, h⟩ := h
  rw [List.getElem?_set, if_pos rfl, if_pos (List.getElem?_eq_some_iff.mp h).1]
theorem ixR0 {q : Nat} {a b : PyData} (h : m[q]? = some (.lst [a, b])) : ixU (.ref q) (.dat (.int 0)) m = .ok (.dat a) m := by
  simp only [ixU, h]; rfl
theorem ixR1 {q : Nat} {a b : PyData} (h : m[q]? = some (.lst [a, b])) : ixU (.ref q) (.dat (.int 1)) m = .ok (.dat b) m := by
  simp only [ixU, h]; rfl
theorem setR0 {q : Nat} {a b d : PyData} {σ : Eng.Env} (h : m[q]? = some (.lst [a, b])) : setMGo σ (.dat d) (.ref q) (.dat (.int 0)) m = .ok (.nx, σ) (m.set q (.lst [d, b])) := by
  simp only [setMGo, h]; rfl
theorem setR1 {q : Nat} {a b d : PyData} {σ : Eng.Env} (h : m[q]? = some (.lst [a, b])) : setMGo σ (.dat d) (.ref q) (.dat (.int 1)) m = .ok (.nx, σ) (m.set q (.lst [a, d])) := by
  simp only [setMGo, h]; rfl
theorem divW {g : Int} {k : Nat} (h : 1 ≤ k) (h2 : k ≤ 8209) : L2.CDivW g k := ⟨by omega, by
  rw [Int.natAbs_natCast]
  exact Nat.lt_of_le_of_lt (Nat.log2_le_self k) (by omega)⟩
theorem mulC (i : Int) {j : Int} (h : 0 ≤ j) (h2 : j < 2 ^ 40) : L2.CMul i j := .inr ⟨by omega, by omega⟩
theorem take_ok2 {q k : Nat} (hB : Bx q m) (hk : 1 ≤ k) (hk2 : k ≤ 8000) : ∃ (r : Nat) (m' : Mem), r < k ∧ callN L P (n + 1) 13 [.ref q, .dat (.int k)] m = .ok (.dat (.int r)) m' ∧ Bx q m' ∧ ∀ j, j ≠ q → m'[j]? = m[j]? := by
  have hB' := hB
  obtain ⟨g, s, hm⟩ := hB'
  have hk0 : (0 : Int) < k := by omega
  by_cases hg : 0 < g
  · refine ⟨(g % k).toNat, m.set q (.lst [.int (g / k), .int s]), ?_, ?_, ⟨g / k, s, hB.set⟩, fun j hj => List.getElem?_set_ne (Ne.symm hj)⟩
    · have h1 := Int.emod_lt_of_pos g hk0
      have h2 := Int.emod_nonneg g (show (k : Int) ≠ 0 by omega)
      omega
    · have h2 := Int.emod_nonneg g (show (k : Int) ≠ 0 by omega)
      have e : ((g % k).toNat : Int) = g % k := by omega
      rw [call_eq P__law_take rfl, e]
      have hk0' : 0 < k := hk
      simp [d__law_take, ixR0 hm, hg, bv_modI hk0, bv_fdivI (divW (g := g) hk (by omega)), setR0 hm]
  · have hx1 := mulC s (j := 39373) (by omega) (by omega)
    generalize hraw : (s * 39373 + 331) % 2147483647 = raw
    have hx2 := mulC raw (j := 40692) (by omega) (by omega)
    have hx3 := mulC raw (j := 2147483629) (by omega) (by omega)
    have b1 : binVal .mod (.int (s * 39373 + 331)) (.int 2147483647) = some (.int raw) := by rw [bv_modI (by omega), hraw]
    have b2 : ∀ z : Int, binVal .mod (.int z) (.int 2147483399) = some (.int (z % 2147483399)) := fun z => bv_modI (by omega)
    generalize hs' : (raw * 40692 + 37) % 2147483399 + 1 = s' at *
    have hm' : (m.set q (.lst [.int g, .int s']))[q]? = some (.lst [.int g, .int s']) := hB.set
    generalize hz : ((raw * 2147483629 + s') / 8209) = z
    have b3 : binVal .fdiv (.int (raw * 2147483629 + s')) (.int 8209) = some (.int z) := by
      have hd : L2.CDivW (raw * 2147483629 + s') 8209 := divW (k := 8209) (by omega) (by omega)
      rw [bv_fdivI hd, hz]
    refine ⟨(z % k).toNat, m.set q (.lst [.int g, .int s']), ?_, ?_, ⟨g, s', hB.set⟩, fun j hj => List.getElem?_set_ne (Ne.symm hj)⟩
    · have h1 := Int.emod_lt_of_pos z hk0
      have h2 := Int.emod_nonneg z (show (k : Int) ≠ 0 by omega)
      omega
    · have h2 := Int.emod_nonneg z (show (k : Int) ≠ 0 by omega)
      have e : ((z % k).toNat : Int) = z % k := by omega
      rw [call_eq P__law_take rfl, e]
      simp [d__law_take, ixR0 hm, ixR1 hm, hg, bv_mulI hx1, bv_mulI hx2, bv_mulI hx3, b1, b2, hs', setR1 hm, ixR1 hm', b3, bv_modI hk0]
theorem take_ok {q k : Nat} (hB : Bx q m) (hk : 1 ≤ k) (hk2 : k ≤ 1000) : ∃ (r : Nat) (m' : Mem), r < k ∧ callN L P (n + 1) 13 [.ref q, .dat (.int k)] m = .ok (.dat (.int r)) m' ∧ Bx q m' := by
  obtain ⟨r, m', h1, h2, h3, _⟩ := take_ok2 (L := L) (n := n) hB hk (by omega)
  exact ⟨r, m', h1, h2, h3⟩
theorem pick_box {q : Nat} {xs : List PyData} (hB : Bx q m) (hn : xs ≠ []) (hl : xs.length ≤ 1000) : ∃ (d : PyData) (m' : Mem), d ∈ xs ∧ callN L P (n + 2) 14 [.ref q, .dat (.list xs)] m = .ok (.dat d) m' ∧ Bx q m' := by
  have hp : 1 ≤ xs.length := by cases xs with | nil => exact absurd rfl hn | cons _ _ => simp
  obtain ⟨r, m', h1, h2, h3⟩ := take_ok (L := L) (n := n) hB hp hl
  refine ⟨xs[r], m', List.getElem_mem h1, ?_, h3⟩
  rw [call_eq P__law_pick rfl]
  have e := atI_nat (List.getElem?_eq_getElem h1)
  simp [d__law_pick, h2, e]
def tailB : Ss := match d__law_box.body with
  | .cons _ (.cons _ t) => t
  | _ => .nil
def s2B : S := match d__law_box.body with
  | .cons _ (.cons s _) => s
  | _ => .pass
theorem box_tail {C : Calls} {u : U} {k : Nat} (hk : k ≤ 1000) (cell : Int) : ∃ g s : Int, (evSs L C tailB [.v u, .v (.dat (.int k)), .v (.dat (.int cell)), .no] m).bind finS = .ok (.ref m.length) (m ++ [.lst [.int g, .int s]]) := by
  have h1 : binVal .pow (.int 10) (.int 18) = some (.int (10 ^ 18)) := bv_powI ⟨by omega, by omega, by decide⟩
  have h2 : ∀ z : Int, binVal .mod (.int z) (.int 2147483563) = some (.int (z % 2147483563)) := fun z => bv_modI (by omega)
  have h3 : ∀ z : Int, binVal .mul (.int z) (.int 40014) = some (.int (z * 40014)) := fun z => bv_mulI (mulC z (by omega) (by omega))
  have h4 : binVal .mul (.int 2053) (.int k) = some (.int (2053 * k)) := bv_mulI (mulC _ (by omega) (by omega))
  refine ⟨if (10 : Int) ^ 18 ≤ cell then cell else 0, (cell % 2147483563 * 40014 + 2053 * k) % 2147483563 + 1, ?_⟩
  by_cases hc : (10 : Int) ^ 18 ≤ cell
  · rw [if_pos hc]
    simp only [show (10 : Int) ^ 18 = 1000000000000000000 from by decide] at hc h1
    simp [tailB, d__law_box, h1, hc, h2, h3, h4, asNew]
  · rw [if_neg hc]
    simp only [show (10 : Int) ^ 18 = 1000000000000000000 from by decide] at hc h1
    simp [tailB, d__law_box, h1, hc, h2, h3, h4, asNew]
theorem box_s2 {C : Calls} {ns : List Int} {k : Nat} (c0 : Int) (hk : k ≤ 1000) (hl : ns.length ≤ 63) : ∃ cell : Int, evS L C s2B [.v (.dat (.list (ns.map .int))), .v (.dat (.int k)), .v (.dat (.int c0)), .no] m = .ok (.nx, [.v (.dat (.list (ns.map .int))), .v (.dat (.int k)), .v (.dat (.int cell)), .no]) m := by
  by_cases h : k < ns.length
  · have e : L2.atI (ns.map PyData.int) (k : Int) = some (.int ns[k]) := atI_nat (by rw [List.getElem?_map, List.getElem?_eq_getElem h]; rfl)
    refine ⟨if ns[k] < 0 then -ns[k] else ns[k], ?_⟩
    simp [s2B, d__law_box, h, e]
  · by_cases h0 : ns = []
    · subst h0
      have hk0 : ¬ ((k : Int) < 0) := by omega
      exact ⟨c0, by simp [s2B, d__law_box, hk0]⟩
    · have hp : 0 < ns.length := List.length_pos_iff.mpr h0
      have hp' : (0 : Int) < ns.length := by omega
      have hi : k % ns.length < ns.length := Nat.mod_lt _ hp
      have e : L2.atI (ns.map PyData.int) ((k : Int) % (ns.length : Int)) = some (.int ns[k % ns.length]) := by
        rw [show (k : Int) % (ns.length : Int) = ((k % ns.length : Nat) : Int) by simp]
        exact atI_nat (by rw [List.getElem?_map, List.getElem?_eq_getElem hi]; rfl)
      have h2 : ∀ z : Int, binVal .mod (.int z) (.int 2147483563) = some (.int (z % 2147483563)) := fun z => bv_modI (by omega)
      have h3 : ∀ z : Int, binVal .mul (.int z) (.int 51347) = some (.int (z * 51347)) := fun z => bv_mulI (mulC z (by omega) (by omega))
      generalize ns[k % ns.length] = y at e
      refine ⟨c0 + (if y < 0 then -y else y) % 2147483563 * 51347, ?_⟩
      simp [s2B, d__law_box, h, hp, bv_modI hp', e, h2, h3]
theorem box_ok {ns : List Int} {k : Nat} (hk : k ≤ 1000) (hl : ns.length ≤ 63) : ∃ m' : Mem, callN L P (n + 1) 12 [.dat (.list (ns.map .int)), .dat (.int k)] m = .ok (.ref m.length) m' ∧ Bx m.length m' := by
  rw [call_eq P__law_box rfl]
  have h4 : binVal .mul (.int 8263) (.int k) = some (.int (8263 * k)) := bv_mulI (mulC _ (by omega) (by omega))
  obtain ⟨cell, h1⟩ := box_s2 (L := L) (C := callN L P n) (m := m) (ns := ns) (8263 * k + 2053) hk hl
  obtain ⟨g, s, h2⟩ := box_tail (L := L) (C := callN L P n) (m := m) (u := .dat (.list (ns.map .int))) hk cell
  refine ⟨m ++ [.lst [.int g, .int s]], ?_, g, s, by simp⟩
  have hb : d__law_box.body = .cons (.asg 2 (.bin .add (.bin .mul (.cst (.int 8263)) (.var 1)) (.cst (.int 2053)))) (.cons s2B tailB) := rfl
  rw [hb]
  have e0 : (([.dat (.list (ns.map .int)), .dat (.int k)] : List U).map Sl.v ++ List.replicate (d__law_box.N.length - ([.dat (.list (ns.map .int)), .dat (.int k)] : List U).length) Sl.no) = [.v (.dat (.list (ns.map .int))), .v (.dat (.int k)), .no, .no] := rfl
  rw [e0]
  simp [h4, h1, h2]
theorem all2_nat {k : Nat} : ∀ {ds xs : List PyData}, All2 (fun _ x => ∃ y : Nat, y < k ∧ x = PyData.int y) ds xs → ∃ r : List Nat, xs = iD r ∧ r.length = ds.length ∧ ∀ y ∈ r, y < k
  | _, _, .nil => ⟨[], rfl, rfl, fun _ h => absurd h (by simp)⟩
  | _, _, .cons ⟨y, h1, h2⟩ h => by
    obtain ⟨r, rfl, h3, h4⟩ := all2_nat h
    refine ⟨y :: r, by rw [h2]; rfl, by simp [h3], fun z hz => ?_⟩
    rcases List.mem_cons.mp hz with e | hz
    · omega
    · exact h4 z hz
theorem rng_len (lo : Int) (k : Nat) : (rngD lo k).length = k := by unfold rngD; simp
abbrev Hi := List (Nat × Nat)
def pD (p : Nat × Nat) : PyData := .tuple [.int p.1, .int p.2]
def hDl (h : Hi) : List PyData := h.map pD
def hD (h : Hi) : PyData := .tuple (hDl h)
@[simp] theorem hDl_len (h : Hi) : (hDl h).length = h.length := by unfold hDl; rw [List.length_map]
def HOk (a R : Nat) (h : Hi) : Prop := ∀ p ∈ h, p.1 < a ∧ p.2 < R
def cnt (h : Hi) (a : Nat) : Nat := (h.filter fun p => p.1 == a).length
def cnts (k : Nat) (h : Hi) : List Nat := (List.range k).map (cnt h)
theorem lvectors_inner {C : Calls} {F : List (List Nat)} {c : Nat} {u : U} {s1 s4 : Sl} (hF : ∀ v ∈ F, v.length < 1000) (hc : c ≤ 1000) (hl : F.length * (c + 1) ≤ 1000) (hFl : F.length ≤ 1000) :
    ∃ s4', evS L C l__law_vectors_1 [.v u, .v (.dat (.list (F.map tI))), .v (.dat (.int c)), .v (.dat (.list [])), s4, .no] m = .ok (.nx, [.v u, .v (.dat (.list (F.map tI))), .v (.dat (.int c)), .v (.dat (.list ((ext F c).map tI))), s4', .no]) m := by
  have := forGo_inv (body := fun σ m => evSs L C b__law_vectors_1 σ m) (tg := .nm 4) (F.map tI) (fun i σ m' => m' = m ∧ ∃ s4', σ = [.v u, .v (.dat (.list (F.map tI))), .v (.dat (.int c)), .v (.dat (.list ((ext (F.take i) c).map tI))), s4', .no])
    (fun i d σ m' hd ⟨hm, s4', hσ⟩ => by
      subst hm hσ
      rw [List.getElem?_map, Option.map_eq_some_iff] at hd
      obtain ⟨v, hv, rfl⟩ := hd
      have hvm := hF v (List.mem_of_getElem? hv)
      have hi : i < F.length := (List.getElem?_eq_some_iff.mp hv).1
      refine ⟨[.v u, .v (.dat (.list (F.map tI))), .v (.dat (.int c)), .v (.dat (.list ((ext (F.take i) c).map tI))), .v (.dat (tI v)), .no], [.v u, .v (.dat (.list (F.map tI))), .v (.dat (.int c)), .v (.dat (.list ((ext (F.take (i + 1)) c).map tI))), .v (.dat (tI v)), .no], _, rfl, ?_, rfl, _, rfl⟩
      have e1 : ext (F.take (i + 1)) c = ext (F.take i) c ++ (List.range (c + 1)).map fun x => v ++ [x] := by
        rw [take_snoc hv]; unfold ext; rw [List.flatMap_append]; simp
      have key : evE C c__law_vectors_1 [.v u, .v (.dat (.list (F.map tI))), .v (.dat (.int c)), .v (.dat (.list ((ext (F.take i) c).map tI))), .v (.dat (tI v)), .no] m' = .ok (.dat (.list (((List.range (c + 1)).map fun x => v ++ [x]).map tI))) m' := by
        refine ev_comp (ds := rngD 0 (c + 1)) (m1 := m') (by simp [rng1_succ (show c ≤ 10000 by omega)]) (small1001 (by
          rw [rng_len]
          exact Nat.le_trans (Nat.le_mul_of_pos_left _ (by omega)) hl)) ?_
        have e : ((List.range (c + 1)).map fun x => v ++ [x]).map tI = (rngD 0 (c + 1)).map fun x => ((binVal .add (tI v) (.tuple [x])).getD .none) := by
          rw [rng0, List.map_map, List.map_map]
          refine List.map_congr_left fun x _ => ?_
          simp [snoc_ok v x hvm]
        rw [e]
        refine compGo_pure fun x hx => ?_
        rw [rng0] at hx
        obtain ⟨y, _, rfl⟩ := List.mem_map.mp hx
        exact ⟨_, rfl, by simp [e__law_vectors_1, snoc_ok v y hvm]⟩
      have hsz : ((ext (F.take i) c).map tI).length + (((List.range (c + 1)).map fun x => v ++ [x]).map tI).length ≤ sizeLine := by
        refine small1001 ?_
        rw [List.length_map, ext_len, List.length_map, List.length_map, List.length_range, List.length_take, Nat.min_eq_left (by omega)]
        have h1 : i * (c + 1) + (c + 1) = (i + 1) * (c + 1) := by rw [Nat.add_mul]; omega
        rw [h1]
        exact Nat.le_trans (Nat.mul_le_mul_right _ hi) hl
      have hadd : binVal .add (.list ((ext (F.take i) c).map tI)) (.list (((List.range (c + 1)).map fun x => v ++ [x]).map tI)) = some (.list ((ext (F.take (i + 1)) c).map tI)) := by
        rw [e1, List.map_append]
        exact if_pos hsz
      generalize PyData.list (((List.range (c + 1)).map fun x => v ++ [x]).map tI) = z at key hadd
      simp [b__law_vectors_1, bA_c__law_vectors_1, key, hadd])
    (m := m) (σ := [.v u, .v (.dat (.list (F.map tI))), .v (.dat (.int c)), .v (.dat (.list [])), s4, .no]) ⟨rfl, s4, rfl⟩
  obtain ⟨σ', m', h1, rfl, s4', rfl⟩ := this
  rw [List.length_map, List.take_length] at h1
  refine ⟨s4', ?_⟩
  show evS L _ (.for_ _ _ _) _ _ = _
  simp only [s_forE, it_seq, ev_var, getV, List.getElem?_cons_zero, List.getElem?_cons_succ, R.bind_ok, seqU_list]
  exact h1
theorem lvectors_ok {cs : List Nat} (hl : cs.length ≤ 4) (hb : ∀ c ∈ cs, c ≤ 1000) (hp : prod1 cs ≤ 1000) : callN L P (n + 1) 18 [.dat (tI cs)] m = .ok (.dat (.list ((vecs cs).map tI))) m := by
  rw [call_eq P__law_vectors rfl]
  have := forGo_inv (body := fun σ m => evSs L (callN L P n) b__law_vectors_2 σ m) (tg := .nm 2) (iD cs) (fun i σ m' => m' = m ∧ ∃ s2 s3 s4, σ = [.v (.dat (tI cs)), .v (.dat (.list ((vecs (cs.take i)).map tI))), s2, s3, s4, .no])
    (fun i d σ m' hd ⟨hm, s2, s3, s4, hσ⟩ => by
      subst hm hσ
      obtain ⟨c, hc, rfl⟩ := iD_get hd
      have hi : i < cs.length := (List.getElem?_eq_some_iff.mp hc).1
      have hlen : (vecs (cs.take (i + 1))).length ≤ 1000 := by rw [vecs_len]; exact Nat.le_trans (prod1_take cs _) hp
      have hlen0 : (vecs (cs.take i)).length ≤ 1000 := by rw [vecs_len]; exact Nat.le_trans (prod1_take cs _) hp
      have ee : vecs (cs.take (i + 1)) = ext (vecs (cs.take i)) c := by rw [take_snoc hc, vecs_snoc]
      rw [ee, ext_len] at hlen
      obtain ⟨s4', q⟩ := lvectors_inner (L := L) (C := callN L P n) (m := m') (F := vecs (cs.take i)) (c := c) (u := .dat (tI cs)) (s1 := .no) (s4 := s4) (fun v hv => by rw [vecs_mem_len v hv, List.length_take]; omega) (hb c (List.mem_of_getElem? hc)) hlen hlen0
      refine ⟨[.v (.dat (tI cs)), .v (.dat (.list ((vecs (cs.take i)).map tI))), .v (.dat (.int c)), s3, s4, .no], [.v (.dat (tI cs)), .v (.dat (.list ((vecs (cs.take (i + 1))).map tI))), .v (.dat (.int c)), .v (.dat (.list ((ext (vecs (cs.take i)) c).map tI))), s4', .no], _, rfl, ?_, rfl, _, _, _, rfl⟩
      rw [ee]
      simp [b__law_vectors_2, q])
    (m := m) (σ := [.v (.dat (tI cs)), .v (.dat (.list [.tuple []])), .no, .no, .no, .no]) ⟨rfl, .no, .no, .no, rfl⟩
  obtain ⟨σ', m', h1, rfl, s2, s3, s4, rfl⟩ := this
  rw [iD_len, List.take_length] at h1
  have loop : evS L (callN L P n) l__law_vectors_2 [.v (.dat (tI cs)), .v (.dat (.list [.tuple []])), .no, .no, .no, .no] m' = .ok (.nx, [.v (.dat (tI cs)), .v (.dat (.list ((vecs cs).map tI))), s2, s3, s4, .no]) m' := by
    show evS L _ (.for_ _ _ _) _ _ = _
    simp only [s_forE, it_seq, ev_var, getV, List.getElem?_cons_zero, R.bind_ok, tI, seqU_tuple]
    exact h1
  simp [d__law_vectors, loop]
def rstep (rules : List (List Nat)) (st : Nat × List Nat) (p : Nat × Nat) : Nat × List Nat := if 0 < st.2.getD p.1 0 then (stepR rules p.2 st.1, st.2.set p.1 (st.2.getD p.1 0 - 1)) else st
def replay (rules : List (List Nat)) (h : Hi) (st : Nat × List Nat) : Nat × List Nat := h.foldl (rstep rules) st
def board (s : Nat) (rules : List (List Nat)) (h : Hi) (v : List Nat) : Nat := (replay rules h (s, v)).1
theorem getD_set (l : List Nat) (a x i : Nat) : (l.set a x).getD i 0 = if i = a ∧ a < l.length then x else l.getD i 0 := by
  rw [List.getD_eq_getElem?_getD, List.getD_eq_getElem?_getD, List.getElem?_set]
  by_cases h : a = i
  · subst h
    by_cases hl : a < l.length
    · simp [hl]
    · simp [hl]
  · rw [if_neg h, if_neg (fun z => h z.1.symm)]
theorem cnt_cons (p : Nat × Nat) (h : Hi) (a : Nat) : cnt (p :: h) a = (if p.1 = a then 1 else 0) + cnt h a := by
  unfold cnt
  by_cases hp : p.1 = a
  · rw [List.filter_cons_of_pos (by simp [hp]), if_pos hp, List.length_cons]; omega
  · rw [List.filter_cons_of_neg (by simp [hp]), if_neg hp]; omega
theorem cnt_app (h g : Hi) (a : Nat) : cnt (h ++ g) a = cnt h a + cnt g a := by unfold cnt; rw [List.filter_append, List.length_append]
theorem replay_left (rules : List (List Nat)) (i : Nat) : ∀ (h : Hi) (st : Nat × List Nat), (replay rules h st).2.getD i 0 = st.2.getD i 0 - cnt h i
  | [], st => by simp [replay, cnt]
  | p :: h, st => by
    show (replay rules h (rstep rules st p)).2.getD i 0 = _
    rw [replay_left rules i h, cnt_cons]
    unfold rstep
    by_cases hp : 0 < st.2.getD p.1 0
    · rw [if_pos hp]
      show (st.2.set p.1 (st.2.getD p.1 0 - 1)).getD i 0 - cnt h i = _
      rw [getD_set]
      have hl : p.1 < st.2.length := by
        by_cases hl : p.1 < st.2.length
        · exact hl
        · rw [List.getD_eq_getElem?_getD, List.getElem?_eq_none (by omega)] at hp; simp at hp
      by_cases hi : i = p.1
      · subst hi; rw [if_pos ⟨rfl, hl⟩, if_pos rfl]; omega
      · rw [if_neg (fun z => hi z.1), if_neg (Ne.symm hi)]; omega
    · rw [if_neg hp]
      by_cases hi : p.1 = i
      · subst hi; rw [if_pos rfl]; omega
      · rw [if_neg hi]; omega
theorem replay_app (rules : List (List Nat)) (h g : Hi) (st : Nat × List Nat) : replay rules (h ++ g) st = replay rules g (replay rules h st) := by unfold replay; rw [List.foldl_append]
theorem cnts_get {k i : Nat} (h : Hi) (hi : i < k) : (cnts k h)[i]? = some (cnt h i) := by
  unfold cnts; rw [List.getElem?_map, List.getElem?_range hi]; rfl
theorem cnts_len (k : Nat) (h : Hi) : (cnts k h).length = k := by unfold cnts; simp
theorem cnts_bump {k a d : Nat} (h : Hi) (ha : a < k) : cnts k (h ++ [(a, d)]) = bump (cnts k h) a := by
  apply List.ext_getElem?
  intro i
  unfold bump
  rw [getD_of (cnts_get h ha), List.getElem?_set]
  by_cases hi : i < k
  · rw [cnts_get _ hi, cnt_app, cnts_get _ hi, cnt_cons]
    by_cases e : a = i
    · subst e; rw [if_pos rfl, if_pos rfl, if_pos (by rw [cnts_len]; exact ha)]; rfl
    · rw [if_neg e, if_neg e]; rfl
  · rw [List.getElem?_eq_none (by rw [cnts_len]; omega)]
    have : a ≠ i := by omega
    rw [if_neg this, List.getElem?_eq_none (by rw [cnts_len]; omega)]
theorem setO_ok {σ : Eng.Env} {i a : Nat} {xs : List PyData} {d : PyData} (h : a < xs.length) : setOGo σ i xs (.dat d) (.dat (.int (a : Int))) m = .ok (.nx, σ.set i (.own (xs.set a d))) m := by
  have e : L2.ixN xs.length (a : Int) = some a := by
    unfold L2.ixN
    rw [if_pos (by omega), if_pos (by omega), Int.toNat_natCast]
  simp only [setOGo, e]
theorem iD_set (l : List Nat) (a x : Nat) : (iD l).set a (.int (x : Int)) = iD (l.set a x) := by unfold iD; rw [List.map_set]
theorem asInts_map (l : List Int) : asInts (l.map PyData.int) = some l := by
  induction l with
  | nil => rfl
  | cons a l ih => simp [asInts, ih]
theorem four_dec : ∀ a < 11, ∀ b < 11, ∀ c < 11, ∀ d < 11, a + b + c + d ≤ 10 → (a + 1) * (b + 1) * (c + 1) * (d + 1) ≤ 1000 := by decide +kernel
theorem four {a b c d : Nat} (h : a + b + c + d ≤ 10) : (a + 1) * (b + 1) * (c + 1) * (d + 1) ≤ 1000 := four_dec a (by omega) b (by omega) c (by omega) d (by omega) h
theorem cnt_four : ∀ h : Hi, cnt h 0 + cnt h 1 + cnt h 2 + cnt h 3 ≤ h.length
  | [] => Nat.le_refl _
  | p :: h => by
    have := cnt_four h
    rw [cnt_cons, cnt_cons, cnt_cons, cnt_cons, List.length_cons]
    split <;> split <;> split <;> split <;> omega
theorem prod_ok {k : Nat} {h : Hi} (hk : k ≤ 4) (hh : h.length ≤ 10) : prod1 (cnts k h) ≤ 1000 := by
  have h4 := cnt_four h
  rcases (by omega : k = 0 ∨ k = 1 ∨ k = 2 ∨ k = 3 ∨ k = 4) with rfl | rfl | rfl | rfl | rfl
  · show 1 ≤ 1000; omega
  · show 1 * (cnt h 0 + 1) ≤ 1000; omega
  · show 1 * (cnt h 0 + 1) * (cnt h 1 + 1) ≤ 1000
    have := four (a := cnt h 0) (b := cnt h 1) (c := 0) (d := 0) (by omega)
    simpa using this
  · show 1 * (cnt h 0 + 1) * (cnt h 1 + 1) * (cnt h 2 + 1) ≤ 1000
    have := four (a := cnt h 0) (b := cnt h 1) (c := cnt h 2) (d := 0) (by omega)
    simpa using this
  · show 1 * (cnt h 0 + 1) * (cnt h 1 + 1) * (cnt h 2 + 1) * (cnt h 3 + 1) ≤ 1000
    have := four (a := cnt h 0) (b := cnt h 1) (c := cnt h 2) (d := cnt h 3) (by omega)
    simpa using this
theorem cnts_big {k : Nat} {h : Hi} {N : Nat} (hh : h.length ≤ N) : ∀ c ∈ cnts k h, c ≤ N := fun c hc => by
  unfold cnts at hc
  obtain ⟨i, _, rfl⟩ := List.mem_map.mp hc
  exact Nat.le_trans (List.length_filter_le _ _) hh
theorem cok {k : Nat} {h : Hi} (h1 : 1 ≤ k) (hk : k ≤ 4) (hh : h.length ≤ 10) : COk (cnts k h) := ⟨by rw [cnts_len]; exact h1, by rw [cnts_len]; exact hk, cnts_big (by omega)⟩
theorem board_lt {b s k : Nat} {rules : List (List Nat)} {h : Hi} {v : List Nat} (hm : MOk b s rules) (ho : HOk k rules.length h) : board s rules h v < b := by
  have : ∀ (h : Hi) (st : Nat × List Nat), HOk k rules.length h → st.1 < b → (replay rules h st).1 < b := fun h => by
    induction h with
    | nil => intro st _ hs; exact hs
    | cons p h ih =>
      intro st ho hs
      show (replay rules h (rstep rules st p)).1 < b
      refine ih _ (fun q hq => ho q (List.mem_cons_of_mem _ hq)) ?_
      unfold rstep
      split
      · have hd := (ho p List.mem_cons_self).2
        have hr := List.getElem?_eq_getElem hd
        have hrb := hm.each _ (List.getElem_mem hd)
        show stepR rules p.2 st.1 < b
        unfold stepR
        have e : rules.getD p.2 [] = rules[p.2] := by rw [List.getD_eq_getElem?_getD, hr]; rfl
        rw [e, List.getD_eq_getElem?_getD, List.getElem?_eq_getElem (by rw [hrb.1]; exact hs)]
        exact hrb.2 _ (List.getElem_mem _)
      · exact hs
  exact this h (s, v) ho hm.sb
theorem tok {b s K : Nat} {rules : List (List Nat)} {h : Hi} (hm : MOk b s rules) (ho : HOk K rules.length h) (h1 : 1 ≤ K) (hK : K ≤ 4) (hh : h.length ≤ 10) (B : Nat) (hB : b ≤ B) : TOk (cnts K h) ((vecs (cnts K h)).map (board s rules h)) B :=
  ⟨cok h1 hK hh, by rw [List.length_map, vecs_len], prod_ok hK hh, fun x hx => by
    obtain ⟨v, _, rfl⟩ := List.mem_map.mp hx
    exact Nat.lt_of_lt_of_le (board_lt hm ho) hB⟩
theorem sum_tI (cs : List Nat) : b1Val .sum (tI cs) = some (.int (cs.sum : Nat)) := by
  have e : iD cs = (cs.map fun (x : Nat) => (x : Int)).map PyData.int := by unfold iD; rw [List.map_map]; rfl
  have es : ∀ cs : List Nat, (cs.map fun (x : Nat) => (x : Int)).sum = ((cs.sum : Nat) : Int) := fun cs => by
    induction cs with
    | nil => rfl
    | cons c cs ih => rw [List.map_cons, List.sum_cons, List.sum_cons, ih]; omega
  unfold tI
  rw [e]
  show (asInts _).map _ = _
  rw [asInts_map, Option.map_some, es]
theorem eqv_ints : ∀ a b : List Nat, PyData.eqvAll (iD a) (iD b) = decide (a = b)
  | [], [] => rfl
  | [], _ :: _ => rfl
  | _ :: _, [] => rfl
  | x :: a, y :: b => by
    have ih := eqv_ints a b
    show (PyData.eqv (.int (x : Int)) (.int (y : Int)) && PyData.eqvAll (iD a) (iD b)) = _
    rw [ih]
    show (((x : Int) == (y : Int)) && decide (a = b)) = _
    rw [Bool.eq_iff_iff]
    simp only [Bool.and_eq_true, beq_iff_eq, decide_eq_true_eq, List.cons.injEq]
    constructor
    · rintro ⟨h1, h2⟩; exact ⟨by omega, h2⟩
    · rintro ⟨h1, h2⟩; exact ⟨by omega, h2⟩
def fOf (cs bs : List Nat) (v : List Nat) : Nat := bs.getD (place cs v) 0
def zeros (cs : List Nat) : List Nat := List.replicate cs.length 0
def Fits (f : List Nat → Nat) (rules : List (List Nat)) (cs : List Nat) (a d : Nat) : Prop := ∀ v, InV cs v → v.getD a 0 = cs.getD a 0 → stepR rules d (f (v.set a (v.getD a 0 - 1))) = f v
inductive Red (f : List Nat → Nat) (rules : List (List Nat)) : List Nat → List Nat → Prop
  | refl (cs : List Nat) : Red f rules cs cs
  | step {cs cs' : List Nat} {a d : Nat} : a < cs.length → 0 < cs.getD a 0 → d < rules.length → Fits f rules cs a d → Red f rules (drop1 cs a) cs' → Red f rules cs cs'
theorem asBools_map {α : Type} (g : α → Bool) (l : List α) : asBools (l.map fun x => PyData.bool (g x)) = some (l.map g) := by
  induction l with
  | nil => rfl
  | cons x l ih => rw [List.map_cons, List.map_cons]; simp [asBools, ih]
theorem enum_list (xs : List PyData) : enumD 0 xs = (List.range xs.length).map fun i => .tuple [.int i, xs.getD i .none] := by
  apply List.ext_getElem?
  intro i
  by_cases hi : i < xs.length
  · have h := List.getElem?_eq_getElem (show i < (enumD 0 xs).length by rw [enum_len]; exact hi)
    obtain ⟨x, h1, h2⟩ := Eng.enum_get h
    rw [h, h2, List.getElem?_map, List.getElem?_range hi]
    simp [List.getD_eq_getElem?_getD, h1]
  · rw [List.getElem?_eq_none (by rw [enum_len]; omega), List.getElem?_eq_none (by rw [List.length_map, List.length_range]; omega)]
def doing (rules : List (List Nat)) (ps : Hi) : List Nat := (List.range rules.length).filter fun d => ps.all fun p => stepR rules d p.1 == p.2
def lpOf (f : List Nat → Nat) (cs : List Nat) (a : Nat) (vs : List (List Nat)) : Hi := (vs.filter fun v => v.getD a 0 == cs.getD a 0).map fun v => (f (v.set a (v.getD a 0 - 1)), f v)
def lastL (f : List Nat → Nat) (rules : List (List Nat)) (cs : List Nat) (a : Nat) : Hi := if 0 < cs.getD a 0 then ((doing rules (lpOf f cs a (vecs cs))).take 1).map fun d => (a, d) else []
def lastsL (f : List Nat → Nat) (rules : List (List Nat)) (cs : List Nat) : Hi := (List.range cs.length).flatMap (lastL f rules cs)
end K44

set_option Elab.async false
set_option linter.all false
set_option maxRecDepth 100000
set_option maxHeartbeats 2000000
namespace K44
open PySem PySem.Spec PyProof.Rows L2 Eng
variable {L n : Nat} {m : Mem}
def rG (t : Bool) (rules : List (List Nat)) : List PyData := rules.map fun r => mkS t (iD r)
@[simp] theorem rG_len (t : Bool) (l : List (List Nat)) : (rG t l).length = l.length := by unfold rG; rw [List.length_map]
def mG (t : Bool) (s : Nat) (rules : List (List Nat)) : PyData := mkS t [.int s, mkS t (rG t rules)]
def flat : PyData → PyData
  | .tuple xs => .list xs
  | d => d
def ords : Nat → List Nat → List (List Nat)
  | 0, _ => [[]]
  | N + 1, cs => (List.range cs.length).flatMap fun a => if 0 < cs.getD a 0 then (ords N (drop1 cs a)).map (a :: ·) else []
def cntO (o : List Nat) (a : Nat) : Nat := (o.filter fun x => x == a).length
def extH (R : Nat) (F : List Hi) (a : Nat) : List Hi := F.flatMap fun r => (List.range R).map fun d => r ++ [(a, d)]
def rowsH (R : Nat) (o : List Nat) : List Hi := o.foldl (extH R) [[]]
def hists (R : Nat) (cs : List Nat) : List Hi := (ords cs.sum cs).flatMap (rowsH R)
def oD (F : List (List Nat)) : List PyData := F.map tI
@[simp] theorem oD_len (F : List (List Nat)) : (oD F).length = F.length := by unfold oD; rw [List.length_map]
theorem cons_ok (a : Nat) (o : List Nat) (h : o.length < 999) : binVal .add (.tuple [.int a]) (tI o) = some (tI (a :: o)) := by
  have hz : 1 + o.length ≤ sizeLine := small1001 (by omega)
  unfold tI
  simp only [binVal, iD_len, List.length_singleton]
  rw [if_pos hz]
  simp [iD]
def hL (F : List Hi) : List PyData := F.map hD
@[simp] theorem hL_len (F : List Hi) : (hL F).length = F.length := by unfold hL; rw [List.length_map]
theorem hL_app (F G : List Hi) : hL (F ++ G) = hL F ++ hL G := by unfold hL; rw [List.map_append]
theorem snocH_ok (r : Hi) (a d : Nat) (h : r.length < 999) : binVal .add (hD r) (.tuple [.tuple [.int a, .int d]]) = some (hD (r ++ [(a, d)])) := by
  have hz : r.length + 1 ≤ sizeLine := small1001 (by omega)
  unfold hD
  simp only [binVal, hDl_len, List.length_singleton]
  rw [if_pos hz]
  simp [hDl, pD]
def Has (s : Nat) (rules : List (List Nat)) (cs bs : List Nat) : Prop := ∃ h : Hi, HOk cs.length rules.length h ∧ cnts cs.length h = cs ∧ (vecs cs).map (board s rules h) = bs
def HasF (s : Nat) (rules : List (List Nat)) (cs : List Nat) (f : List Nat → Nat) : Prop := ∃ h : Hi, HOk cs.length rules.length h ∧ cnts cs.length h = cs ∧ ∀ v, InV cs v → board s rules h v = f v
def HT (s : Nat) (rules : List (List Nat)) (f : List Nat → Nat) (cs : List Nat) (h : Hi) : Prop := HOk cs.length rules.length h ∧ cnts cs.length h = cs ∧ ∀ v, InV cs v → board s rules h v = f v
def nrm (f : List Nat → Nat) (rules : List (List Nat)) : Nat → List Nat → Hi
  | 0, _ => []
  | N + 1, cs => match (lastsL f rules cs).getLast? with
    | some p => nrm f rules N (drop1 cs p.1) ++ [p]
    | none => []
def nof (s : Nat) (rules : List (List Nat)) (K : Nat) (h : Hi) : Hi := nrm (board s rules h) rules (cnts K h).sum (cnts K h)
def hG (t t1 : Bool) (h : Hi) : PyData := mkS t (h.map fun p => mkS t1 [.int p.1, .int p.2])
def tabD (K s : Nat) (rules : List (List Nat)) (h : Hi) : PyData := tD true true (cnts K h) ((vecs (cnts K h)).map (board s rules h))
theorem cnts_nil (K : Nat) : cnts K [] = List.replicate K 0 := by
  unfold cnts
  apply List.ext_getElem?
  intro i
  rw [List.getElem?_map, List.getElem?_replicate]
  by_cases hi : i < K
  · rw [List.getElem?_range hi, if_pos hi]; rfl
  · rw [List.getElem?_eq_none (by rw [List.length_range]; omega), if_neg hi]; rfl
theorem any_map {α : Type} (g : α → Bool) (l : List α) : b1Val .any (.list (l.map fun x => PyData.bool (g x))) = some (.bool (l.any g)) := by
  show (match asBools _ with | some bs => some (PyData.bool (bs.any id)) | none => (asInts _).map fun (ns : List Int) => PyData.bool (ns.any fun i => i != 0)) = _
  rw [asBools_map]
  show some (PyData.bool _) = _
  congr 2
  rw [List.any_map]; rfl
def Small (h : Hi) : Prop := ∀ p ∈ h, p.1 < 16 ∧ p.2 < 16
end K44

set_option Elab.async false
set_option linter.all false
set_option maxRecDepth 100000
set_option maxHeartbeats 2000000
/-! The plain law of hands that cost nothing: what is counted. -/
namespace K44
open PySem PySem.Spec PyProof.Rows L2 Eng
/-- how many unlike ones -/
def eds {α : Type} [DecidableEq α] (l : List α) : List α := l.eraseDups
def unl {α : Type} [DecidableEq α] (l : List α) : Nat := (eds l).length
theorem ed_nodup0 {α : Type} [DecidableEq α] : ∀ (k : Nat) (l : List α), l.length ≤ k → l.eraseDups.Nodup
  | _, [], _ => by simp
  | 0, _ :: _, h => by simp at h
  | k + 1, x :: l, h => by
    rw [List.eraseDups_cons, List.nodup_cons]
    refine ⟨fun hx => ?_, ed_nodup0 k _ (Nat.le_trans (List.length_filter_le _ _) (by simpa using h))⟩
    have := List.mem_eraseDups.mp hx
    simp at this
theorem ed_nodup {α : Type} [DecidableEq α] (l : List α) : (eds l).Nodup := ed_nodup0 _ l (Nat.le_refl _)
theorem mem_eds {α : Type} [DecidableEq α] {l : List α} {x : α} : x ∈ eds l ↔ x ∈ l := List.mem_eraseDups
theorem rel_len {β γ : Type} [DecidableEq β] [DecidableEq γ] (Rel : β → γ → Prop) : ∀ (R : List β) (S : List γ), R.Nodup → (∀ r ∈ R, ∃ t ∈ S, Rel r t) → (∀ r r' t, Rel r t → Rel r' t → r = r') → R.length ≤ S.length
  | [], _, _, _, _ => Nat.zero_le _
  | r :: R, S, hn, ht, hi => by
    obtain ⟨h1, h2⟩ := List.nodup_cons.mp hn
    obtain ⟨t, hs, hr⟩ := ht r List.mem_cons_self
    have := rel_len Rel R (S.erase t) h2 (fun r' hr' => by
      obtain ⟨t', hs', hr2⟩ := ht r' (List.mem_cons_of_mem _ hr')
      refine ⟨t', (List.mem_erase_of_ne fun e => ?_).mpr hs', hr2⟩
      subst e
      exact h1 ((hi r r' t' hr hr2) ▸ hr')) hi
    rw [List.length_erase_of_mem hs] at this
    have : 0 < S.length := List.length_pos_of_mem hs
    rw [List.length_cons]; omega
theorem unl_le {α β γ : Type} [DecidableEq β] [DecidableEq γ] {hs : List α} {f : α → β} {g : α → γ} (h : ∀ x ∈ hs, ∀ y ∈ hs, g x = g y → f x = f y) : unl (hs.map f) ≤ unl (hs.map g) := by
  refine rel_len (fun r t => ∃ z ∈ hs, f z = r ∧ g z = t) _ _ (ed_nodup _) (fun r hr => ?_) fun r r' t ⟨z, hz, e1, e2⟩ ⟨y, hy, e3, e4⟩ => by
    rw [← e1, ← e3]; exact h z hz y hy (by rw [e2, e4])
  obtain ⟨z, hz, e⟩ := List.mem_map.mp (mem_eds.mp hr)
  exact ⟨g z, mem_eds.mpr (List.mem_map_of_mem hz), z, hz, e, rfl⟩
theorem unl_lt {α β γ : Type} [DecidableEq β] [DecidableEq γ] {hs : List α} {f : α → β} {g : α → γ} (h : ∀ x ∈ hs, ∀ y ∈ hs, g x = g y → f x = f y) {a b : α} (ha : a ∈ hs) (hb : b ∈ hs) (e : f a = f b) (ne : g a ≠ g b) : unl (hs.map f) < unl (hs.map g) := by
  have hm : g b ∈ (eds (hs.map g)) := mem_eds.mpr (List.mem_map_of_mem hb)
  have := rel_len (fun r t => ∃ z ∈ hs, f z = r ∧ g z = t) (eds (hs.map f)) ((eds (hs.map g)).erase (g b)) (ed_nodup _) (fun r hr => by
    obtain ⟨z, hz, e1⟩ := List.mem_map.mp (mem_eds.mp hr)
    by_cases c : g z = g b
    · exact ⟨g a, (List.mem_erase_of_ne ne).mpr (mem_eds.mpr (List.mem_map_of_mem ha)), a, ha, by rw [e, ← e1]; exact h b hb z hz c.symm, rfl⟩
    · exact ⟨g z, (List.mem_erase_of_ne c).mpr (mem_eds.mpr (List.mem_map_of_mem hz)), z, hz, e1, rfl⟩)
    fun r r' t ⟨z, hz, e1, e2⟩ ⟨y, hy, e3, e4⟩ => by rw [← e1, ← e3]; exact h z hz y hy (by rw [e2, e4])
  rw [List.length_erase_of_mem hm] at this
  have h0 : 0 < (eds (hs.map g)).length := List.length_pos_of_mem hm
  unfold unl
  omega
theorem unl_sub {α : Type} [DecidableEq α] {l c : List α} (h : ∀ x ∈ l, x ∈ c) : unl l ≤ c.length := EngU.cap_len _ c (ed_nodup _) fun x hx => h x (mem_eds.mp hx)
theorem unl_eq {α : Type} [DecidableEq α] {l c : List α} (hn : c.Nodup) (h : ∀ x, x ∈ l ↔ x ∈ c) : unl l = c.length :=
  Nat.le_antisymm (unl_sub fun x hx => (h x).mp hx) (EngU.cap_len c _ hn fun x hx => mem_eds.mpr ((h x).mpr hx))
/-- all choices, one of each -/
def cart {α : Type} : List (List α) → List (List α)
  | [] => [[]]
  | R :: Rs => R.flatMap fun r => (cart Rs).map (r :: ·)
def prodL : List Nat → Nat
  | [] => 1
  | c :: cs => c * prodL cs
theorem fm_len {α β : Type} (f : α → List β) (k : Nat) : ∀ l : List α, (∀ x ∈ l, (f x).length = k) → (l.flatMap f).length = l.length * k
  | [], _ => by simp
  | x :: l, h => by
    rw [List.flatMap_cons, List.length_append, fm_len f k l fun y hy => h y (List.mem_cons_of_mem _ hy), h x List.mem_cons_self, List.length_cons, Nat.add_mul, Nat.one_mul, Nat.add_comm]
theorem cart_len {α : Type} : ∀ Rs : List (List α), (cart Rs).length = prodL (Rs.map List.length)
  | [] => rfl
  | R :: Rs => by
    show (R.flatMap fun r => (cart Rs).map (r :: ·)).length = R.length * prodL (Rs.map List.length)
    rw [fm_len _ (cart Rs).length _ fun x _ => List.length_map .., cart_len Rs]
theorem cart_mem {α : Type} : ∀ {Rs : List (List α)} {t : List α}, t ∈ cart Rs ↔ t.length = Rs.length ∧ ∀ (i : Nat) (r : α) (R : List α), t[i]? = some r → Rs[i]? = some R → r ∈ R
  | [], t => by
    show t ∈ [[]] ↔ _
    rw [List.mem_singleton]
    constructor
    · rintro rfl; exact ⟨rfl, fun i r R h => by simp at h⟩
    · rintro ⟨h, _⟩; exact List.eq_nil_of_length_eq_zero h
  | R :: Rs, t => by
    show t ∈ R.flatMap (fun r => (cart Rs).map (r :: ·)) ↔ _
    rw [List.mem_flatMap]
    constructor
    · rintro ⟨r, hr, ht⟩
      obtain ⟨u, hu, rfl⟩ := List.mem_map.mp ht
      obtain ⟨h1, h2⟩ := cart_mem.mp hu
      refine ⟨by simp [h1], fun i x X hx hX => ?_⟩
      cases i with
      | zero => simp at hx hX; subst hx hX; exact hr
      | succ i => exact h2 i x X (by simpa using hx) (by simpa using hX)
    · rintro ⟨h1, h2⟩
      cases t with
      | nil => simp at h1
      | cons r u => exact ⟨r, h2 0 r R (by simp) (by simp), List.mem_map_of_mem (cart_mem.mpr ⟨by simpa using h1, fun i x X hx hX => h2 (i + 1) x X (by simpa using hx) (by simpa using hX)⟩)⟩
theorem fm_nodup {α β : Type} (f : α → List β) : ∀ l : List α, l.Nodup → (∀ x ∈ l, (f x).Nodup) → (∀ x ∈ l, ∀ y ∈ l, ∀ b, b ∈ f x → b ∈ f y → x = y) → (l.flatMap f).Nodup
  | [], _, _, _ => List.nodup_nil
  | x :: l, hn, h1, h2 => by
    obtain ⟨n1, n2⟩ := List.nodup_cons.mp hn
    rw [List.flatMap_cons, List.nodup_append]
    refine ⟨h1 x List.mem_cons_self, fm_nodup f l n2 (fun y hy => h1 y (List.mem_cons_of_mem _ hy)) fun y hy z hz => h2 y (List.mem_cons_of_mem _ hy) z (List.mem_cons_of_mem _ hz), fun a ha b hb e => ?_⟩
    subst e
    obtain ⟨y, hy, hb⟩ := List.mem_flatMap.mp hb
    have := h2 x List.mem_cons_self y (List.mem_cons_of_mem _ hy) a ha hb
    subst this
    exact n1 hy
theorem map_nodup {α β : Type} {f : α → β} : ∀ {l : List α}, (∀ x ∈ l, ∀ y ∈ l, f x = f y → x = y) → l.Nodup → (l.map f).Nodup
  | [], _, _ => List.nodup_nil
  | a :: l, hf, h => by
    rw [List.nodup_cons] at h
    rw [List.map_cons, List.nodup_cons]
    refine ⟨fun z => ?_, map_nodup (fun x hx y hy => hf x (List.mem_cons_of_mem _ hx) y (List.mem_cons_of_mem _ hy)) h.2⟩
    obtain ⟨b, hb, e⟩ := List.mem_map.mp z
    have := hf b (List.mem_cons_of_mem _ hb) a List.mem_cons_self e
    subst this
    exact h.1 hb
theorem cart_nodup {α : Type} : ∀ {Rs : List (List α)}, (∀ R ∈ Rs, R.Nodup) → (cart Rs).Nodup
  | [], _ => by simp [cart]
  | R :: Rs, h => by
    refine fm_nodup _ _ (h R List.mem_cons_self) (fun x _ => map_nodup (fun a _ b _ e => by injection e) (cart_nodup fun S hS => h S (List.mem_cons_of_mem _ hS))) fun x _ y _ b hx hy => ?_
    obtain ⟨u, _, rfl⟩ := List.mem_map.mp hx
    obtain ⟨w, _, e⟩ := List.mem_map.mp hy
    injection e with e _
    exact e.symm
/-- boards behind a row of deeds; a hand's own deeds -/
def runR (rules : List (List Nat)) (b : Nat) (w : List Nat) : Nat := w.foldl (fun x d => stepR rules d x) b
theorem runR_app (rules : List (List Nat)) (b : Nat) (v w : List Nat) : runR rules b (v ++ w) = runR rules (runR rules b v) w := by unfold runR; rw [List.foldl_append]
theorem runR_cons (rules : List (List Nat)) (b d : Nat) (w : List Nat) : runR rules b (d :: w) = runR rules (stepR rules d b) w := rfl
def wd (h : Hi) (a : Nat) : List Nat := (h.filter fun p => p.1 == a).map (·.2)
theorem wd_cons (p : Nat × Nat) (h : Hi) (a : Nat) : wd (p :: h) a = if p.1 = a then p.2 :: wd h a else wd h a := by
  unfold wd
  rw [List.filter_cons]
  by_cases e : p.1 = a
  · rw [if_pos (by simp [e]), if_pos e]; rfl
  · rw [if_neg (by simp [e]), if_neg e]
theorem wd_app (g h : Hi) (a : Nat) : wd (g ++ h) a = wd g a ++ wd h a := by unfold wd; rw [List.filter_append, List.map_append]
theorem wd_len (h : Hi) (a : Nat) : (wd h a).length = cnt h a := by unfold wd cnt; rw [List.length_map]
theorem wd_lt {K R : Nat} {h : Hi} (ho : HOk K R h) {a : Nat} : ∀ d ∈ wd h a, d < R := fun d hd => by
  obtain ⟨p, hp, rfl⟩ := List.mem_map.mp hd
  exact (ho p (List.mem_filter.mp hp).1).2
theorem rstep_pos {rules : List (List Nat)} {b : Nat} {l : List Nat} {p : Nat × Nat} (h : 0 < l.getD p.1 0) : rstep rules (b, l) p = (stepR rules p.2 b, l.set p.1 (l.getD p.1 0 - 1)) := if_pos h
theorem rstep_neg {rules : List (List Nat)} {b : Nat} {l : List Nat} {p : Nat × Nat} (h : l.getD p.1 0 = 0) : rstep rules (b, l) p = (b, l) := if_neg (by show ¬ 0 < l.getD p.1 0; omega)
theorem replay_cons (rules : List (List Nat)) (p : Nat × Nat) (h : Hi) (st : Nat × List Nat) : replay rules (p :: h) st = replay rules h (rstep rules st p) := rfl
theorem lt_of_pos {l : List Nat} {i : Nat} (h : 0 < l.getD i 0) : i < l.length := by
  by_cases c : i < l.length
  · exact c
  · rw [List.getD_eq_getElem?_getD, List.getElem?_eq_none (by omega)] at h; exact absurd h (by simp)
theorem replay_one (rules : List (List Nat)) {a : Nat} : ∀ (h : Hi) (b : Nat) (l : List Nat), (∀ c, c ≠ a → l.getD c 0 = 0) → (replay rules h (b, l)).1 = runR rules b ((wd h a).take (l.getD a 0))
  | [], b, l, _ => by simp [replay, wd, runR]
  | p :: h, b, l, hl => by
    rw [replay_cons, wd_cons]
    by_cases e : p.1 = a
    · rw [if_pos e]
      by_cases c : 0 < l.getD a 0
      · rw [rstep_pos (by rw [e]; exact c), e, replay_one rules h _ _ fun x hx => by rw [getD_set, if_neg (fun z => hx z.1)]; exact hl x hx]
        rw [getD_set, if_pos ⟨rfl, lt_of_pos c⟩]
        obtain ⟨k, hk⟩ : ∃ k, l.getD a 0 = k + 1 := ⟨l.getD a 0 - 1, by omega⟩
        rw [hk, List.take_succ_cons, runR_cons]; rfl
      · rw [rstep_neg (by rw [e]; omega), replay_one rules h _ _ hl, (by omega : l.getD a 0 = 0)]; rfl
    · rw [if_neg e, rstep_neg (hl _ e), replay_one rules h _ _ hl]
/-- any two deeds commute at x; wherever deeds lead from b -/
def Com (rules : List (List Nat)) (x : Nat) : Prop := ∀ d e, d < rules.length → e < rules.length → stepR rules d (stepR rules e x) = stepR rules e (stepR rules d x)
def Free (rules : List (List Nat)) (b : Nat) : Prop := ∀ w : List Nat, (∀ d ∈ w, d < rules.length) → Com rules (runR rules b w)
variable {rules : List (List Nat)}
theorem Free.step {b d : Nat} (h : Free rules b) (hd : d < rules.length) : Free rules (stepR rules d b) := fun w hw => h (d :: w) fun x hx => by
  rcases List.mem_cons.mp hx with rfl | hx
  · exact hd
  · exact hw x hx
theorem Free.com {b : Nat} (h : Free rules b) : Com rules b := h [] fun _ hx => absurd hx (by simp)
theorem run_front {d : Nat} (hd : d < rules.length) : ∀ (A : List Nat) {b : Nat}, Free rules b → (∀ x ∈ A, x < rules.length) → runR rules b (A ++ [d]) = runR rules (stepR rules d b) A
  | [], _, _, _ => rfl
  | x :: A, b, h, hA => by
    have hx := hA x List.mem_cons_self
    rw [List.cons_append, runR_cons, run_front hd A (h.step hx) fun y hy => hA y (List.mem_cons_of_mem _ hy), runR_cons, h.com d x hd hx]
theorem run_comm : ∀ (B : List Nat) {A : List Nat} {b : Nat}, Free rules b → (∀ x ∈ A, x < rules.length) → (∀ x ∈ B, x < rules.length) → runR rules b (A ++ B) = runR rules b (B ++ A)
  | [], A, b, _, _, _ => by rw [List.append_nil, List.nil_append]
  | d :: B, A, b, h, hA, hB => by
    have hd := hB d List.mem_cons_self
    have e : A ++ d :: B = (A ++ [d]) ++ B := by simp
    rw [e, runR_app, run_front hd A h hA, ← runR_app, run_comm B (h.step hd) hA fun x hx => hB x (List.mem_cons_of_mem _ hx)]
    rfl
theorem slide {a d : Nat} (hd : d < rules.length) : ∀ (g : Hi) {b : Nat} {l l' : List Nat}, Free rules b → (∀ p ∈ g, p.1 ≠ a ∧ p.2 < rules.length) → (∀ c, c ≠ a → l.getD c 0 = l'.getD c 0) → stepR rules d (replay rules g (b, l)).1 = (replay rules g (stepR rules d b, l')).1
  | [], _, _, _, _, _, _ => rfl
  | p :: g, b, l, l', h, hg, hl => by
    obtain ⟨h1, h2⟩ := hg p List.mem_cons_self
    have hg' : ∀ q ∈ g, q.1 ≠ a ∧ q.2 < rules.length := fun q hq => hg q (List.mem_cons_of_mem _ hq)
    rw [replay_cons, replay_cons]
    have hp := hl p.1 h1
    by_cases c : 0 < l.getD p.1 0
    · rw [rstep_pos c, rstep_pos (by rw [← hp]; exact c), slide (l' := l'.set p.1 (l'.getD p.1 0 - 1)) hd g (h.step h2) hg' fun x hx => by
        rw [getD_set, getD_set]
        by_cases e : x = p.1
        · rw [if_pos ⟨e, lt_of_pos c⟩, if_pos ⟨e, lt_of_pos (by rw [← hp]; exact c)⟩, hp]
        · rw [if_neg (fun z => e z.1), if_neg (fun z => e z.1)]; exact hl x hx]
      rw [h.com d p.2 hd h2]
    · rw [rstep_neg (by omega), rstep_neg (by omega), slide hd g h hg' hl]
theorem pull {a : Nat} : ∀ (h : Hi) {b : Nat} {l : List Nat}, Free rules b → (∀ p ∈ h, p.2 < rules.length) → (replay rules h (b, l)).1 = runR rules (replay rules (h.filter fun p => !(p.1 == a)) (b, l)).1 ((wd h a).take (l.getD a 0))
  | [], _, _, _, _ => by simp [replay, wd, runR]
  | p :: h, b, l, hf, ho => by
    have hp := ho p List.mem_cons_self
    have ho' : ∀ q ∈ h, q.2 < rules.length := fun q hq => ho q (List.mem_cons_of_mem _ hq)
    rw [replay_cons, wd_cons, List.filter_cons]
    by_cases e : p.1 = a
    · rw [if_neg (by simp [e]), if_pos e]
      by_cases c : 0 < l.getD a 0
      · obtain ⟨k, hk⟩ : ∃ k, l.getD a 0 = k + 1 := ⟨l.getD a 0 - 1, by omega⟩
        rw [rstep_pos (by rw [e]; exact c), e, pull (a := a) h (hf.step hp) ho', getD_set, if_pos ⟨rfl, lt_of_pos c⟩, hk, List.take_succ_cons, runR_cons]
        rw [slide (l' := l.set a (k + 1 - 1)) hp (h.filter fun p => !(p.1 == a)) hf (fun q hq => by
          obtain ⟨q1, q2⟩ := List.mem_filter.mp hq
          exact ⟨by simpa using q2, ho' q q1⟩) fun x hx => by rw [getD_set, if_neg (fun z => hx z.1)]]
        rfl
      · rw [rstep_neg (by rw [e]; omega), pull (a := a) h hf ho', (by omega : l.getD a 0 = 0)]; rfl
    · rw [if_pos (by simp [e]), if_neg e, replay_cons]
      by_cases c : 0 < l.getD p.1 0
      · rw [rstep_pos c, pull (a := a) h (hf.step hp) ho', getD_set, if_neg (fun z => e z.1.symm)]
      · rw [rstep_neg (by omega), pull (a := a) h hf ho']
/-- the hands' deeds one hand behind the other -/
def catw (h : Hi) (v : List Nat) : Nat → List Nat
  | 0 => []
  | j + 1 => catw h v j ++ (wd h j).take (v.getD j 0)
theorem catw_lt {K R : Nat} {h : Hi} (ho : HOk K R h) {v : List Nat} : ∀ j, ∀ d ∈ catw h v j, d < R
  | 0, d, hd => absurd hd (by simp [catw])
  | j + 1, d, hd => by
    rcases List.mem_append.mp hd with hd | hd
    · exact catw_lt ho j d hd
    · exact wd_lt ho d (List.mem_of_mem_take hd)
theorem board_catw {K s : Nat} {h : Hi} {v : List Nat} (hf : Free rules s) (ho : HOk K rules.length h) : ∀ j, board s rules (h.filter fun p => decide (p.1 < j)) v = runR rules s (catw h v j)
  | 0 => by
    have : (h.filter fun p => decide (p.1 < 0)) = [] := List.filter_eq_nil_iff.mpr fun p _ => by simp
    rw [this]; rfl
  | j + 1 => by
    unfold board
    rw [pull (a := j) _ hf fun p hp => (ho p (List.mem_filter.mp hp).1).2]
    have e1 : (h.filter fun p => decide (p.1 < j + 1)).filter (fun p => !(p.1 == j)) = h.filter fun p => decide (p.1 < j) := by
      rw [List.filter_filter]
      refine List.filter_congr fun p _ => ?_
      rw [Bool.eq_iff_iff]; simp; omega
    have e2 : wd (h.filter fun p => decide (p.1 < j + 1)) j = wd h j := by
      unfold wd
      rw [List.filter_filter]
      congr 1
      refine List.filter_congr fun p _ => ?_
      rw [Bool.eq_iff_iff]; simp; omega
    rw [e1, e2]
    have := board_catw (v := v) hf ho j
    unfold board at this
    rw [this, ← runR_app]; rfl
theorem board_free {K s : Nat} {h : Hi} {v : List Nat} (hf : Free rules s) (ho : HOk K rules.length h) : board s rules h v = runR rules s (catw h v K) := by
  rw [← board_catw hf ho K]
  have : (h.filter fun p => decide (p.1 < K)) = h := List.filter_eq_self.mpr fun p hp => by simpa using (ho p hp).1
  rw [this]
theorem catw_congr {K s : Nat} {g h : Hi} {v : List Nat} (hf : Free rules s) (hg : HOk K rules.length g) (ho : HOk K rules.length h) : ∀ j, (∀ a, a < j → runR rules s ((wd g a).take (v.getD a 0)) = runR rules s ((wd h a).take (v.getD a 0))) → runR rules s (catw g v j) = runR rules s (catw h v j)
  | 0, _ => rfl
  | j + 1, e => by
    have t1 : ∀ x ∈ (wd g j).take (v.getD j 0), x < rules.length := fun x hx => wd_lt hg x (List.mem_of_mem_take hx)
    have t2 : ∀ x ∈ (wd h j).take (v.getD j 0), x < rules.length := fun x hx => wd_lt ho x (List.mem_of_mem_take hx)
    show runR rules s (catw g v j ++ _) = runR rules s (catw h v j ++ _)
    rw [runR_app, catw_congr hf hg ho j fun a ha => e a (by omega), ← runR_app, run_comm _ hf (catw_lt ho j) t1, runR_app, e j (by omega), ← runR_app, ← run_comm _ hf (catw_lt ho j) t2]
end K44

set_option Elab.async false
set_option linter.all false
set_option maxRecDepth 100000
set_option maxHeartbeats 2000000
/-! How many tables: the law's histories, the product, more than the product. -/
namespace K44
open PySem PySem.Spec PyProof.Rows L2 Eng
variable {rules : List (List Nat)} {s : Nat}
/-- all histories of counts, turn by turn -/
def extG (R K : Nat) (cs : List Nat) (F : List Hi) : List Hi := F.flatMap fun h => (List.range K).flatMap fun a => if (cnts K h).getD a 0 < cs.getD a 0 then (List.range R).map fun d => h ++ [(a, d)] else []
def hgo (R K : Nat) (cs : List Nat) : Nat → List Hi
  | 0 => [[]]
  | t + 1 => extG R K cs (hgo R K cs t)
theorem cnts_at {K a : Nat} (h : Hi) (ha : a < K) : (cnts K h).getD a 0 = cnt h a := getD_of (cnts_get h ha)
theorem hgo_mem {R K : Nat} {cs : List Nat} : ∀ {t : Nat} {h : Hi}, h ∈ hgo R K cs t ↔ h.length = t ∧ HOk K R h ∧ ∀ a, a < K → cnt h a ≤ cs.getD a 0
  | 0, h => by
    show h ∈ [[]] ↔ _
    rw [List.mem_singleton]
    constructor
    · rintro rfl; exact ⟨rfl, fun p hp => absurd hp (by simp), fun a _ => Nat.zero_le _⟩
    · rintro ⟨e, _⟩; exact List.eq_nil_of_length_eq_zero e
  | t + 1, h => by
    show h ∈ (hgo R K cs t).flatMap _ ↔ _
    rw [List.mem_flatMap]
    constructor
    · rintro ⟨g, hg, hh⟩
      obtain ⟨g1, g2, g3⟩ := hgo_mem.mp hg
      obtain ⟨a, ha, hh⟩ := List.mem_flatMap.mp hh
      have ha := List.mem_range.mp ha
      split at hh
      · rename_i hc
        rw [cnts_at g ha] at hc
        obtain ⟨d, hd, rfl⟩ := List.mem_map.mp hh
        have hd := List.mem_range.mp hd
        refine ⟨by simp [g1], fun p hp => ?_, fun x hx => ?_⟩
        · rcases List.mem_append.mp hp with hp | hp
          · exact g2 p hp
          · rw [List.mem_singleton.mp hp]; exact ⟨ha, hd⟩
        · rw [cnt_app]
          have e : cnt [(a, d)] x = if a = x then 1 else 0 := by rw [cnt_cons]; rfl
          rw [e]
          split
          · rename_i e; subst e; omega
          · have := g3 x hx; omega
      · exact absurd hh (by simp)
    · rintro ⟨h1, h2, h3⟩
      have hne : h ≠ [] := fun e => by rw [e] at h1; exact absurd h1 (by simp)
      obtain ⟨g, p, rfl⟩ : ∃ g p, h = g ++ [p] := ⟨h.dropLast, h.getLast hne, (List.dropLast_concat_getLast hne).symm⟩
      obtain ⟨a, d⟩ := p
      have hp := h2 (a, d) (by simp)
      have hx : ∀ x, cnt (g ++ [(a, d)]) x = cnt g x + if a = x then 1 else 0 := fun x => by rw [cnt_app, cnt_cons]; rfl
      refine ⟨g, hgo_mem.mpr ⟨by simpa using h1, fun p hp => h2 p (List.mem_append_left _ hp), fun x hx' => ?_⟩, List.mem_flatMap.mpr ⟨a, List.mem_range.mpr hp.1, ?_⟩⟩
      · have := h3 x hx'; rw [hx] at this; omega
      · have := h3 a hp.1
        rw [hx, if_pos rfl] at this
        have hlt : cnt g a < cs.getD a 0 := by omega
        rw [if_pos (by rw [cnts_at g hp.1]; exact hlt)]
        exact List.mem_map.mpr ⟨d, List.mem_range.mpr hp.2, rfl⟩
theorem fm_le {α β : Type} (f : α → List β) (k : Nat) : ∀ l : List α, (∀ x ∈ l, (f x).length ≤ k) → (l.flatMap f).length ≤ l.length * k
  | [], _ => by simp
  | x :: l, h => by
    rw [List.flatMap_cons, List.length_append, List.length_cons, Nat.add_mul, Nat.one_mul]
    have := fm_le f k l fun y hy => h y (List.mem_cons_of_mem _ hy)
    have := h x List.mem_cons_self
    omega
theorem hgo_len {R K : Nat} {cs : List Nat} : ∀ t, (hgo R K cs t).length ≤ (K * R) ^ t
  | 0 => by simp [hgo]
  | t + 1 => by
    have := fm_le (fun h : Hi => (List.range K).flatMap fun a => if (cnts K h).getD a 0 < cs.getD a 0 then (List.range R).map fun d => h ++ [(a, d)] else []) (K * R) (hgo R K cs t) fun h _ => by
      have := fm_le (fun a => if (cnts K h).getD a 0 < cs.getD a 0 then (List.range R).map fun d => h ++ [(a, d)] else []) R (List.range K) fun a _ => by
        split
        · rw [List.length_map, List.length_range]; exact Nat.le_refl _
        · exact Nat.zero_le _
      rwa [List.length_range] at this
    show (extG R K cs _).length ≤ _
    unfold extG
    exact Nat.le_trans this (Nat.mul_le_mul_right _ (hgo_len t))
theorem sum_map_add {α : Type} (f g : α → Nat) : ∀ l : List α, (l.map fun x => f x + g x).sum = (l.map f).sum + (l.map g).sum
  | [] => rfl
  | x :: l => by simp only [List.map_cons, List.sum_cons, sum_map_add f g l]; omega
theorem sum_ind : ∀ (K j : Nat), ((List.range K).map fun a => if j = a then 1 else 0).sum = if j < K then 1 else 0
  | 0, j => by simp
  | K + 1, j => by
    rw [List.range_succ, List.map_append, List.sum_append, sum_ind K j]
    simp only [List.map_cons, List.map_nil, List.sum_cons, List.sum_nil]
    split <;> split <;> split <;> omega
theorem sum_cnt {K R : Nat} : ∀ {h : Hi}, HOk K R h → (cnts K h).sum = h.length
  | [], _ => by
    unfold cnts
    have : ∀ l : List Nat, (l.map (cnt [])).sum = 0 := fun l => by
      induction l with
      | nil => rfl
      | cons x l ih => rw [List.map_cons, List.sum_cons, ih]; rfl
    exact this _
  | p :: h, ho => by
    have e : (List.range K).map (cnt (p :: h)) = (List.range K).map fun a => (if p.1 = a then 1 else 0) + cnt h a := List.map_congr_left fun a _ => cnt_cons p h a
    unfold cnts
    rw [e, sum_map_add, sum_ind, if_pos (ho p List.mem_cons_self).1, List.length_cons]
    have := sum_cnt (fun q hq => ho q (List.mem_cons_of_mem _ hq) : HOk K R h)
    unfold cnts at this
    omega
theorem le_sum_eq : ∀ {l c : List Nat}, l.length = c.length → (∀ a, a < c.length → l.getD a 0 ≤ c.getD a 0) → l.sum = c.sum → l = c
  | [], [], _, _, _ => rfl
  | [], _ :: _, h, _, _ => by simp at h
  | _ :: _, [], h, _, _ => by simp at h
  | x :: l, y :: c, h, hl, e => by
    have h0 : x ≤ y := hl 0 (by simp)
    have h1 : ∀ a, a < c.length → l.getD a 0 ≤ c.getD a 0 := fun a ha => hl (a + 1) (by simpa using ha)
    have hs : l.sum ≤ c.sum := by
      have : ∀ {l c : List Nat}, l.length = c.length → (∀ a, a < c.length → l.getD a 0 ≤ c.getD a 0) → l.sum ≤ c.sum := by
        intro l
        induction l with
        | nil => intro c _ _; exact Nat.zero_le _
        | cons x l ih =>
          intro c hc h
          cases c with
          | nil => simp at hc
          | cons y c =>
            have a0 : x ≤ y := h 0 (by simp)
            have a1 := ih (c := c) (by simpa using hc) fun a ha => h (a + 1) (by simpa using ha)
            simp only [List.sum_cons]; omega
      exact this (by simpa using h) h1
    simp only [List.sum_cons] at e
    rw [le_sum_eq (by simpa using h) h1 (by omega), show x = y by omega]
theorem hgo_all {R : Nat} {cs : List Nat} {h : Hi} : h ∈ hgo R cs.length cs cs.sum ↔ HOk cs.length R h ∧ cnts cs.length h = cs := by
  rw [hgo_mem]
  constructor
  · rintro ⟨h1, h2, h3⟩
    refine ⟨h2, le_sum_eq (cnts_len ..) (fun a ha => by rw [cnts_at h ha]; exact h3 a ha) (by rw [sum_cnt h2, h1])⟩
  · rintro ⟨h1, h2⟩
    refine ⟨by rw [← sum_cnt h1, h2], h1, fun a ha => by rw [← cnts_at h ha, h2]; exact Nat.le_refl _⟩
/-! the boards of a table; rims -/
def tbl (rules : List (List Nat)) (s : Nat) (cs : List Nat) (h : Hi) : List Nat := (vecs cs).map (board s rules h)
def kn (rules : List (List Nat)) (s : Nat) (cs : List Nat) : Nat := unl ((hgo rules.length cs.length cs cs.sum).map (tbl rules s cs))
def onH (w : List Nat) : Hi := w.map fun d => (0, d)
theorem wd_onH (w : List Nat) : wd (onH w) 0 = w := by
  unfold wd onH
  rw [List.filter_eq_self.mpr (fun p hp => by obtain ⟨d, _, rfl⟩ := List.mem_map.mp hp; rfl), List.map_map]
  exact List.map_id _
theorem onH_wd {R : Nat} : ∀ {g : Hi}, HOk 1 R g → onH (wd g 0) = g
  | [], _ => rfl
  | p :: g, h => by
    have hp := (h p List.mem_cons_self).1
    rw [wd_cons, if_pos (by omega)]
    show (0, p.2) :: onH (wd g 0) = _
    rw [onH_wd (fun q hq => h q (List.mem_cons_of_mem _ hq) : HOk 1 R g)]
    congr 1
    exact Prod.ext (by show 0 = p.1; omega) rfl
theorem in_one {c j : Nat} (h : j ≤ c) : [j] ∈ vecs [c] := List.mem_of_getElem? (place_get (cs := [c]) (v := [j]) ⟨rfl, fun i x y hx hy => by
  cases i with
  | zero => simp at hx hy; omega
  | succ i => simp at hx⟩)
theorem board_one {w : List Nat} {j : Nat} : board s rules (onH w) [j] = runR rules s (w.take j) := by
  unfold board
  rw [replay_one rules (a := 0) (onH w) s [j] fun c hc => by
    cases c with
    | zero => exact absurd rfl hc
    | succ c => rfl]
  rw [wd_onH]; rfl
theorem one_of {c : Nat} {v : List Nat} (h : v ∈ vecs [c]) : ∃ j, j ≤ c ∧ v = [j] := by
  obtain ⟨h1, h2⟩ := vecs_in h
  match v, h1 with
  | [j], _ => exact ⟨j, h2 0 j c rfl rfl, rfl⟩
/-- the rims of a history, one table for each hand -/
def rims (rules : List (List Nat)) (s : Nat) (cs : List Nat) (h : Hi) : List (List Nat) := (List.range cs.length).map fun a => tbl rules s [cs.getD a 0] (onH (wd h a))
theorem rims_eq {cs : List Nat} {g h : Hi} : rims rules s cs g = rims rules s cs h ↔ ∀ a, a < cs.length → ∀ j, j ≤ cs.getD a 0 → runR rules s ((wd g a).take j) = runR rules s ((wd h a).take j) := by
  unfold rims tbl
  rw [List.map_inj_left]
  constructor
  · intro e a ha j hj
    have := List.map_inj_left.mp (e a (List.mem_range.mpr ha)) [j] (in_one hj)
    rwa [board_one, board_one] at this
  · intro e a ha
    refine List.map_inj_left.mpr fun v hv => ?_
    obtain ⟨j, hj, rfl⟩ := one_of hv
    rw [board_one, board_one]
    exact e a (List.mem_range.mp ha) j hj
theorem tbl_rims {cs : List Nat} {g h : Hi} (e : tbl rules s cs g = tbl rules s cs h) : rims rules s cs g = rims rules s cs h := by
  rw [rims_eq]
  intro a ha j hj
  let v := (List.replicate cs.length 0).set a j
  have hvl : v.length = cs.length := by simp [v]
  have hg : ∀ c, v.getD c 0 = if c = a then j else 0 := fun c => by
    show ((List.replicate cs.length 0).set a j).getD c 0 = _
    rw [getD_set, List.length_replicate]
    by_cases ec : c = a
    · rw [if_pos ⟨ec, ha⟩, if_pos ec]
    · rw [if_neg (fun z => ec z.1), if_neg ec, List.getD_eq_getElem?_getD, List.getElem?_replicate]
      split <;> rfl
  have hv : InV cs v := ⟨hvl, fun i x c hx hc => by
    have e1 := getD_of hx
    have e2 := getD_of hc
    rw [hg] at e1
    split at e1
    · rename_i ei; subst ei; omega
    · omega⟩
  have := List.map_inj_left.mp e v (List.mem_of_getElem? (place_get hv))
  unfold board at this
  rw [replay_one rules (a := a) g s v fun c hc => by rw [hg, if_neg hc], replay_one rules (a := a) h s v fun c hc => by rw [hg, if_neg hc], hg, if_pos rfl] at this
  exact this
theorem rims_tbl {cs : List Nat} {g h : Hi} (hf : Free rules s) (hg : HOk cs.length rules.length g) (hh : HOk cs.length rules.length h) (e : rims rules s cs g = rims rules s cs h) : tbl rules s cs g = tbl rules s cs h := by
  refine List.map_inj_left.mpr fun v hv => ?_
  obtain ⟨h1, h2⟩ := vecs_in hv
  rw [board_free hf hg, board_free hf hh]
  refine catw_congr hf hg hh _ fun a ha => rims_eq.mp e a ha _ ?_
  exact h2 a _ _ (by rw [List.getElem?_eq_getElem (h1.symm ▸ ha), List.getD_eq_getElem?_getD, List.getElem?_eq_getElem (h1.symm ▸ ha)]; rfl) (by rw [List.getElem?_eq_getElem ha, List.getD_eq_getElem?_getD, List.getElem?_eq_getElem ha]; rfl)
/-- one history out of one row for each hand -/
def joinH (g : Nat → Hi) : Nat → Hi
  | 0 => []
  | k + 1 => joinH g k ++ (wd (g k) 0).map fun d => (k, d)
theorem joinH_ok {R : Nat} {g : Nat → Hi} : ∀ {k : Nat}, (∀ i, i < k → ∀ d ∈ wd (g i) 0, d < R) → HOk k R (joinH g k)
  | 0, _, p, hp => absurd hp (by simp [joinH])
  | k + 1, h, p, hp => by
    rcases List.mem_append.mp hp with hp | hp
    · have := joinH_ok (fun i hi => h i (by omega)) p hp
      exact ⟨by omega, this.2⟩
    · obtain ⟨d, hd, rfl⟩ := List.mem_map.mp hp
      exact ⟨by show k < k + 1; omega, h k (by omega) d hd⟩
theorem wd_row (k a : Nat) : ∀ w : List Nat, wd (w.map fun d => (k, d)) a = if k = a then w else []
  | [] => by split <;> rfl
  | d :: w => by
    rw [List.map_cons, wd_cons, wd_row k a w]
    split <;> simp_all
theorem wd_join {g : Nat → Hi} {a : Nat} : ∀ k, wd (joinH g k) a = if a < k then wd (g a) 0 else []
  | 0 => rfl
  | k + 1 => by
    show wd (joinH g k ++ _) a = _
    rw [wd_app, wd_join k, wd_row]
    by_cases e : k = a
    · subst e; rw [if_neg (by omega), if_pos rfl, if_pos (by omega)]; rfl
    · rw [if_neg e, List.append_nil]
      by_cases c : a < k
      · rw [if_pos c, if_pos (by omega)]
      · rw [if_neg c, if_neg (by omega)]
def one (rules : List (List Nat)) (s c : Nat) : List (List Nat) := eds ((hgo rules.length 1 [c] c).map (tbl rules s [c]))
theorem one_len (c : Nat) : (one rules s c).length = kn rules s [c] := rfl
theorem rims_all (cs : List Nat) : unl ((hgo rules.length cs.length cs cs.sum).map (rims rules s cs)) = prodL (cs.map fun c => kn rules s [c]) := by
  rw [show (cs.map fun c => kn rules s [c]) = (cs.map (one rules s)).map List.length by rw [List.map_map]; exact List.map_congr_left fun c _ => (one_len c).symm, ← cart_len]
  refine unl_eq (cart_nodup fun R hR => by
    obtain ⟨c, _, rfl⟩ := List.mem_map.mp hR
    exact ed_nodup _) fun t => ?_
  have hsum : ∀ c : Nat, ([c] : List Nat).sum = c := fun c => by simp
  rw [List.mem_map, cart_mem]
  constructor
  · rintro ⟨h, hh, rfl⟩
    obtain ⟨ho, hc⟩ := hgo_all.mp hh
    refine ⟨by simp [rims], fun i r R hr hR => ?_⟩
    rw [List.getElem?_map, Option.map_eq_some_iff] at hR
    obtain ⟨c, ec, rfl⟩ := hR
    have hi : i < cs.length := (List.getElem?_eq_some_iff.mp ec).1
    have er : r = tbl rules s [c] (onH (wd h i)) := by
      have : (rims rules s cs h)[i]? = some (tbl rules s [cs.getD i 0] (onH (wd h i))) := by
        unfold rims
        rw [List.getElem?_map, List.getElem?_range hi]; rfl
      rw [this, getD_of ec] at hr
      exact (Option.some.inj hr).symm
    rw [er]
    refine mem_eds.mpr (List.mem_map_of_mem ?_)
    have := hgo_all (R := rules.length) (cs := [c]) (h := onH (wd h i))
    rw [hsum] at this
    refine this.mpr ⟨fun p hp => ?_, ?_⟩
    · obtain ⟨d, hd, rfl⟩ := List.mem_map.mp hp
      exact ⟨by show 0 < 1; omega, wd_lt ho d hd⟩
    · have : cnt h i = c := by rw [← cnts_at h hi, hc, getD_of ec]
      show [cnt (onH (wd h i)) 0] = [c]
      rw [← wd_len, wd_onH, wd_len, this]
  · rintro ⟨h1, h2⟩
    rw [List.length_map] at h1
    obtain ⟨g, hg⟩ : ∃ g : Nat → Hi, ∀ i, i < cs.length → g i ∈ hgo rules.length 1 [cs.getD i 0] (cs.getD i 0) ∧ t[i]? = some (tbl rules s [cs.getD i 0] (g i)) := by
      refine (Classical.skolem (p := fun i g => i < cs.length → g ∈ hgo rules.length 1 [cs.getD i 0] (cs.getD i 0) ∧ t[i]? = some (tbl rules s [cs.getD i 0] g))).mp fun i => ?_
      by_cases hi : i < cs.length
      · have ht : t[i]? = some t[i] := List.getElem?_eq_getElem (h1.symm ▸ hi)
        have hc : cs[i]? = some cs[i] := List.getElem?_eq_getElem hi
        have := h2 i _ (one rules s cs[i]) ht (by rw [List.getElem?_map, hc]; rfl)
        obtain ⟨g, hg, e⟩ := List.mem_map.mp (mem_eds.mp this)
        exact ⟨g, fun _ => by rw [getD_of hc]; exact ⟨hg, by rw [ht, e]⟩⟩
      · exact ⟨[], fun z => absurd z hi⟩
    have hg1 : ∀ i, i < cs.length → HOk 1 rules.length (g i) ∧ cnts 1 (g i) = [cs.getD i 0] := fun i hi => by
      have := hgo_all (R := rules.length) (cs := [cs.getD i 0]) (h := g i)
      rw [hsum] at this
      exact this.mp (hg i hi).1
    have ho : HOk cs.length rules.length (joinH g cs.length) := joinH_ok fun i hi => wd_lt (hg1 i hi).1
    refine ⟨joinH g cs.length, hgo_all.mpr ⟨ho, ?_⟩, ?_⟩
    · refine List.ext_getElem? fun i => ?_
      by_cases hi : i < cs.length
      · rw [cnts_get _ hi, ← wd_len, wd_join, if_pos hi, wd_len]
        have := (hg1 i hi).2
        have e : cnt (g i) 0 = cs.getD i 0 := by
          have : [cnt (g i) 0] = [cs.getD i 0] := this
          exact (List.cons.inj this).1
        rw [e, List.getD_eq_getElem?_getD, List.getElem?_eq_getElem hi]; rfl
      · rw [List.getElem?_eq_none (by rw [cnts_len]; omega), List.getElem?_eq_none (by omega)]
    · refine List.ext_getElem? fun i => ?_
      by_cases hi : i < cs.length
      · rw [(hg i hi).2]
        unfold rims
        rw [List.getElem?_map, List.getElem?_range hi]
        show some (tbl rules s [cs.getD i 0] (onH (wd (joinH g cs.length) i))) = _
        rw [wd_join, if_pos hi, onH_wd (hg1 i hi).1]
      · rw [List.getElem?_eq_none (by simp [rims]; omega), List.getElem?_eq_none (by omega)]
/-- any two commute wherever they come: kinds are the product -/
theorem kn_free {cs : List Nat} (hf : Free rules s) : kn rules s cs = prodL (cs.map fun c => kn rules s [c]) := by
  rw [← rims_all]
  refine Nat.le_antisymm (unl_le fun x hx y hy e => rims_tbl hf (hgo_all.mp hx).1 (hgo_all.mp hy).1 e) (unl_le fun x _ y _ e => tbl_rims e)
/-- two of one rim with unlike tables: kinds are more than the product -/
theorem kn_more {cs : List Nat} {g h : Hi} (hg : HOk cs.length rules.length g ∧ cnts cs.length g = cs) (hh : HOk cs.length rules.length h ∧ cnts cs.length h = cs) (e : rims rules s cs g = rims rules s cs h) (ne : tbl rules s cs g ≠ tbl rules s cs h) : prodL (cs.map fun c => kn rules s [c]) < kn rules s cs := by
  rw [← rims_all]
  exact unl_lt (fun x _ y _ e => tbl_rims e) (hgo_all.mpr hg) (hgo_all.mpr hh) e ne
theorem kn_le (cs : List Nat) : kn rules s cs ≤ (cs.length * rules.length) ^ cs.sum := by
  refine Nat.le_trans (unl_sub (c := (hgo rules.length cs.length cs cs.sum).map (tbl rules s cs)) fun x hx => hx) ?_
  rw [List.length_map]; exact hgo_len _
theorem vec2 {v : List Nat} (h : v ∈ vecs [2, 1]) : ∃ i j, v = [i, j] := by
  obtain ⟨h1, _⟩ := vecs_in h
  match v, h1 with
  | [i, j], _ => exact ⟨i, j, rfl⟩
theorem tbl_swap (hc : Com rules s) {x y z : Nat} (hx : x < rules.length) (hz : z < rules.length) : tbl rules s [2, 1] [(1, z), (0, x), (0, y)] = tbl rules s [2, 1] [(0, x), (1, z), (0, y)] := by
  refine List.map_inj_left.mpr fun v hv => ?_
  obtain ⟨i, j, rfl⟩ := vec2 hv
  have := hc x z hx hz
  match i, j with
  | 0, 0 => simp [board, replay, rstep]
  | 0, j + 1 => simp [board, replay, rstep]
  | i + 1, 0 => simp [board, replay, rstep]
  | i + 1, j + 1 => simp [board, replay, rstep, this]
theorem kn_21 (hc : Com rules s) (h3 : rules.length ≤ 3) : kn rules s [2, 1] ≤ 54 := by
  have := unl_sub (l := (hgo rules.length 2 [2, 1] 3).map (tbl rules s [2, 1])) (c := (List.range rules.length).flatMap fun x => (List.range rules.length).flatMap fun y => (List.range rules.length).flatMap fun z => [tbl rules s [2, 1] [(0, x), (0, y), (1, z)], tbl rules s [2, 1] [(0, x), (1, z), (0, y)]]) fun t ht => by
    obtain ⟨h, hh, rfl⟩ := List.mem_map.mp ht
    obtain ⟨ho, hk⟩ := (hgo_all (cs := [2, 1])).mp hh
    have hl : h.length = 3 := by rw [← sum_cnt ho, hk]; rfl
    match h, hl with
    | [(a, x), (b, y), (c, z)], _ =>
      have k0 : cnt [(a, x), (b, y), (c, z)] 0 = 2 := by
        have : [cnt [(a, x), (b, y), (c, z)] 0, cnt [(a, x), (b, y), (c, z)] 1] = [2, 1] := hk
        exact (List.cons.inj this).1
      have a2 : a < 2 ∧ x < rules.length := ho (a, x) (by simp)
      have b2 : b < 2 ∧ y < rules.length := ho (b, y) (by simp)
      have c2 : c < 2 ∧ z < rules.length := ho (c, z) (by simp)
      rw [cnt_cons, cnt_cons, cnt_cons] at k0
      simp only [show cnt ([] : Hi) 0 = 0 from rfl] at k0
      have put : ∀ x y z : Nat, x < rules.length → y < rules.length → z < rules.length → ∀ w, (w = tbl rules s [2, 1] [(0, x), (0, y), (1, z)] ∨ w = tbl rules s [2, 1] [(0, x), (1, z), (0, y)]) → w ∈ (List.range rules.length).flatMap fun x => (List.range rules.length).flatMap fun y => (List.range rules.length).flatMap fun z => [tbl rules s [2, 1] [(0, x), (0, y), (1, z)], tbl rules s [2, 1] [(0, x), (1, z), (0, y)]] := fun x y z hx hy hz w hw =>
        List.mem_flatMap.mpr ⟨x, List.mem_range.mpr hx, List.mem_flatMap.mpr ⟨y, List.mem_range.mpr hy, List.mem_flatMap.mpr ⟨z, List.mem_range.mpr hz, by simpa using hw⟩⟩⟩
      rcases (by omega : (a = 0 ∧ b = 0 ∧ c = 1) ∨ (a = 0 ∧ b = 1 ∧ c = 0) ∨ (a = 1 ∧ b = 0 ∧ c = 0) ∨ (a = 0 ∧ b = 0 ∧ c = 0) ∨ (a = 1 ∧ b = 1) ∨ (a = 1 ∧ c = 1) ∨ (b = 1 ∧ c = 1)) with ⟨rfl, rfl, rfl⟩ | ⟨rfl, rfl, rfl⟩ | ⟨rfl, rfl, rfl⟩ | ⟨rfl, rfl, rfl⟩ | ⟨rfl, rfl⟩ | ⟨rfl, rfl⟩ | ⟨rfl, rfl⟩
      · exact put x y z a2.2 b2.2 c2.2 _ (.inl rfl)
      · exact put x z y a2.2 c2.2 b2.2 _ (.inr rfl)
      · rw [tbl_swap hc b2.2 a2.2]; exact put y z x b2.2 c2.2 a2.2 _ (.inr rfl)
      · exact absurd k0 (by repeat' split
                            all_goals omega)
      · exact absurd k0 (by repeat' split
                            all_goals omega)
      · exact absurd k0 (by repeat' split
                            all_goals omega)
      · exact absurd k0 (by repeat' split
                            all_goals omega)
  refine Nat.le_trans this ?_
  rw [fm_len _ (rules.length * (rules.length * 2)) _ fun x _ => by
    rw [fm_len _ (rules.length * 2) _ fun y _ => by
      rw [fm_len _ 2 _ fun z _ => rfl, List.length_range], List.length_range], List.length_range]
  rcases (by omega : rules.length = 0 ∨ rules.length = 1 ∨ rules.length = 2 ∨ rules.length = 3) with e | e | e | e <;> rw [e] <;> omega
end K44

set_option Elab.async false
set_option linter.all false
set_option maxRecDepth 100000
set_option maxHeartbeats 2000000
/-! The search for boards: rows to each, the first clash. -/
namespace K44
open PySem PySem.Spec PyProof.Rows L2 Eng
variable {rules : List (List Nat)} {s b : Nat}
abbrev En := Nat × List Nat
/-- one board's deeds: what is new goes to the end -/
def exp1 (rules : List (List Nat)) (e : En) (E : List En) (d : Nat) : List En := if stepR rules d e.1 ∈ E.map (·.1) then E else E ++ [(stepR rules d e.1, e.2 ++ [d])]
def expN (rules : List (List Nat)) (e : En) (E : List En) (k : Nat) : List En := (List.range k).foldl (exp1 rules e) E
theorem expN_succ (e : En) (E : List En) (k : Nat) : expN rules e E (k + 1) = exp1 rules e (expN rules e E k) k := by unfold expN; rw [List.range_succ, List.foldl_append]; rfl
def expd (rules : List (List Nat)) (e : En) (E : List En) : List En := expN rules e E rules.length
def bfs (rules : List (List Nat)) : Nat → Nat → List En → List En
  | 0, _, E => E
  | f + 1, k, E => match E[k]? with
    | some e => bfs rules f (k + 1) (expd rules e E)
    | none => E
/-- what the search keeps -/
structure EOk (b s : Nat) (rules : List (List Nat)) (E : List En) : Prop where
  nd : (E.map (·.1)).Nodup
  lt : ∀ e ∈ E, e.1 < b ∧ runR rules s e.2 = e.1 ∧ ∀ d ∈ e.2, d < rules.length
  sh : ∀ (i : Nat) (e : En), E[i]? = some e → e.2.length ≤ i
theorem EOk.len {E : List En} (h : EOk b s rules E) : E.length ≤ b := by
  have := EngU.cap_len (E.map (·.1)) (List.range b) h.nd fun x hx => by
    obtain ⟨e, he, rfl⟩ := List.mem_map.mp hx
    exact List.mem_range.mpr (h.lt e he).1
  rwa [List.length_map, List.length_range] at this
theorem stepR_lt (hm : MOk b s rules) {d x : Nat} (hd : d < rules.length) (hx : x < b) : stepR rules d x < b := by
  unfold stepR
  have hr := hm.each rules[d] (List.getElem_mem hd)
  rw [show rules.getD d [] = rules[d] by rw [List.getD_eq_getElem?_getD, List.getElem?_eq_getElem hd]; rfl, List.getD_eq_getElem?_getD, List.getElem?_eq_getElem (by rw [hr.1]; exact hx)]
  exact hr.2 _ (List.getElem_mem _)
theorem exp1_pre (e : En) (E : List En) (d : Nat) : ∃ T, exp1 rules e E d = E ++ T := by
  unfold exp1
  split
  · exact ⟨[], by simp⟩
  · exact ⟨_, rfl⟩
theorem expN_pre (e : En) (E : List En) : ∀ k, ∃ T, expN rules e E k = E ++ T
  | 0 => ⟨[], by simp [expN]⟩
  | k + 1 => by
    obtain ⟨T, hT⟩ := expN_pre e E k
    obtain ⟨U, hU⟩ := exp1_pre (rules := rules) e (expN rules e E k) k
    exact ⟨T ++ U, by rw [expN_succ, hU, hT, List.append_assoc]⟩
theorem bfs_pre : ∀ (f k : Nat) (E : List En), ∃ T, bfs rules f k E = E ++ T
  | 0, _, E => ⟨[], by simp [bfs]⟩
  | f + 1, k, E => by
    unfold bfs
    split
    · rename_i e he
      obtain ⟨T, hT⟩ := expN_pre (rules := rules) e E rules.length
      obtain ⟨U, hU⟩ := bfs_pre f (k + 1) (expd rules e E)
      refine ⟨T ++ U, ?_⟩
      rw [hU]
      unfold expd
      rw [hT, List.append_assoc]
    · exact ⟨[], by simp⟩
theorem exp1_ok (hm : MOk b s rules) {e : En} {E : List En} {d i : Nat} (h : EOk b s rules E) (hi : E[i]? = some e) (hd : d < rules.length) : EOk b s rules (exp1 rules e E d) ∧ (exp1 rules e E d)[i]? = some e := by
  unfold exp1
  split
  · exact ⟨h, hi⟩
  · rename_i hn
    have he := h.lt e (List.mem_of_getElem? hi)
    have hil := (List.getElem?_eq_some_iff.mp hi).1
    have hs := h.sh i e hi
    refine ⟨⟨?_, fun x hx => ?_, fun j x hj => ?_⟩, by rw [List.getElem?_append_left hil]; exact hi⟩
    · rw [List.map_append, List.nodup_append]
      refine ⟨h.nd, by simp, fun x hx y hy => ?_⟩
      have : y = stepR rules d e.1 := by simpa using hy
      rw [this]; intro e; rw [e] at hx; exact hn hx
    · rcases List.mem_append.mp hx with hx | hx
      · exact h.lt x hx
      · rw [List.mem_singleton.mp hx]
        refine ⟨stepR_lt hm hd he.1, by show runR rules s (e.2 ++ [d]) = _; rw [runR_app, he.2.1]; rfl, fun y hy => ?_⟩
        rcases List.mem_append.mp hy with hy | hy
        · exact he.2.2 y hy
        · rw [List.mem_singleton.mp hy]; exact hd
    · by_cases c : j < E.length
      · rw [List.getElem?_append_left c] at hj
        exact h.sh j x hj
      · rw [List.getElem?_append_right (by omega)] at hj
        have : x = (stepR rules d e.1, e.2 ++ [d]) := by
          have : x ∈ [(stepR rules d e.1, e.2 ++ [d])] := List.mem_of_getElem? hj
          simpa using this
        rw [this]
        show (e.2 ++ [d]).length ≤ j
        rw [List.length_append]
        show e.2.length + 1 ≤ j
        omega
theorem expN_ok (hm : MOk b s rules) {e : En} {E : List En} {i : Nat} (h : EOk b s rules E) (hi : E[i]? = some e) : ∀ k, k ≤ rules.length → EOk b s rules (expN rules e E k) ∧ (expN rules e E k)[i]? = some e
  | 0, _ => ⟨h, hi⟩
  | k + 1, hk => by
    obtain ⟨h1, h2⟩ := expN_ok hm h hi k (by omega)
    rw [expN_succ]
    exact exp1_ok hm h1 h2 (by omega)
theorem expd_ok (hm : MOk b s rules) {e : En} {E : List En} {i : Nat} (h : EOk b s rules E) (hi : E[i]? = some e) : EOk b s rules (expd rules e E) := (expN_ok hm h hi _ (Nat.le_refl _)).1
theorem bfs_ok (hm : MOk b s rules) : ∀ (f k : Nat) {E : List En}, EOk b s rules E → EOk b s rules (bfs rules f k E)
  | 0, _, _, h => h
  | f + 1, k, E, h => by
    unfold bfs
    split
    · rename_i e he
      exact bfs_ok hm f (k + 1) (expd_ok hm h he)
    · exact h
def E0 (s : Nat) : List En := [(s, [])]
theorem E0_ok (hm : MOk b s rules) : EOk b s rules (E0 s) := by
  refine ⟨by simp [E0], fun e he => ?_, fun i e he => ?_⟩
  · rw [List.mem_singleton.mp he]; exact ⟨hm.sb, rfl, fun d hd => absurd hd (by simp)⟩
  · have : e ∈ E0 s := List.mem_of_getElem? he
    rw [List.mem_singleton.mp this]; exact Nat.zero_le _
def fin (b s : Nat) (rules : List (List Nat)) : List En := bfs rules b 0 (E0 s)
/-- each board's deeds lead to boards that are there -/
def Shut (rules : List (List Nat)) (x : Nat) (E : List En) : Prop := ∀ d, d < rules.length → stepR rules d x ∈ E.map (·.1)
theorem Shut.app {x : Nat} {E T : List En} (h : Shut rules x E) : Shut rules x (E ++ T) := fun d hd => by
  rw [List.map_append]; exact List.mem_append_left _ (h d hd)
theorem exp1_in (e : En) (E : List En) (d : Nat) : stepR rules d e.1 ∈ (exp1 rules e E d).map (·.1) := by
  unfold exp1
  split
  · assumption
  · rw [List.map_append]; exact List.mem_append_right _ (by simp)
theorem expN_shut (e : En) (E : List En) : ∀ k, ∀ d, d < k → stepR rules d e.1 ∈ (expN rules e E k).map (·.1)
  | 0, d, hd => absurd hd (by omega)
  | k + 1, d, hd => by
    rw [expN_succ]
    by_cases c : d = k
    · subst c; exact exp1_in e _ d
    · obtain ⟨T, hT⟩ := exp1_pre (rules := rules) e (expN rules e E k) k
      rw [hT, List.map_append]
      exact List.mem_append_left _ (expN_shut e E k d (by omega))
theorem bfs_shut (hm : MOk b s rules) : ∀ (f k : Nat) {E : List En}, EOk b s rules E → b ≤ f + k → (∀ i e, i < k → E[i]? = some e → Shut rules e.1 E) → ∀ e ∈ bfs rules f k E, Shut rules e.1 (bfs rules f k E)
  | 0, k, E, h, hf, hs, e, he => by
    have he : e ∈ E := he
    obtain ⟨i, hi⟩ := List.getElem?_of_mem he
    have := (List.getElem?_eq_some_iff.mp hi).1
    have := h.len
    exact hs i e (by omega) hi
  | f + 1, k, E, h, hf, hs, e, he => by
    unfold bfs at he ⊢
    split at he
    · rename_i x hx
      refine bfs_shut hm f (k + 1) (expd_ok hm h hx) (by omega) (fun i y hi hy => ?_) e he
      obtain ⟨T, hT⟩ := expN_pre (rules := rules) x E rules.length
      have hk := (List.getElem?_eq_some_iff.mp hx).1
      by_cases c : i < k
      · have : E[i]? = some y := by
          unfold expd at hy
          rwa [hT, List.getElem?_append_left (by omega)] at hy
        unfold expd
        rw [hT]
        exact (hs i y c this).app
      · have hik : i = k := by omega
        subst hik
        have : y = x := by
          unfold expd at hy
          rw [hT, List.getElem?_append_left hk, hx] at hy
          exact (Option.some.inj hy).symm
        subst this
        exact fun d hd => expN_shut y E _ d hd
    · rename_i hx
      have := List.getElem?_eq_none_iff.mp hx
      obtain ⟨i, hi⟩ := List.getElem?_of_mem he
      have := (List.getElem?_eq_some_iff.mp hi).1
      exact hs i e (by omega) hi
theorem fin_ok (hm : MOk b s rules) : EOk b s rules (fin b s rules) := bfs_ok hm _ _ (E0_ok hm)
theorem fin_shut (hm : MOk b s rules) : ∀ e ∈ fin b s rules, Shut rules e.1 (fin b s rules) := bfs_shut hm b 0 (E0_ok hm) (by omega) fun i e hi => absurd hi (by omega)
theorem fin_all (hm : MOk b s rules) : ∀ (w : List Nat), (∀ d ∈ w, d < rules.length) → ∀ x, x ∈ (fin b s rules).map (·.1) → runR rules x w ∈ (fin b s rules).map (·.1)
  | [], _, x, hx => hx
  | d :: w, hw, x, hx => by
    obtain ⟨e, he, rfl⟩ := List.mem_map.mp hx
    exact fin_all hm w (fun y hy => hw y (List.mem_cons_of_mem _ hy)) _ (fin_shut hm e he d (hw d List.mem_cons_self))
theorem fin_start : s ∈ (fin b s rules).map (·.1) := by
  obtain ⟨T, hT⟩ := bfs_pre (rules := rules) b 0 (E0 s)
  unfold fin
  rw [hT, List.map_append]
  exact List.mem_append_left _ (by simp [E0])
/-! clashes -/
def bad (rules : List (List Nat)) (x one other : Nat) : Bool := decide (stepR rules one (stepR rules other x) ≠ stepR rules other (stepR rules one x))
def cl2 (rules : List (List Nat)) (x one : Nat) : Option (Nat × Nat) := ((List.range' (one + 1) (rules.length - (one + 1))).find? (bad rules x one)).map fun o => (one, o)
def cl1 (rules : List (List Nat)) (x : Nat) : Option (Nat × Nat) := (List.range rules.length).findSome? (cl2 rules x)
def clE (rules : List (List Nat)) (e : En) : Option (List Nat × Nat × Nat) := (cl1 rules e.1).map fun p => (e.2, p.1, p.2)
def clash (b s : Nat) (rules : List (List Nat)) : Option (List Nat × Nat × Nat) := (fin b s rules).findSome? (clE rules)
theorem cl1_none {x : Nat} (h : cl1 rules x = none) : Com rules x := by
  have key : ∀ one other, one < other → other < rules.length → stepR rules one (stepR rules other x) = stepR rules other (stepR rules one x) := fun one other h1 h2 => by
    have := List.findSome?_eq_none_iff.mp h one (List.mem_range.mpr (by omega))
    unfold cl2 at this
    rw [Option.map_eq_none_iff, List.find?_eq_none] at this
    have := this other (List.mem_range'_1.mpr ⟨by omega, by omega⟩)
    unfold bad at this
    simpa using this
  intro d e hd he
  rcases Nat.lt_trichotomy d e with c | c | c
  · exact key d e c he
  · subst c; rfl
  · exact (key e d c hd).symm
theorem cl1_some {x : Nat} {p : Nat × Nat} (h : cl1 rules x = some p) : p.1 < p.2 ∧ p.2 < rules.length ∧ stepR rules p.1 (stepR rules p.2 x) ≠ stepR rules p.2 (stepR rules p.1 x) := by
  obtain ⟨one, h1, h2⟩ := List.exists_of_findSome?_eq_some h
  unfold cl2 at h2
  obtain ⟨o, h3, rfl⟩ := Option.map_eq_some_iff.mp h2
  have h4 := List.mem_range'_1.mp (List.mem_of_find?_eq_some h3)
  have h5 := List.find?_some h3
  unfold bad at h5
  exact ⟨by show one < o; omega, by show o < rules.length; omega, by simpa using h5⟩
theorem clash_none (hm : MOk b s rules) (h : clash b s rules = none) : Free rules s := fun w hw => by
  have := fin_all hm w hw s fin_start
  obtain ⟨e, he, e1⟩ := List.mem_map.mp this
  have := List.findSome?_eq_none_iff.mp h e he
  unfold clE at this
  rw [Option.map_eq_none_iff] at this
  rw [← e1]; exact cl1_none this
theorem clash_some (hm : MOk b s rules) {c : List Nat × Nat × Nat} (h : clash b s rules = some c) : c.1.length < b ∧ (∀ d ∈ c.1, d < rules.length) ∧ c.2.1 < c.2.2 ∧ c.2.2 < rules.length ∧ stepR rules c.2.1 (stepR rules c.2.2 (runR rules s c.1)) ≠ stepR rules c.2.2 (stepR rules c.2.1 (runR rules s c.1)) := by
  obtain ⟨e, he, h1⟩ := List.exists_of_findSome?_eq_some h
  unfold clE at h1
  obtain ⟨p, hp, rfl⟩ := Option.map_eq_some_iff.mp h1
  have hf := fin_ok (rules := rules) hm
  obtain ⟨h2, h3, h4⟩ := hf.lt e he
  obtain ⟨i, hi⟩ := List.getElem?_of_mem he
  have h5 := hf.sh i e hi
  have h6 := (List.getElem?_eq_some_iff.mp hi).1
  have h7 := hf.len
  have h8 := cl1_some hp
  refine ⟨by show e.2.length < b; omega, h4, h8.1, h8.2.1, ?_⟩
  show stepR rules p.1 (stepR rules p.2 (runR rules s e.2)) ≠ stepR rules p.2 (stepR rules p.1 (runR rules s e.2))
  rw [h3]; exact h8.2.2
/-- the first entry is the start -/
theorem clash_first (hm : MOk b s rules) {c : List Nat × Nat × Nat} (h : clash b s rules = some c) (hl : c.1 ≠ []) : Com rules s := by
  obtain ⟨T, hT⟩ := bfs_pre (rules := rules) b 0 (E0 s)
  unfold clash fin at h
  rw [hT] at h
  change List.findSome? (clE rules) ((s, []) :: T) = some c at h
  rw [List.findSome?_cons] at h
  cases e : clE rules (s, []) with
  | none =>
    unfold clE at e
    rw [Option.map_eq_none_iff] at e
    exact cl1_none e
  | some x =>
    rw [e] at h
    unfold clE at e
    obtain ⟨p, _, rfl⟩ := Option.map_eq_some_iff.mp e
    injection h with h
    exact absurd (by rw [← h]) hl
/-! the law's way: level by level -/
def seq (rules : List (List Nat)) : Nat → Nat → List En → Option (List Nat × Nat × Nat)
  | 0, _, _ => none
  | f + 1, k, E => match E[k]? with
    | some e => match clE rules e with
      | some c => some c
      | none => seq rules f (k + 1) (expd rules e E)
    | none => none
theorem seq_bfs (hm : MOk b s rules) : ∀ (f k : Nat) {E : List En}, EOk b s rules E → b ≤ f + k → seq rules f k E = ((bfs rules f k E).drop k).findSome? (clE rules)
  | 0, k, E, h, hf => by
    show none = (E.drop k).findSome? _
    have := h.len
    rw [List.drop_eq_nil_of_le (by omega)]; rfl
  | f + 1, k, E, h, hf => by
    unfold seq bfs
    cases hx : E[k]? with
    | none =>
      simp only
      have := List.getElem?_eq_none_iff.mp hx
      rw [List.drop_eq_nil_of_le this]; rfl
    | some e =>
      simp only
      have hk := (List.getElem?_eq_some_iff.mp hx).1
      obtain ⟨T, hT⟩ := expN_pre (rules := rules) e E rules.length
      obtain ⟨U, hU⟩ := bfs_pre (rules := rules) f (k + 1) (expd rules e E)
      have hg : (bfs rules f (k + 1) (expd rules e E))[k]? = some e := by
        rw [hU]
        unfold expd
        rw [hT, List.append_assoc, List.getElem?_append_left hk, hx]
      rw [List.drop_eq_getElem_cons (List.getElem?_eq_some_iff.mp hg).1, (List.getElem?_eq_some_iff.mp hg).2, List.findSome?_cons, seq_bfs hm f (k + 1) (expd_ok hm h hx) (by omega)]
      cases clE rules e <;> rfl
theorem clash_seq (hm : MOk b s rules) : clash b s rules = seq rules b 0 (E0 s) := by
  rw [seq_bfs hm b 0 (E0_ok hm) (by omega)]; rfl
def lev (rules : List (List Nat)) : List En → List En → (List Nat × Nat × Nat) ⊕ List En
  | [], E => .inr E
  | e :: L, E => match clE rules e with
    | some c => .inl c
    | none => lev rules L (expd rules e E)
def lawR (rules : List (List Nat)) : Nat → List En → List En → Option (List Nat × Nat × Nat)
  | 0, _, _ => none
  | t + 1, L, E => match lev rules L E with
    | .inl c => some c
    | .inr E' => lawR rules t (E'.drop E.length) E'
theorem lev_seq (hm : MOk b s rules) : ∀ (L : List En) {E R : List En} {f k : Nat}, EOk b s rules E → E.drop k = L ++ R → L.length ≤ f → (match lev rules L E with
    | .inl c => seq rules f k E = some c
    | .inr E' => seq rules f k E = seq rules (f - L.length) (k + L.length) E' ∧ EOk b s rules E' ∧ ∃ T, E' = E ++ T)
  | [], E, R, f, k, h, _, _ => ⟨rfl, h, [], by simp⟩
  | e :: L, E, R, f, k, h, hd, hf => by
    obtain ⟨g, rfl⟩ : ∃ g, f = g + 1 := ⟨f - 1, by simp at hf; omega⟩
    have hx : E[k]? = some e := by
      have : (E.drop k)[0]? = some e := by rw [hd]; rfl
      rwa [List.getElem?_drop] at this
    have hk := (List.getElem?_eq_some_iff.mp hx).1
    unfold lev
    have es : seq rules (g + 1) k E = match clE rules e with
      | some c => some c
      | none => seq rules g (k + 1) (expd rules e E) := by
      show (match E[k]? with | some e => _ | none => none) = _
      rw [hx]
    rw [es]
    cases hc : clE rules e with
    | some c => simp only
    | none =>
      simp only
      obtain ⟨T, hT⟩ := expN_pre (rules := rules) e E rules.length
      have hd2 : (expd rules e E).drop (k + 1) = L ++ (R ++ T) := by
        unfold expd
        rw [hT, List.drop_append_of_le_length (by omega), ← List.append_assoc]
        congr 1
        rw [show k + 1 = k + 1 from rfl, ← List.drop_drop, hd]; rfl
      have ih := lev_seq hm L (f := g) (k := k + 1) (expd_ok hm h hx) hd2 (by simpa using hf)
      split at ih
      · rename_i c ec; exact ih
      · rename_i E' ec
        obtain ⟨i1, i2, V, hV⟩ := ih
        refine ⟨?_, i2, T ++ V, ?_⟩
        · rw [i1]
          congr 1
          · simp
          · simp; omega
        · rw [hV]; unfold expd; rw [hT, List.append_assoc]
theorem law_nil (E : List En) : ∀ t, lawR rules t [] E = none
  | 0 => rfl
  | t + 1 => by
    show lawR rules t (E.drop E.length) E = none
    rw [List.drop_eq_nil_of_le (Nat.le_refl _)]
    exact law_nil E t
theorem seq_end (E : List En) : ∀ f, seq rules f E.length E = none
  | 0 => rfl
  | f + 1 => by
    show (match E[E.length]? with | some e => _ | none => none) = none
    rw [List.getElem?_eq_none (Nat.le_refl _)]
theorem law_seq (hm : MOk b s rules) : ∀ (t : Nat) {E : List En} {f k : Nat}, EOk b s rules E → k ≤ E.length → b ≤ t + k → b ≤ f + k → lawR rules t (E.drop k) E = seq rules f k E
  | 0, E, f, k, h, hk, ht, hf => by
    have := h.len
    cases f with
    | zero => rfl
    | succ f =>
      show none = match E[k]? with | some e => _ | none => none
      rw [List.getElem?_eq_none (by omega)]
  | t + 1, E, f, k, h, hk, ht, hf => by
    unfold lawR
    have hl : (E.drop k).length = E.length - k := List.length_drop ..
    have hb := h.len
    have := lev_seq hm (E.drop k) (R := []) (f := f) (k := k) h (by simp) (by omega)
    split at this
    · rename_i c ec; exact this.symm
    · rename_i E' ec
      obtain ⟨i1, i2, T, hT⟩ := this
      rw [i1, hl]
      have hkl : k + (E.length - k) = E.length := by omega
      rw [hkl]
      have hE' : E.length ≤ E'.length := by rw [hT, List.length_append]; omega
      by_cases c : k = E.length
      · have hd : E.drop k = [] := List.drop_eq_nil_of_le (by omega)
        rw [hd] at ec
        injection ec with ec
        subst ec
        rw [List.drop_eq_nil_of_le (Nat.le_refl _), law_nil, seq_end]
      · exact law_seq hm t i2 hE' (by omega) (by omega)
theorem clash_law (hm : MOk b s rules) : lawR rules b (E0 s) (E0 s) = clash b s rules := by
  rw [clash_seq hm]
  exact law_seq hm b (E := E0 s) (k := 0) (E0_ok hm) (by simp) (by omega) (by omega)
end K44

set_option Elab.async false
set_option linter.all false
set_option maxRecDepth 100000
set_option maxHeartbeats 2000000
/-! The law's helpers: boards, counts, tables, histories. -/
namespace K44
open PySem PySem.Spec PyProof.Rows L2 Eng
variable {L n : Nat} {m : Mem}
theorem flat_rep : ∀ k : Nat, (List.replicate k [PyData.int 0]).flatten = List.replicate k (PyData.int ((0 : Nat) : Int))
  | 0 => rfl
  | k + 1 => by rw [List.replicate_succ, List.replicate_succ, List.flatten_cons, flat_rep k]; rfl
theorem board_ok {b s k : Nat} {rules : List (List Nat)} {h : Hi} {v : List Nat} (t : Bool) (hm : MOk b s rules) (ho : HOk k rules.length h) (hv : v.length = k) (hk : k ≤ 1000) (hh : h.length ≤ 1000) : callN L P (n + 1) 17 [.dat (mD true s rules), .dat (mkS t (hDl h)), .dat (tI v)] m = .ok (.dat (.int (board s rules h v))) m := by
  rw [call_eq P__law_board rfl]
  have := forGo_inv (body := fun σ m => evSs L (callN L P n) b__law_board_1 σ m) (tg := .tp [.nm 5, .nm 6]) (hDl h) (fun i σ m' => m' = m ∧ (replay rules (h.take i) (s, v)).1 < b ∧ ∃ s5 s6, σ = [.v (.dat (mD true s rules)), .v (.dat (mkS t (hDl h))), .v (.dat (tI v)), .v (.dat (.int (replay rules (h.take i) (s, v)).1)), .own (iD (cnts k (h.take i))), s5, s6])
    (fun i e σ m' he ⟨hmm, hb, s5, s6, hσ⟩ => by
      subst hmm hσ
      unfold hDl at he
      rw [List.getElem?_map, Option.map_eq_some_iff] at he
      obtain ⟨⟨a, d⟩, hp, rfl⟩ := he
      have hpo := ho _ (List.mem_of_getElem? hp)
      have ea : a < k := hpo.1
      have ed : d < rules.length := hpo.2
      have hleft := replay_left rules a (h.take i) (s, v)
      rw [take_snoc hp, replay_app, cnts_bump _ ea]
      have hc0 : (cnts k (h.take i)).getD a 0 = cnt (h.take i) a := cnts_at _ ea
      generalize replay rules (h.take i) (s, v) = st at hb hleft
      obtain ⟨x, left⟩ := st
      simp only at hb hleft
      have hal : a < (cnts k (h.take i)).length := by rw [cnts_len]; exact ea
      have hav : a < v.length := by omega
      have e1 : ixVal (.list (iD (cnts k (h.take i)))) (.int a) = some (.int ((cnts k (h.take i)).getD a 0 : Nat)) := iD_at hal
      have e0 : ixVal (tI v) (.int a) = some (.int (v.getD a 0 : Nat)) := iD_at hav
      obtain ⟨r, hr⟩ : ∃ r, rules[d]? = some r := ⟨_, List.getElem?_eq_getElem ed⟩
      have hrb := hm.each r (List.mem_of_getElem? hr)
      have e2 : ixVal (mD true s rules) (.int 1) = some (.tuple (rD rules)) := rfl
      have e3 : ixVal (.tuple (rD rules)) (.int d) = some (tI r) := atI_nat (by unfold rD; rw [List.getElem?_map, hr]; rfl)
      have hxr : x < r.length := by rw [hrb.1]; exact hb
      have er : stepR rules d x = r.getD x 0 := by unfold stepR; rw [show rules.getD d [] = r by rw [List.getD_eq_getElem?_getD, hr]; rfl]
      have e4 : ixVal (tI r) (.int x) = some (.int (stepR rules d x : Nat)) := by rw [er]; exact iD_at hxr
      have hrx : stepR rules d x < b := by
        rw [er, List.getD_eq_getElem?_getD, List.getElem?_eq_getElem hxr]
        exact hrb.2 _ (List.getElem_mem hxr)
      have e5 : (((cnts k (h.take i)).getD a 0 + 1 : Nat) : Int) = (((cnts k (h.take i)).getD a 0 : Nat) : Int) + 1 := by omega
      have e6 := fun σ : Eng.Env => setO_ok (m := m') (σ := σ) (i := 4) (xs := iD (cnts k (h.take i))) (a := a) (d := .int ((((cnts k (h.take i)).getD a 0 : Nat) : Int) + 1)) (by rw [iD_len]; exact hal)
      unfold bump
      by_cases hz : 0 < left.getD a 0
      · have est : (replay rules [(a, d)] (x, left)).1 = stepR rules d x := by
          show (rstep rules (x, left) (a, d)).1 = _
          rw [rstep_pos hz]
        have hlt : (cnts k (h.take i)).getD a 0 < v.getD a 0 := by rw [hc0]; omega
        rw [est]
        refine ⟨[.v (.dat (mD true s rules)), .v (.dat (mkS t (hDl h))), .v (.dat (tI v)), .v (.dat (.int x)), .own (iD (cnts k (h.take i))), .v (.dat (.int a)), .v (.dat (.int d))], [.v (.dat (mD true s rules)), .v (.dat (mkS t (hDl h))), .v (.dat (tI v)), .v (.dat (.int (stepR rules d x : Nat))), .own (iD ((cnts k (h.take i)).set a ((cnts k (h.take i)).getD a 0 + 1))), .v (.dat (.int a)), .v (.dat (.int d))], _, rfl, ?_, rfl, hrx, _, _, rfl⟩
        rw [← iD_set, e5]
        clear e5 hp hpo hleft hz
        generalize (cnts k (h.take i)).getD a 0 = c0 at *
        generalize v.getD a 0 = v0 at *
        generalize iD (cnts k (h.take i)) = O at *
        generalize mD true s rules = M at *
        generalize mkS t (hDl h) = Hd at *
        generalize tI v = V at *
        generalize stepR rules d x = y at *
        simp [b__law_board_1, e0, e1, e2, e3, e4, e6, hlt]
      · have est : (replay rules [(a, d)] (x, left)).1 = x := by
          show (rstep rules (x, left) (a, d)).1 = _
          rw [rstep_neg (by show left.getD a 0 = 0; omega)]
        have hlt : ¬ (cnts k (h.take i)).getD a 0 < v.getD a 0 := by rw [hc0]; omega
        rw [est]
        refine ⟨[.v (.dat (mD true s rules)), .v (.dat (mkS t (hDl h))), .v (.dat (tI v)), .v (.dat (.int x)), .own (iD (cnts k (h.take i))), .v (.dat (.int a)), .v (.dat (.int d))], [.v (.dat (mD true s rules)), .v (.dat (mkS t (hDl h))), .v (.dat (tI v)), .v (.dat (.int x)), .own (iD ((cnts k (h.take i)).set a ((cnts k (h.take i)).getD a 0 + 1))), .v (.dat (.int a)), .v (.dat (.int d))], _, rfl, ?_, rfl, hb, _, _, rfl⟩
        rw [← iD_set, e5]
        clear e5 hp hpo hleft hz
        generalize (cnts k (h.take i)).getD a 0 = c0 at *
        generalize v.getD a 0 = v0 at *
        generalize iD (cnts k (h.take i)) = O at *
        generalize mD true s rules = M at *
        generalize mkS t (hDl h) = Hd at *
        generalize tI v = V at *
        simp [b__law_board_1, e0, e1, e6, hlt])
    (m := m) (σ := [.v (.dat (mD true s rules)), .v (.dat (mkS t (hDl h))), .v (.dat (tI v)), .v (.dat (.int s)), .own (iD (cnts k [])), .no, .no]) ⟨rfl, hm.sb, .no, .no, rfl⟩
  obtain ⟨σ', m', h1, rfl, _, s5, s6, rfl⟩ := this
  rw [hDl_len, List.take_length] at h1
  have loop : evS L (callN L P n) l__law_board_1 [.v (.dat (mD true s rules)), .v (.dat (mkS t (hDl h))), .v (.dat (tI v)), .v (.dat (.int s)), .own (iD (cnts k [])), .no, .no] m' = .ok (.nx, [.v (.dat (mD true s rules)), .v (.dat (mkS t (hDl h))), .v (.dat (tI v)), .v (.dat (.int (board s rules h v))), .own (iD (cnts k h)), s5, s6]) m' := by
    show evS L _ (.for_ _ _ _) _ _ = _
    simp only [s_forE, it_seq, ev_var, getV, List.getElem?_cons_zero, List.getElem?_cons_succ, R.bind_ok, seq_S]
    exact h1
  have e1 : ixVal (mD true s rules) (.int 0) = some (.int s) := rfl
  have e2 : lmulV (.list [.int 0]) (.int (k : Int)) = some (.list (iD (cnts k []))) := by
    have : lmulV (.list [.int 0]) (.int (k : Int)) = some (.list (List.replicate (k : Int).toNat [PyData.int 0]).flatten) := if_pos ⟨by omega, by omega, by rw [sizeLine_eq]; show 1 * k ≤ _; omega⟩
    rw [this, Int.toNat_natCast, cnts_nil]
    congr 2
    unfold iD
    rw [List.map_replicate]
    exact flat_rep k
  have e3 : b1Val .len (tI v) = some (.int (k : Nat)) := by rw [← hv]; show some (PyData.int ((iD v).length : Nat)) = _; rw [iD_len]
  generalize mD true s rules = M at *
  generalize mkS t (hDl h) = Hd at *
  generalize tI v = V at *
  simp [d__law_board, e1, e2, e3, loop]
theorem counts_ok {k : Nat} {h : Hi} (t : Bool) (hk : k ≤ 1000) (hl : h.length ≤ 1000) : callN L P (n + 1) 16 [.dat (.int k), .dat (mkS t (hDl h))] m = .ok (.dat (tI (cnts k h))) m := by
  rw [call_eq P__law_counts rfl]
  generalize hH : mkS t (hDl h) = Hd
  have hq : ∀ m : Mem, seqU (.dat Hd) m = .ok (hDl h) m := fun m => by rw [← hH]; exact seq_S ..
  have inner : ∀ i : Nat, evE (callN L P n) c__law_counts_1 [.v (.dat (.int k)), .v (.dat Hd), .v (.dat (.int i)), .no, .no] m = .ok (.dat (.list ((h.filter fun p => p.1 == i).map fun _ => .int 1))) m := fun i => by
    refine ev_compF (l := h) (g := pD) (f := fun _ => .int 1) (p := fun p => p.1 == i) rfl (by simp [hq, hDl]) hl fun p hp => ?_
    refine ⟨_, rfl, ?_, fun _ => by simp [e__law_counts_1]⟩
    have : decide ((p.1 : Int) = (i : Int)) = (p.1 == i) := by rw [Bool.eq_iff_iff, beq_iff_eq, decide_eq_true_eq]; omega
    simp [t__law_counts_1, pD, this]
  have key : evE (callN L P n) c__law_counts_2 [.v (.dat (.int k)), .v (.dat Hd), .no, .no, .no] m = .ok (.dat (.list (iD (cnts k h)))) m := by
    have := ev_compM (C := callN L P n) (elt := e__law_counts_2) (tg := .nm 2) (it := .rng1 (.var 0)) (own := [("_law_hand", 2)]) (σ := [.v (.dat (.int k)), .v (.dat Hd), .no, .no, .no]) (m := m) (l := List.range k) (g := fun (x : Nat) => .int (x : Int)) (f := fun x => .int (cnt h x : Nat)) (by simp [rng1_nat (show k ≤ 100000 by omega), rng0]) (by rw [List.length_range]; exact hk) fun i hi => ?_
    · rw [show iD (cnts k h) = (List.range k).map fun x => PyData.int (cnt h x : Nat) by unfold iD cnts; rw [List.map_map]; rfl]
      exact this
    · refine ⟨_, rfl, ?_⟩
      have q := inner i
      simp [e__law_counts_2, bA_c__law_counts_1, q, cnt]
  simp [d__law_counts, bA_c__law_counts_2, key, tI]
def tabT (rules : List (List Nat)) (s : Nat) (cs : List Nat) (h : Hi) : PyData := .tuple [tI cs, tI (tbl rules s cs h)]
theorem table_ok {b s k : Nat} {rules : List (List Nat)} {h : Hi} (t : Bool) (hm : MOk b s rules) (ho : HOk k rules.length h) (hk : k ≤ 4) (hh : h.length ≤ 1000) (hp : prod1 (cnts k h) ≤ 1000) :
    callN L P (n + 2) 19 [.dat (mD true s rules), .dat (.int k), .dat (mkS t (hDl h))] m = .ok (.dat (tabT rules s (cnts k h) h)) m := by
  rw [call_eq P__law_table rfl]
  have k1 := counts_ok (L := L) (n := n) (m := m) (k := k) (h := h) t (by omega) hh
  have hbig : ∀ c ∈ cnts k h, c ≤ 1000 := fun c hc => by
    unfold cnts at hc
    obtain ⟨i, _, rfl⟩ := List.mem_map.mp hc
    unfold cnt
    exact Nat.le_trans (List.length_filter_le _ _) hh
  have k2 := lvectors_ok (L := L) (n := n) (m := m) (cs := cnts k h) (by rw [cnts_len]; exact hk) hbig hp
  have k3 := fun w (hw : w ∈ vecs (cnts k h)) => board_ok (L := L) (n := n) (m := m) (v := w) t hm ho (by rw [vecs_mem_len w hw, cnts_len]) (by omega) hh
  generalize mkS t (hDl h) = Hd at *
  generalize mD true s rules = M at *
  have key : evE (callN L P (n + 1)) c__law_table_1 [.v (.dat M), .v (.dat (.int k)), .v (.dat Hd), .v (.dat (tI (cnts k h))), .no] m = .ok (.dat (.list (iD (tbl rules s (cnts k h) h)))) m := by
    have := ev_compM (C := callN L P (n + 1)) (elt := e__law_table_1) (tg := .nm 4) (it := .seq (.call 18 (.cons (.var 3) .nil))) (own := [("_law_vector", 4)]) (σ := [.v (.dat M), .v (.dat (.int k)), .v (.dat Hd), .v (.dat (tI (cnts k h))), .no]) (m := m) (l := vecs (cnts k h)) (g := tI) (f := fun w => .int (board s rules h w : Nat)) (by simp [k2]) (by rw [vecs_len]; exact hp) fun w hw => ?_
    · rw [show iD (tbl rules s (cnts k h) h) = (vecs (cnts k h)).map fun w => PyData.int (board s rules h w : Nat) by unfold iD tbl; rw [List.map_map]; rfl]
      exact this
    · refine ⟨_, rfl, ?_⟩
      have q := k3 w hw
      generalize tI w = W at *
      simp [e__law_table_1, q]
  unfold tabT
  generalize tI (cnts k h) = Cn at *
  simp [d__law_table, k1, bA_c__law_table_1, key, tI]
end K44

set_option Elab.async false
set_option linter.all false
set_option maxRecDepth 100000
set_option maxHeartbeats 2000000
/-! The law's histories and kinds. -/
namespace K44
open PySem PySem.Spec PyProof.Rows L2 Eng
variable {L n : Nat} {m : Mem}
theorem rng_get {r i : Nat} {d : PyData} (h : (rngD 0 r)[i]? = some d) : i < r ∧ d = .int ((i : Nat) : Int) := by
  unfold rngD at h
  rw [List.getElem?_map, Option.map_eq_some_iff] at h
  obtain ⟨j, hj, rfl⟩ := h
  have hi : i < r := by have := (List.getElem?_eq_some_iff.mp hj).1; rwa [List.length_range] at this
  rw [List.getElem?_range hi] at hj
  cases hj
  exact ⟨hi, by simp⟩
/-- one history longer by each hand that may -/
def ext1 (D K : Nat) (cs : List Nat) (h : Hi) (a : Nat) : List Hi := if (cnts K h).getD a 0 < cs.getD a 0 then (List.range D).map fun d => h ++ [(a, d)] else []
theorem ext1_len (D K : Nat) (cs : List Nat) (h : Hi) (a : Nat) : (ext1 D K cs h a).length ≤ D := by
  unfold ext1
  split
  · rw [List.length_map, List.length_range]; exact Nat.le_refl _
  · exact Nat.zero_le _
theorem range_len_snoc (i : Nat) (f : Nat → List Hi) : (List.range (i + 1)).flatMap f = (List.range i).flatMap f ++ f i := by
  rw [List.range_succ, List.flatMap_append]; simp
theorem hist_in {C : Calls} {D K : Nat} {cs : List Nat} {base : List Hi} {h : Hi} {M : PyData} {u3 u4 : U} {s8 : Sl} (hK : K ≤ 3) (hc : cs.length = K)
    (hM : ∃ xs : List PyData, ixVal M (.int 1) = some (.tuple xs) ∧ xs.length = D) (h3 : D ≤ 3) (hb : base.length ≤ 9000) (hl : h.length ≤ 10) :
    ∃ s8', evS L C l__law_histories_1 [.v (.dat M), .v (.dat (.int K)), .v (.dat (tI cs)), .v u3, .v u4, .v (.dat (.list (hL base))), .v (.dat (hD h)), .v (.dat (tI (cnts K h))), s8, .no] m = .ok (.nx, [.v (.dat M), .v (.dat (.int K)), .v (.dat (tI cs)), .v u3, .v u4, .v (.dat (.list (hL (base ++ (List.range K).flatMap (ext1 D K cs h))))), .v (.dat (hD h)), .v (.dat (tI (cnts K h))), s8', .no]) m := by
  obtain ⟨xs, hx, hxl⟩ := hM
  have hlen : b1Val .len (.tuple xs) = some (.int (D : Nat)) := by rw [← hxl]; rfl
  have := forGo_inv (body := fun σ m => evSs L C b__law_histories_1 σ m) (tg := .nm 8) (rngD 0 K) (fun i σ m' => m' = m ∧ ∃ s8, σ = [.v (.dat M), .v (.dat (.int K)), .v (.dat (tI cs)), .v u3, .v u4, .v (.dat (.list (hL (base ++ (List.range i).flatMap (ext1 D K cs h))))), .v (.dat (hD h)), .v (.dat (tI (cnts K h))), s8, .no])
    (fun i e σ m' he ⟨hmm, s8, hσ⟩ => by
      subst hmm hσ
      obtain ⟨hi, rfl⟩ := rng_get he
      have e1 : ixVal (tI (cnts K h)) (.int (i : Nat)) = some (.int ((cnts K h).getD i 0 : Nat)) := iD_at (by rw [cnts_len]; exact hi)
      have e2 : ixVal (tI cs) (.int (i : Nat)) = some (.int (cs.getD i 0 : Nat)) := iD_at (by omega)
      rw [range_len_snoc, ← List.append_assoc]
      have hbl : (base ++ (List.range i).flatMap (ext1 D K cs h)).length ≤ 9100 := by
        rw [List.length_append]
        have := fm_le (ext1 D K cs h) 3 (List.range i) fun a _ => Nat.le_trans (ext1_len ..) h3
        rw [List.length_range] at this
        omega
      generalize base ++ (List.range i).flatMap (ext1 D K cs h) = B at *
      refine ⟨[.v (.dat M), .v (.dat (.int K)), .v (.dat (tI cs)), .v u3, .v u4, .v (.dat (.list (hL B))), .v (.dat (hD h)), .v (.dat (tI (cnts K h))), .v (.dat (.int (i : Nat))), .no], [.v (.dat M), .v (.dat (.int K)), .v (.dat (tI cs)), .v u3, .v u4, .v (.dat (.list (hL (B ++ ext1 D K cs h i)))), .v (.dat (hD h)), .v (.dat (tI (cnts K h))), .v (.dat (.int (i : Nat))), .no], m', rfl, ?_, rfl, _, rfl⟩
      by_cases c : (cnts K h).getD i 0 < cs.getD i 0
      · have key : evE C c__law_histories_1 [.v (.dat M), .v (.dat (.int K)), .v (.dat (tI cs)), .v u3, .v u4, .v (.dat (.list (hL B))), .v (.dat (hD h)), .v (.dat (tI (cnts K h))), .v (.dat (.int (i : Nat))), .no] m' = .ok (.dat (.list (hL (ext1 D K cs h i)))) m' := by
          have := ev_compM (C := C) (elt := e__law_histories_1) (tg := .nm 9) (it := .rng1 (.b1 .len (.ix (.var 0) (.cst (.int 1))))) (own := [("_law_deed", 9)]) (σ := [.v (.dat M), .v (.dat (.int K)), .v (.dat (tI cs)), .v u3, .v u4, .v (.dat (.list (hL B))), .v (.dat (hD h)), .v (.dat (tI (cnts K h))), .v (.dat (.int (i : Nat))), .no]) (m := m') (l := List.range D) (g := fun (x : Nat) => .int (x : Int)) (f := fun d => hD (h ++ [(i, d)])) (by simp [hx, hlen, rng1_nat (show D ≤ 100000 by omega), rng0]) (by rw [List.length_range]; omega) fun d hd => ?_
          · unfold ext1 hL
            rw [if_pos c, List.map_map]
            exact this
          · refine ⟨_, rfl, ?_⟩
            have q := snocH_ok h i d (by omega)
            generalize hD h = Hd at *
            generalize tI cs = Cs at *
            generalize tI (cnts K h) = Cn at *
            generalize hD (h ++ [(i, d)]) = Hn at *
            simp [e__law_histories_1, q]
        have ha : binVal .add (.list (hL B)) (.list (hL (ext1 D K cs h i))) = some (.list (hL (B ++ ext1 D K cs h i))) := by
          rw [hL_app]
          refine if_pos ?_
          rw [hL_len, hL_len, sizeLine_eq]
          have := ext1_len D K cs h i
          omega
        generalize hL (B ++ ext1 D K cs h i) = X1 at *
        generalize hL (ext1 D K cs h i) = X2 at *
        generalize hL B = X3 at *
        generalize (cnts K h).getD i 0 = c0 at *
        generalize cs.getD i 0 = c1 at *
        generalize tI (cnts K h) = Cn at *
        generalize tI cs = Cs at *
        generalize hD h = Hd at *
        simp [b__law_histories_1, e1, e2, c, bA_c__law_histories_1, key, ha]
      · have hz : ext1 D K cs h i = [] := if_neg c
        rw [hz, List.append_nil]
        generalize (cnts K h).getD i 0 = c0 at *
        generalize cs.getD i 0 = c1 at *
        generalize tI (cnts K h) = Cn at *
        generalize tI cs = Cs at *
        generalize hD h = Hd at *
        simp [b__law_histories_1, e1, e2, c])
    (m := m) (σ := [.v (.dat M), .v (.dat (.int K)), .v (.dat (tI cs)), .v u3, .v u4, .v (.dat (.list (hL base))), .v (.dat (hD h)), .v (.dat (tI (cnts K h))), s8, .no]) ⟨rfl, s8, by simp⟩
  obtain ⟨σ', m', h1, rfl, s8', rfl⟩ := this
  rw [rng_len] at h1
  refine ⟨s8', ?_⟩
  show evS L C (.for_ _ _ _) _ _ = _
  simp only [s_forE, it_rng1, ev_var, getV, List.getElem?_cons_zero, List.getElem?_cons_succ, R.bind_ok, asInt, rng1_nat (show K ≤ 100000 by omega)]
  exact h1
theorem extG_eq (D K : Nat) (cs : List Nat) (F : List Hi) : extG D K cs F = F.flatMap fun h => (List.range K).flatMap (ext1 D K cs h) := rfl
theorem hist_mid {D K : Nat} {cs : List Nat} {F : List Hi} {M : PyData} {u4 : U} {s6 s7 s8 : Sl} (hK : K ≤ 3) (hc : cs.length = K) (hM : ∃ xs : List PyData, ixVal M (.int 1) = some (.tuple xs) ∧ xs.length = D) (h3 : D ≤ 3) (hF : F.length ≤ 900) (hl : ∀ h ∈ F, h.length ≤ 10) :
    ∃ s6' s7' s8', evS L (callN L P (n + 1)) l__law_histories_2 [.v (.dat M), .v (.dat (.int K)), .v (.dat (tI cs)), .v (.dat (.list (hL F))), .v u4, .v (.dat (.list [])), s6, s7, s8, .no] m = .ok (.nx, [.v (.dat M), .v (.dat (.int K)), .v (.dat (tI cs)), .v (.dat (.list (hL F))), .v u4, .v (.dat (.list (hL (extG D K cs F)))), s6', s7', s8', .no]) m := by
  have := forGo_inv (body := fun σ m => evSs L (callN L P (n + 1)) b__law_histories_2 σ m) (tg := .nm 6) (hL F) (fun i σ m' => m' = m ∧ ∃ s6 s7 s8, σ = [.v (.dat M), .v (.dat (.int K)), .v (.dat (tI cs)), .v (.dat (.list (hL F))), .v u4, .v (.dat (.list (hL (extG D K cs (F.take i))))), s6, s7, s8, .no])
    (fun i e σ m' he ⟨hmm, s6, s7, s8, hσ⟩ => by
      subst hmm hσ
      unfold hL at he
      rw [List.getElem?_map, Option.map_eq_some_iff] at he
      obtain ⟨h, hh, rfl⟩ := he
      have hm := List.mem_of_getElem? hh
      have hi := (List.getElem?_eq_some_iff.mp hh).1
      have e1 : extG D K cs (F.take (i + 1)) = extG D K cs (F.take i) ++ (List.range K).flatMap (ext1 D K cs h) := by
        rw [take_snoc hh, extG_eq, List.flatMap_append, ← extG_eq]; simp
      have hb : (extG D K cs (F.take i)).length ≤ 9000 := by
        have := fm_le (fun h => (List.range K).flatMap (ext1 D K cs h)) 9 (F.take i) fun g _ => by
          have := fm_le (ext1 D K cs g) 3 (List.range K) fun a _ => Nat.le_trans (ext1_len ..) h3
          rw [List.length_range] at this
          omega
        rw [List.length_take] at this
        rw [extG_eq]; omega
      have k1 := counts_ok (L := L) (n := n) (m := m') (k := K) (h := h) true (by omega) (by have := hl h hm; omega)
      obtain ⟨s8', k2⟩ := hist_in (L := L) (C := callN L P (n + 1)) (m := m') (D := D) (K := K) (cs := cs) (base := extG D K cs (F.take i)) (h := h) (M := M) (u3 := .dat (.list (hL F))) (u4 := u4) (s8 := s8) hK hc hM h3 hb (hl h hm)
      rw [e1]
      refine ⟨[.v (.dat M), .v (.dat (.int K)), .v (.dat (tI cs)), .v (.dat (.list (hL F))), .v u4, .v (.dat (.list (hL (extG D K cs (F.take i))))), .v (.dat (hD h)), s7, s8, .no], [.v (.dat M), .v (.dat (.int K)), .v (.dat (tI cs)), .v (.dat (.list (hL F))), .v u4, .v (.dat (.list (hL (extG D K cs (F.take i) ++ (List.range K).flatMap (ext1 D K cs h))))), .v (.dat (hD h)), .v (.dat (tI (cnts K h))), s8', .no], m', rfl, ?_, rfl, _, _, _, rfl⟩
      have k1' : callN L P (n + 1) 16 [.dat (.int K), .dat (hD h)] m' = .ok (.dat (tI (cnts K h))) m' := k1
      simp only [b__law_histories_2, s_cons, s_asgE, ev_call, ev_cons, ev_nil, ev_var, getV, setE, R.bind_ok, List.getElem?_cons_zero, List.getElem?_cons_succ, k1', List.length_cons, List.length_nil]
      simp only [Nat.reduceAdd, Nat.reduceLT, if_true, R.bind_ok, then_nx, s_cons, List.set_cons_succ, List.set_cons_zero, k2, s_nil])
    (m := m) (σ := [.v (.dat M), .v (.dat (.int K)), .v (.dat (tI cs)), .v (.dat (.list (hL F))), .v u4, .v (.dat (.list [])), s6, s7, s8, .no]) ⟨rfl, s6, s7, s8, rfl⟩
  obtain ⟨σ', m', h1, rfl, s6', s7', s8', rfl⟩ := this
  rw [hL_len, List.take_length] at h1
  refine ⟨s6', s7', s8', ?_⟩
  show evS L _ (.for_ _ _ _) _ _ = _
  simp only [s_forE, it_seq, ev_var, getV, List.getElem?_cons_zero, List.getElem?_cons_succ, R.bind_ok, seqU_list]
  exact h1
theorem histories_ok {D K : Nat} {cs : List Nat} {M : PyData} (hK : K ≤ 3) (hc : cs.length = K) (hM : ∃ xs : List PyData, ixVal M (.int 1) = some (.tuple xs) ∧ xs.length = D) (h3 : D ≤ 3) (hs : cs.sum ≤ 3) (hb : ∀ t, t ≤ cs.sum → (K * D) ^ t ≤ 900) :
    callN L P (n + 2) 20 [.dat M, .dat (.int K), .dat (tI cs)] m = .ok (.dat (.list (hL (hgo D K cs cs.sum)))) m := by
  rw [call_eq P__law_histories rfl]
  have := forGo_inv (body := fun σ m => evSs L (callN L P (n + 1)) b__law_histories_3 σ m) (tg := .nm 4) (rngD 0 cs.sum) (fun i σ m' => m' = m ∧ ∃ s4 s5 s6 s7 s8, σ = [.v (.dat M), .v (.dat (.int K)), .v (.dat (tI cs)), .v (.dat (.list (hL (hgo D K cs i)))), s4, s5, s6, s7, s8, .no])
    (fun i e σ m' he ⟨hmm, s4, s5, s6, s7, s8, hσ⟩ => by
      subst hmm hσ
      obtain ⟨hi, rfl⟩ := rng_get he
      obtain ⟨s6', s7', s8', k⟩ := hist_mid (L := L) (n := n) (m := m') (D := D) (K := K) (cs := cs) (F := hgo D K cs i) (M := M) (u4 := .dat (.int (i : Nat))) (s6 := s6) (s7 := s7) (s8 := s8) hK hc hM h3 (Nat.le_trans (hgo_len i) (hb i (by omega))) fun h hh => by have := (hgo_mem.mp hh).1; omega
      refine ⟨[.v (.dat M), .v (.dat (.int K)), .v (.dat (tI cs)), .v (.dat (.list (hL (hgo D K cs i)))), .v (.dat (.int (i : Nat))), s5, s6, s7, s8, .no], [.v (.dat M), .v (.dat (.int K)), .v (.dat (tI cs)), .v (.dat (.list (hL (hgo D K cs (i + 1))))), .v (.dat (.int (i : Nat))), .v (.dat (.list (hL (hgo D K cs (i + 1))))), s6', s7', s8', .no], m', rfl, ?_, rfl, _, _, _, _, _, rfl⟩
      have e1 : hgo D K cs (i + 1) = extG D K cs (hgo D K cs i) := rfl
      rw [e1]
      generalize hL (extG D K cs (hgo D K cs i)) = X1 at *
      generalize hL (hgo D K cs i) = X2 at *
      generalize tI cs = Cs at *
      simp [b__law_histories_3, k])
    (m := m) (σ := [.v (.dat M), .v (.dat (.int K)), .v (.dat (tI cs)), .v (.dat (.list (hL [[]]))), .no, .no, .no, .no, .no, .no]) ⟨rfl, .no, .no, .no, .no, .no, rfl⟩
  obtain ⟨σ', m', h1, rfl, s4, s5, s6, s7, s8, rfl⟩ := this
  rw [rng_len] at h1
  have loop : evS L (callN L P (n + 1)) l__law_histories_3 [.v (.dat M), .v (.dat (.int K)), .v (.dat (tI cs)), .v (.dat (.list (hL [[]]))), .no, .no, .no, .no, .no, .no] m' = .ok (.nx, [.v (.dat M), .v (.dat (.int K)), .v (.dat (tI cs)), .v (.dat (.list (hL (hgo D K cs cs.sum)))), s4, s5, s6, s7, s8, .no]) m' := by
    show evS L _ (.for_ _ _ _) _ _ = _
    simp only [s_forE, it_rng1, ev_b1, ev_var, getV, List.getElem?_cons_zero, List.getElem?_cons_succ, R.bind_ok, sum_tI, d1_dat, R.dat_some, asInt, bA_var, rng1_nat (show cs.sum ≤ 100000 by omega)]
    exact h1
  generalize hL (hgo D K cs cs.sum) = X1 at *
  generalize tI cs = Cs at *
  have e0 : hL [[]] = [.tuple []] := rfl
  rw [e0] at loop
  simp [d__law_histories, loop]
end K44

set_option Elab.async false
set_option linter.all false
set_option maxRecDepth 100000
set_option maxHeartbeats 2000000
/-! Kinds; rows to all boards; the first clash. -/
namespace K44
open PySem PySem.Spec PyProof.Rows L2 Eng
variable {L n : Nat} {m : Mem}
def keyN (x : Nat) : NestedKey := .num (x : Int)
def keyL (l : List Nat) : NestedKey := .tup (l.map keyN)
def keyT (cs bs : List Nat) : NestedKey := .tup [keyL cs, keyL bs]
theorem nkAll_i : ∀ l : List Nat, L2.nkAll (iD l) = some (l.map keyN)
  | [] => rfl
  | x :: l => by
    have ih := nkAll_i l
    show L2.nkAll (.int (x : Int) :: iD l) = _
    have e : L2.nk (.int (x : Int)) = some (keyN x) := rfl
    simp only [L2.nkAll, e, ih, Option.bind_some, Option.map_some, List.map_cons]
theorem nk_i (l : List Nat) : L2.nk (tI l) = some (keyL l) := by
  show (L2.nkAll (iD l)).map _ = _
  rw [nkAll_i]; rfl
theorem depth_i (l : List Nat) : (keyL l).depth ≤ 1 := by
  show NestedKey.depthAll (l.map keyN) + 1 ≤ 1
  have : ∀ l : List Nat, NestedKey.depthAll (l.map keyN) ≤ 0 := by
    intro l
    induction l with
    | nil => exact Nat.zero_le _
    | cons p l ih =>
      show max (keyN p).depth (NestedKey.depthAll (l.map keyN)) ≤ 0
      have : (keyN p).depth = 0 := rfl
      omega
  have := this l
  omega
theorem keyOf_t (cs bs : List Nat) : L2.keyOfD (.tuple [tI cs, tI bs]) = some (keyT cs bs) := by
  have e : L2.nkAll [tI cs, tI bs] = some [keyL cs, keyL bs] := by
    simp only [L2.nkAll, nk_i, Option.bind_some, Option.map_some]
  show (L2.nkAll [tI cs, tI bs]).bind _ = _
  rw [e, Option.bind_some, if_pos (by
    have h1 := depth_i cs
    have h2 := depth_i bs
    show max (keyL cs).depth (max (keyL bs).depth 0) + 1 ≤ 8
    omega)]; rfl
theorem keyL_inj : ∀ {g h : List Nat}, g.map keyN = h.map keyN → g = h
  | [], [], _ => rfl
  | [], _ :: _, e => by cases e
  | _ :: _, [], e => by cases e
  | x :: g, y :: h, e => by
    have e1 : keyN x = keyN y := (List.cons.inj e).1
    rw [keyL_inj (List.cons.inj e).2]
    unfold keyN at e1
    injection e1 with e1
    congr 1; omega
theorem keyT_inj {cs a c : List Nat} (e : keyT cs a = keyT cs c) : a = c := by
  unfold keyT at e
  injection e with e
  have e2 := (List.cons.inj (List.cons.inj e).2).1
  unfold keyL at e2
  injection e2 with e2
  exact keyL_inj e2
theorem keysD_t (rules : List (List Nat)) (s : Nat) (cs : List Nat) : ∀ l : List Hi, keysD (l.map (tabT rules s cs)) = some (l.map fun h => keyT cs (tbl rules s cs h))
  | [] => rfl
  | h :: l => by
    show (L2.keyOfD (tabT rules s cs h)).bind _ = _
    rw [show L2.keyOfD (tabT rules s cs h) = some (keyT cs (tbl rules s cs h)) from keyOf_t .., Option.bind_some, keysD_t rules s cs l]; rfl
theorem lset_t {rules : List (List Nat)} {s : Nat} {cs : List Nat} {l : List Hi} (h : unl (l.map (tbl rules s cs)) < 63) : lsetV (.list (l.map (tabT rules s cs))) = some (.int (unl (l.map (tbl rules s cs)) : Nat)) := by
  have e : unl (l.map fun h => keyT cs (tbl rules s cs h)) = unl (l.map (tbl rules s cs)) := Nat.le_antisymm (unl_le fun x _ y _ e => by rw [e]) (unl_le fun x _ y _ e => keyT_inj e)
  show (keysD (l.map (tabT rules s cs))).bind _ = _
  rw [keysD_t, Option.bind_some]
  have : (l.map fun h => keyT cs (tbl rules s cs h)).eraseDups.length = unl (l.map (tbl rules s cs)) := e
  rw [this, if_pos h]
theorem prod1_le {cs : List Nat} (hl : cs.length ≤ 3) (hs : cs.sum ≤ 3) : prod1 cs ≤ 64 := by
  match cs, hl with
  | [], _ => decide
  | [a], _ => simp at hs; show 1 * (a + 1) ≤ 64; omega
  | [a, c], _ =>
    simp at hs
    show 1 * (a + 1) * (c + 1) ≤ 64
    rw [Nat.one_mul]
    exact Nat.le_trans (Nat.mul_le_mul (show a + 1 ≤ 4 by omega) (show c + 1 ≤ 4 by omega)) (by decide)
  | [a, c, d], _ =>
    simp at hs
    show 1 * (a + 1) * (c + 1) * (d + 1) ≤ 64
    rw [Nat.one_mul]
    exact Nat.le_trans (Nat.mul_le_mul (Nat.mul_le_mul (show a + 1 ≤ 4 by omega) (show c + 1 ≤ 4 by omega)) (show d + 1 ≤ 4 by omega)) (by decide)
theorem kinds_ok {b s : Nat} {rules : List (List Nat)} {cs : List Nat} (hm : MOk b s rules) (hK : cs.length ≤ 3) (h3 : rules.length ≤ 3) (hs : cs.sum ≤ 3) (hb : kn rules s cs < 63) :
    callN L P (n + 4) 22 [.dat (mD true s rules), .dat (.int (cs.length : Nat)), .dat (tI cs)] m = .ok (.dat (.int (kn rules s cs : Nat))) m := by
  rw [call_eq P__law_kinds rfl]
  have hbt : ∀ t, t ≤ cs.sum → (cs.length * rules.length) ^ t ≤ 900 := fun t ht => by
    have h9 : cs.length * rules.length ≤ 9 := Nat.mul_le_mul hK h3
    refine Nat.le_trans (Nat.pow_le_pow_left h9 t) ?_
    exact Nat.le_trans (Nat.pow_le_pow_right (by omega) (show t ≤ 3 by omega)) (by decide)
  have k1 := histories_ok (L := L) (n := n + 1) (m := m) (D := rules.length) (K := cs.length) (cs := cs) (M := mD true s rules) hK rfl ⟨rD rules, rfl, by unfold rD; rw [List.length_map]⟩ h3 hs hbt
  have key : evE (callN L P (n + 3)) c__law_kinds_1 [.v (.dat (mD true s rules)), .v (.dat (.int (cs.length : Nat))), .v (.dat (tI cs)), .no] m = .ok (.dat (.list ((hgo rules.length cs.length cs cs.sum).map (tabT rules s cs)))) m := by
    refine ev_compM (g := hD) (by simp [k1]; rfl) (Nat.le_trans (hgo_len _) (Nat.le_trans (hbt _ (Nat.le_refl _)) (by omega))) fun h hh => ?_
    obtain ⟨ho, hc⟩ := hgo_all.mp hh
    have hl := (hgo_mem.mp hh).1
    have q := table_ok (L := L) (n := n + 1) (m := m) (s := s) (k := cs.length) (h := h) true hm ho (by omega) (by omega) (by rw [hc]; exact Nat.le_trans (prod1_le hK hs) (by omega))
    rw [hc] at q
    refine ⟨_, rfl, ?_⟩
    have q' : callN L P (n + 3) 19 [.dat (mD true s rules), .dat (.int (cs.length : Nat)), .dat (hD h)] m = .ok (.dat (tabT rules s cs h)) m := q
    generalize hD h = Hd at *
    generalize tI cs = Cs at *
    generalize mD true s rules = M at *
    generalize tabT rules s cs h = T at *
    simp [e__law_kinds_1, q']
  have ls := lset_t (rules := rules) (s := s) (cs := cs) (l := hgo rules.length cs.length cs cs.sum) hb
  have e : unl ((hgo rules.length cs.length cs cs.sum).map (tbl rules s cs)) = kn rules s cs := rfl
  rw [e] at ls
  generalize kn rules s cs = kk at *
  generalize (hgo rules.length cs.length cs cs.sum).map (tabT rules s cs) = X1 at *
  simp [d__law_kinds, bA_c__law_kinds_1, key, ls]
end K44

set_option Elab.async false
set_option linter.all false
set_option maxRecDepth 100000
set_option maxHeartbeats 2000000
/-! Rows to all boards. -/
namespace K44
open PySem PySem.Spec PyProof.Rows L2 Eng
variable {L n : Nat} {m : Mem}
/-- the dict: boards and their rows -/
def kdE (E : List En) : List (Int × PyData) := E.map fun e => ((e.1 : Int), tI e.2)
def lnE (E : List En) : List PyData := E.map fun e => .int (e.1 : Int)
theorem kdE_len (E : List En) : (kdE E).length = E.length := by unfold kdE; rw [List.length_map]
theorem lnE_len (E : List En) : (lnE E).length = E.length := by unfold lnE; rw [List.length_map]
theorem valI_get : ∀ {E : List En}, (E.map (·.1)).Nodup → ∀ e ∈ E, L2.valI (kdE E) (e.1 : Int) = some (tI e.2)
  | x :: E, hn, e, he => by
    obtain ⟨h1, h2⟩ := List.nodup_cons.mp hn
    have ih := valI_get h2
    unfold L2.valI kdE at *
    rw [List.map_cons, List.find?_cons]
    by_cases c : x.1 = e.1
    · have : e = x := by
        rcases List.mem_cons.mp he with h | h
        · exact h
        · exact absurd (show x.1 ∈ E.map (·.1) from List.mem_map.mpr ⟨e, h, c.symm⟩) h1
      subst this
      simp
    · have : e ∈ E := by
        rcases List.mem_cons.mp he with h | h
        · exact absurd (by rw [h]) c
        · exact h
      have hne : decide (((x.1 : Nat) : Int) = (e.1 : Int)) = false := by simp only [decide_eq_false_iff_not]; omega
      simp only [hne]
      exact ih e this
theorem valI_is (E : List En) (y : Nat) : (L2.valI (kdE E) (y : Int)).isSome = decide (y ∈ E.map (·.1)) := by
  unfold L2.valI kdE
  rw [Option.isSome_map, Bool.eq_iff_iff, List.find?_isSome, decide_eq_true_eq]
  constructor
  · rintro ⟨p, hp, e⟩
    obtain ⟨x, hx, rfl⟩ := List.mem_map.mp hp
    have : x.1 = y := by have := of_decide_eq_true e; simp at this; omega
    exact List.mem_map.mpr ⟨x, hx, this⟩
  · intro h
    obtain ⟨x, hx, rfl⟩ := List.mem_map.mp h
    exact ⟨_, List.mem_map_of_mem hx, by simp⟩
theorem putI_new {E : List En} {y : Nat} (h : y ∉ E.map (·.1)) (w : List Nat) : L2.putI (kdE E) (y : Int) (tI w) = kdE (E ++ [(y, w)]) := by
  unfold L2.putI
  rw [if_neg]
  · unfold kdE; rw [List.map_append]; rfl
  · intro c
    obtain ⟨p, hp, e⟩ := List.any_eq_true.mp c
    unfold kdE at hp
    obtain ⟨x, hx, rfl⟩ := List.mem_map.mp hp
    have : x.1 = y := by have := of_decide_eq_true e; simp at this; omega
    exact h (List.mem_map.mpr ⟨x, hx, this⟩)
theorem din_kd {E : List En} {y : Nat} : dinU true (.dat (.int (y : Int))) (.ref m.length) (m ++ [.kd (kdE E)]) = .ok (.dat (.bool (!decide (y ∈ E.map (·.1))))) (m ++ [.kd (kdE E)]) := by
  have : (m ++ [MObj.kd (kdE E)])[m.length]? = some (.kd (kdE E)) := by simp
  simp only [dinU, this, valI_is, Bool.true_xor, R.dat_some]
theorem ix_kd {E : List En} {e : En} (hn : (E.map (·.1)).Nodup) (he : e ∈ E) : ixU (.ref m.length) (.dat (.int (e.1 : Int))) (m ++ [.kd (kdE E)]) = .ok (.dat (tI e.2)) (m ++ [.kd (kdE E)]) := by
  have : (m ++ [MObj.kd (kdE E)])[m.length]? = some (.kd (kdE E)) := by simp
  simp only [ixU, this, valI_get hn e he, R.dat_some]
theorem set_kd {E : List En} {y : Nat} {w : List Nat} {σ : Eng.Env} (h : y ∉ E.map (·.1)) (hl : E.length ≤ 1000) : setMGo σ (.dat (tI w)) (.ref m.length) (.dat (.int (y : Int))) (m ++ [.kd (kdE E)]) = .ok (.nx, σ) (m ++ [.kd (kdE (E ++ [(y, w)]))]) := by
  have e1 : (m ++ [MObj.kd (kdE E)])[m.length]? = some (.kd (kdE E)) := by simp
  have e2 : ∀ ob, (m ++ [MObj.kd (kdE E)]).set m.length ob = m ++ [ob] := fun ob => by simp
  simp only [setMGo, e1, e2, putI_new h]
  exact if_pos (by rw [kdE_len, sizeLine_eq]; omega)
theorem new_kd (s : Nat) : newD1U m.length (.dat (.int (s : Int))) (.dat (.tuple [])) (m ++ [.dct []]) = .ok (.ref m.length) (m ++ [.kd (kdE (E0 s))]) := by
  have e1 : (m ++ [MObj.dct []])[m.length]? = some (.dct []) := by simp
  have e2 : ∀ ob, (m ++ [MObj.dct []]).set m.length ob = m ++ [ob] := fun ob => by simp
  simp only [newD1U, e1, e2, L2.keyOfD]
  rfl
theorem rule_at {rules : List (List Nat)} {d : Nat} (hd : d < rules.length) : (rD rules).getD d .none = tI rules[d] := by
  unfold rD
  rw [List.getD_eq_getElem?_getD, List.getElem?_map, List.getElem?_eq_getElem hd]; rfl
theorem step_at {b s : Nat} {rules : List (List Nat)} (hm : MOk b s rules) {d x : Nat} (hd : d < rules.length) (hx : x < b) : ixVal (tI rules[d]) (.int (x : Int)) = some (.int (stepR rules d x : Nat)) := by
  have hr := hm.each rules[d] (List.getElem_mem hd)
  have er : stepR rules d x = (rules[d]).getD x 0 := by unfold stepR; rw [show rules.getD d [] = rules[d] by rw [List.getD_eq_getElem?_getD, List.getElem?_eq_getElem hd]; rfl]
  rw [er]; exact iD_at (by rw [hr.1]; exact hx)
theorem map_at {s : Nat} {rules : List (List Nat)} {d : Nat} (hd : d < rules.length) : ixVal (.tuple (rD rules)) (.int (d : Int)) = some (tI rules[d]) := atI_nat (by unfold rD; rw [List.getElem?_map, List.getElem?_eq_getElem hd]; rfl)
theorem enum_get {xs : List PyData} {i : Nat} {d : PyData} (h : (enumD 0 xs)[i]? = some d) : i < xs.length ∧ d = .tuple [.int (i : Int), xs.getD i .none] := by
  rw [enum_list, List.getElem?_map, Option.map_eq_some_iff] at h
  obtain ⟨j, hj, rfl⟩ := h
  have hi := (List.getElem?_eq_some_iff.mp hj).1
  rw [List.length_range] at hi
  rw [List.getElem?_range hi] at hj
  cases hj
  exact ⟨hi, rfl⟩
theorem enum_len (xs : List PyData) : (enumD 0 xs).length = xs.length := by rw [enum_list, List.length_map, List.length_range]
theorem tI_snoc {w : List Nat} {d : Nat} (h : w.length ≤ 900) : binVal .add (tI w) (.tuple [.int (d : Int)]) = some (tI (w ++ [d])) := snoc_ok w d (by omega)
/-- one board's deeds -/
theorem rows_in {b s : Nat} {rules : List (List Nat)} {E : List En} {e : En} {i : Nat} {C : Calls} {u0 u1 : U} {k : U} {s7 s8 : Sl} (hm : MOk b s rules) (h : EOk b s rules E) (hi : E[i]? = some e) :
    ∃ s7' s8', evS L C l_rows_to_1 [.v u0, .v u1, .v (.dat (.tuple (rD rules))), .v (.ref m.length), .own (lnE E), .v k, .v (.dat (.int (e.1 : Int))), s7, s8, .no] (m ++ [.kd (kdE E)]) = .ok (.nx, [.v u0, .v u1, .v (.dat (.tuple (rD rules))), .v (.ref m.length), .own (lnE (expd rules e E)), .v k, .v (.dat (.int (e.1 : Int))), s7', s8', .no]) (m ++ [.kd (kdE (expd rules e E))]) := by
  have hl : (rD rules).length = rules.length := by unfold rD; rw [List.length_map]
  have := forGo_inv (body := fun σ m => evSs L C b_rows_to_1 σ m) (tg := .tp [.nm 7, .nm 8]) (enumD 0 (rD rules)) (fun j σ m' => m' = m ++ [.kd (kdE (expN rules e E j))] ∧ ∃ s7 s8, σ = [.v u0, .v u1, .v (.dat (.tuple (rD rules))), .v (.ref m.length), .own (lnE (expN rules e E j)), .v k, .v (.dat (.int (e.1 : Int))), s7, s8, .no])
    (fun j d σ m' hd ⟨hmm, s7, s8, hσ⟩ => by
      subst hmm hσ
      obtain ⟨hj, rfl⟩ := enum_get hd
      rw [hl] at hj
      rw [rule_at hj]
      obtain ⟨g1, g2⟩ := expN_ok hm h hi j (by omega)
      have ge := g1.lt e (List.mem_of_getElem? g2)
      have e1 := step_at hm hj ge.1
      have hlen := g1.len
      have hb8 := hm.b8
      have hsh := g1.sh i e g2
      have hil := (List.getElem?_eq_some_iff.mp g2).1
      rw [expN_succ]
      generalize expN rules e E j = F at *
      have a1 := din_kd (m := m) (E := F) (y := stepR rules j e.1)
      refine ⟨[.v u0, .v u1, .v (.dat (.tuple (rD rules))), .v (.ref m.length), .own (lnE F), .v k, .v (.dat (.int (e.1 : Int))), .v (.dat (.int (j : Int))), .v (.dat (tI rules[j])), .no], [.v u0, .v u1, .v (.dat (.tuple (rD rules))), .v (.ref m.length), .own (lnE (exp1 rules e F j)), .v k, .v (.dat (.int (e.1 : Int))), .v (.dat (.int (j : Int))), .v (.dat (tI rules[j])), .no], m ++ [.kd (kdE (exp1 rules e F j))], rfl, ?_, rfl, _, _, rfl⟩
      by_cases c : stepR rules j e.1 ∈ F.map (·.1)
      · have ex : exp1 rules e F j = F := if_pos c
        rw [ex]
        rw [decide_eq_true c] at a1
        generalize tI rules[j] = Rj at *
        generalize stepR rules j e.1 = y at *
        generalize lnE F = Ln at *
        generalize kdE F = Kd at *
        generalize rD rules = Rd at *
        simp [b_rows_to_1, e1, a1]
      · have ex : exp1 rules e F j = F ++ [(stepR rules j e.1, e.2 ++ [j])] := if_neg c
        rw [ex]
        rw [decide_eq_false c] at a1
        have a2 := ix_kd (m := m) g1.nd (List.mem_of_getElem? g2)
        have a3 := tI_snoc (w := e.2) (d := j) (by omega)
        have a4 := fun σ => set_kd (m := m) (w := e.2 ++ [j]) (σ := σ) c (by omega)
        have a5 : lnE (F ++ [(stepR rules j e.1, e.2 ++ [j])]) = lnE F ++ [.int (stepR rules j e.1 : Nat)] := by unfold lnE; rw [List.map_append]; rfl
        have a6 := fun σ : Eng.Env => app_ok (m := m ++ [.kd (kdE (F ++ [(stepR rules j e.1, e.2 ++ [j])]))]) (σ := σ) (i := 4) (xs := lnE F) (d := .int (stepR rules j e.1 : Nat)) (by rw [lnE_len, sizeLine_eq]; omega)
        rw [a5]
        generalize kdE (F ++ [(stepR rules j e.1, e.2 ++ [j])]) = Kd2 at *
        generalize tI (e.2 ++ [j]) = W2 at *
        generalize tI rules[j] = Rj at *
        generalize stepR rules j e.1 = y at *
        generalize lnE F = Ln at *
        generalize kdE F = Kd at *
        generalize rD rules = Rd at *
        generalize tI e.2 = W1 at *
        simp [b_rows_to_1, e1, a1, a2, a3, a4, a6])
    (m := m ++ [.kd (kdE E)]) (σ := [.v u0, .v u1, .v (.dat (.tuple (rD rules))), .v (.ref m.length), .own (lnE E), .v k, .v (.dat (.int (e.1 : Int))), s7, s8, .no]) ⟨rfl, s7, s8, rfl⟩
  obtain ⟨σ', m', h1, rfl, s7', s8', rfl⟩ := this
  rw [enum_len, hl] at h1
  refine ⟨s7', s8', ?_⟩
  show evS L C (.for_ _ _ _) _ _ = _
  simp only [s_forE, it_enum, ev_var, getV, List.getElem?_cons_zero, List.getElem?_cons_succ, R.bind_ok, seqU_tuple, enumU]
  exact h1
def condR : E := match l_rows_to_2 with
  | .whl c _ => c
  | _ => .cst .none
theorem rows_wh {b s : Nat} {rules : List (List Nat)} {C : Calls} {u0 u1 : U} (hm : MOk b s rules) : ∀ (f k : Nat) {E : List En} {s6 s7 s8 : Sl} {N : Nat}, EOk b s rules E → b ≤ f + k → k ≤ 100 → f < N →
    ∃ (k' : Nat) (s6' s7' s8' : Sl), whlGo (fun σ m => evE C condR σ m) (fun σ m => evSs L C b_rows_to_2 σ m) N [.v u0, .v u1, .v (.dat (.tuple (rD rules))), .v (.ref m.length), .own (lnE E), .v (.dat (.int (k : Int))), s6, s7, s8, .no] (m ++ [.kd (kdE E)])
      = .ok (.nx, [.v u0, .v u1, .v (.dat (.tuple (rD rules))), .v (.ref m.length), .own (lnE (bfs rules f k E)), .v (.dat (.int (k' : Int))), s6', s7', s8', .no]) (m ++ [.kd (kdE (bfs rules f k E))]) := by
  intro f
  induction f with
  | zero =>
    intro k E s6 s7 s8 N h hb hk hN
    obtain ⟨N, rfl⟩ : ∃ M, N = M + 1 := ⟨N - 1, by omega⟩
    refine ⟨k, s6, s7, s8, ?_⟩
    have hlen := h.len
    have hc : ¬ k < E.length := by omega
    have e1 : b1Val .len (.list (lnE E)) = some (.int (E.length : Nat)) := by show some (PyData.int ((lnE E).length : Nat)) = _; rw [lnE_len]
    show whlGo _ _ (N + 1) _ _ = .ok (.nx, [.v u0, .v u1, .v (.dat (.tuple (rD rules))), .v (.ref m.length), .own (lnE E), .v (.dat (.int (k : Int))), s6, s7, s8, .no]) (m ++ [.kd (kdE E)])
    unfold whlGo
    generalize lnE E = Ln at *
    generalize kdE E = Kd at *
    generalize E.length = el at *
    simp [condR, l_rows_to_2, e1, hc]
  | succ f ih =>
    intro k E s6 s7 s8 N h hb hk hN
    obtain ⟨N, rfl⟩ : ∃ M, N = M + 1 := ⟨N - 1, by omega⟩
    have e1 : b1Val .len (.list (lnE E)) = some (.int (E.length : Nat)) := by show some (PyData.int ((lnE E).length : Nat)) = _; rw [lnE_len]
    cases hx : E[k]? with
    | none =>
      refine ⟨k, s6, s7, s8, ?_⟩
      have hc : ¬ k < E.length := by have := List.getElem?_eq_none_iff.mp hx; omega
      have eb : bfs rules (f + 1) k E = E := by
        show (match E[k]? with | some e => _ | none => E) = _
        rw [hx]
      rw [eb]
      unfold whlGo
      generalize lnE E = Ln at *
      generalize kdE E = Kd at *
      generalize E.length = el at *
      simp [condR, l_rows_to_2, e1, hc]
    | some e =>
      have hkl := (List.getElem?_eq_some_iff.mp hx).1
      have hlen := h.len
      have hb8 := hm.b8
      have eb : bfs rules (f + 1) k E = bfs rules f (k + 1) (expd rules e E) := by
        show (match E[k]? with | some e => bfs rules f (k + 1) (expd rules e E) | none => E) = _
        rw [hx]
      obtain ⟨s7', s8', k1⟩ := rows_in (L := L) (C := C) (m := m) (u0 := u0) (u1 := u1) (k := .dat (.int (k : Int))) (s7 := s7) (s8 := s8) hm h hx
      obtain ⟨k', t6, t7, t8, k2⟩ := ih (k + 1) (E := expd rules e E) (s6 := .v (.dat (.int (e.1 : Int)))) (s7 := s7') (s8 := s8') (N := N) (expd_ok hm h hx) (by omega) (by omega) (by omega)
      refine ⟨k', t6, t7, t8, ?_⟩
      rw [eb]
      have e2 : ixVal (.list (lnE E)) (.int (k : Int)) = some (.int (e.1 : Nat)) := atI_nat (by unfold lnE; rw [List.getElem?_map, hx]; rfl)
      have e3 : ((k : Int) + 1) = ((k + 1 : Nat) : Int) := by omega
      rw [← e3] at k2
      unfold whlGo
      generalize bfs rules f (k + 1) (expd rules e E) = Fin at *
      generalize lnE (expd rules e E) = Ln2 at *
      generalize kdE (expd rules e E) = Kd2 at *
      generalize lnE E = Ln at *
      generalize kdE E = Kd at *
      generalize E.length = el at *
      generalize rD rules = Rd at *
      simp only [b_rows_to_2]
      simp [condR, l_rows_to_2, e1, hkl, e2, k1]
      exact k2
end K44

set_option Elab.async false
set_option linter.all false
set_option maxRecDepth 100000
set_option maxHeartbeats 2000000
/-! The program: rows_to, clash, costs_nothing, two_of_one_rim. -/
namespace K44
open PySem PySem.Spec PyProof.Rows L2 Eng
variable {L n : Nat} {m : Mem}
def enD (e : En) : PyData := .tuple [.int (e.1 : Int), tI e.2]
theorem rows_to_ok {b s : Nat} {rules : List (List Nat)} (hL : 100 ≤ L) (hm : MOk b s rules) : callN L P (n + 1) 8 [.dat (mD true s rules)] m = .ok (.dat (.list ((fin b s rules).map enD))) (m ++ [.kd (kdE (fin b s rules))]) := by
  rw [call_eq P_rows_to rfl]
  have hb8 := hm.b8
  obtain ⟨k', s6, s7, s8, w⟩ := rows_wh (L := L) (m := m) (C := callN L P n) (u0 := .dat (mD true s rules)) (u1 := .dat (.int (s : Int))) hm b 0 (E := E0 s) (s6 := .no) (s7 := .no) (s8 := .no) (N := L) (E0_ok hm) (by omega) (by omega) (by omega)
  have hok := fin_ok (rules := rules) hm
  have hlen := hok.len
  have hloop : ∀ σ m', evS L (callN L P n) l_rows_to_2 σ m' = whlGo (fun σ m => evE (callN L P n) condR σ m) (fun σ m => evSs L (callN L P n) b_rows_to_2 σ m) L σ m' := fun _ _ => rfl
  have key : evE (callN L P n) c_rows_to_1 [.v (.dat (mD true s rules)), .v (.dat (.int (s : Int))), .v (.dat (.tuple (rD rules))), .v (.ref m.length), .v (.dat (.list (lnE (fin b s rules)))), .v (.dat (.int (k' : Int))), s6, s7, s8, .no] (m ++ [.kd (kdE (fin b s rules))]) = .ok (.dat (.list ((fin b s rules).map enD))) (m ++ [.kd (kdE (fin b s rules))]) := by
    refine ev_compM (l := fin b s rules) (g := fun e => .int (e.1 : Int)) (by simp; rfl) (by omega) fun e he => ?_
    have a2 := ix_kd (m := m) hok.nd he
    refine ⟨_, rfl, ?_⟩
    unfold enD
    generalize kdE (fin b s rules) = Kd at *
    generalize tI e.2 = W at *
    simp [e_rows_to_1, a2]
  have e1 : b1Val .len (.list (lnE (fin b s rules))) = some (.int ((fin b s rules).length : Nat)) := by show some (PyData.int ((lnE (fin b s rules)).length : Nat)) = _; rw [lnE_len]
  have a0 := new_kd (m := m) s
  have e0 : lnE (E0 s) = [.int (s : Int)] := rfl
  have ef : bfs rules b 0 (E0 s) = fin b s rules := rfl
  rw [ef] at w
  rw [show ((0 : Nat) : Int) = 0 from rfl, e0] at w
  have hM : mD true s rules = .tuple [.int (s : Int), .tuple (rD rules)] := rfl
  have hu : seqU (.dat (mD true s rules)) m = .ok [.int (s : Int), .tuple (rD rules)] m := rfl
  generalize mD true s rules = M at *
  generalize lnE (fin b s rules) = Ln at *
  generalize kdE (fin b s rules) = Kd at *
  generalize (fin b s rules).map enD = Out at *
  generalize kdE (E0 s) = Kd0 at *
  generalize rD rules = Rd at *
  subst hM
  simp [d_rows_to, a0, hloop, w, bA_c_rows_to_1, key]
/-! loops that end at the first find -/
theorem forGo_first {α : Type} {body : Eng.Env → Mem → R (F × Eng.Env)} {tg : Tg} {g : α → PyData} {c : α → Option PyData} {I : Eng.Env → Prop} {m : Mem} : ∀ (l : List α), (∀ a ∈ l, ∀ σ, I σ → ∃ σ1, asgTg tg (g a) σ = some σ1 ∧ ((∃ d, c a = some d ∧ ∃ σ2, body σ1 m = .ok (.ret (.dat d), σ2) m) ∨ (c a = none ∧ ∃ σ2, I σ2 ∧ body σ1 m = .ok (.nx, σ2) m))) → ∀ σ, I σ →
    ((∃ d, l.findSome? c = some d ∧ ∃ σ2, forGo body tg (l.map g) σ m = .ok (.ret (.dat d), σ2) m) ∨ (l.findSome? c = none ∧ ∃ σ2, I σ2 ∧ forGo body tg (l.map g) σ m = .ok (.nx, σ2) m))
  | [], _, σ, hI => .inr ⟨rfl, σ, hI, rfl⟩
  | a :: l, h, σ, hI => by
    obtain ⟨σ1, h1, h2⟩ := h a List.mem_cons_self σ hI
    rw [List.map_cons, List.findSome?_cons]
    unfold forGo
    rw [h1]
    rcases h2 with ⟨d, hc, σ2, h2⟩ | ⟨hc, σ2, hI2, h2⟩
    · rw [hc]
      exact .inl ⟨d, rfl, σ2, by simp only [h2, R.bind_ok]⟩
    · rw [hc]
      have ih := forGo_first (body := body) (tg := tg) (g := g) (c := c) (I := I) (m := m) l (fun x hx => h x (List.mem_cons_of_mem _ hx)) σ2 hI2
      simp only [h2, R.bind_ok]
      exact ih
theorem fs_map {α β γ : Type} (g : α → Option β) (f : β → γ) : ∀ l : List α, l.findSome? (fun a => (g a).map f) = (l.findSome? g).map f
  | [] => rfl
  | a :: l => by
    rw [List.findSome?_cons, List.findSome?_cons]
    cases g a with
    | none => exact fs_map g f l
    | some x => rfl
theorem fs_find {α β : Type} (p : α → Bool) (f : α → β) : ∀ l : List α, l.findSome? (fun a => if p a = true then some (f a) else none) = (l.find? p).map f
  | [] => rfl
  | a :: l => by
    rw [List.findSome?_cons, List.find?_cons]
    cases h : p a with
    | true => simp
    | false => simp only [Bool.false_eq_true, if_false]; exact fs_find p f l
theorem fs_congr {α β : Type} {f g : α → Option β} : ∀ {l : List α}, (∀ a ∈ l, f a = g a) → l.findSome? f = l.findSome? g
  | [], _ => rfl
  | a :: l, h => by
    rw [List.findSome?_cons, List.findSome?_cons, h a List.mem_cons_self, fs_congr fun x hx => h x (List.mem_cons_of_mem _ hx)]
def clD (c : List Nat × Nat × Nat) : PyData := .tuple [tI c.1, .int (c.2.1 : Int), .int (c.2.2 : Int)]
theorem rng2_nat {i j : Nat} (hi : i ≤ 1000) (hj : j ≤ 1000) : rng2U ((i : Int) + 1) (j : Int) m = .ok ((List.range' (i + 1) (j - (i + 1))).map fun (x : Nat) => .int (x : Int)) m := by
  have e : rngD ((i : Int) + 1) ((j : Int) - ((i : Int) + 1)).toNat = (List.range' (i + 1) (j - (i + 1))).map fun (x : Nat) => PyData.int (x : Int) := by
    unfold rngD
    rw [List.range'_eq_map_range, List.map_map, show ((j : Int) - ((i : Int) + 1)).toNat = j - (i + 1) by omega]
    refine List.map_congr_left fun x _ => ?_
    simp
  rw [← e]
  exact if_pos ⟨by omega, by omega, by omega, by omega⟩
theorem ne_int (i j : Nat) : cmpVal .ne (.int (i : Int)) (.int (j : Int)) = some (.bool (decide (i ≠ j))) := by
  have : cmpVal .ne (.int (i : Int)) (.int (j : Int)) = some (.bool (!decide ((i : Int) = (j : Int)))) := by simp
  rw [this]
  congr 2
  rw [Bool.eq_iff_iff]; simp only [Bool.not_eq_true', decide_eq_false_iff_not, decide_eq_true_eq, ne_eq]; omega
/-- for other in range(one + 1, ..) -/
theorem clash_in {b s : Nat} {rules : List (List Nat)} {C : Calls} {u0 u1 : U} {x one : Nat} {w : List Nat} {s7 : Sl} (hm : MOk b s rules) (hx : x < b) (ho : one < rules.length) :
    (∃ d, (cl2 rules x one).map (fun p => clD (w, p.1, p.2)) = some d ∧ ∃ σ2, evS L C l_clash_1 [.v u0, .v u1, .v (.dat (.tuple (rD rules))), .v (.dat (.int (x : Int))), .v (.dat (tI w)), .v (.dat (.int (one : Int))), .v (.dat (tI rules[one])), s7] m = .ok (.ret (.dat d), σ2) m)
    ∨ ((cl2 rules x one).map (fun p => clD (w, p.1, p.2)) = none ∧ ∃ s7', evS L C l_clash_1 [.v u0, .v u1, .v (.dat (.tuple (rD rules))), .v (.dat (.int (x : Int))), .v (.dat (tI w)), .v (.dat (.int (one : Int))), .v (.dat (tI rules[one])), s7] m = .ok (.nx, [.v u0, .v u1, .v (.dat (.tuple (rD rules))), .v (.dat (.int (x : Int))), .v (.dat (tI w)), .v (.dat (.int (one : Int))), .v (.dat (tI rules[one])), s7']) m) := by
  have h6 := hm.l6
  have ec : (List.range' (one + 1) (rules.length - (one + 1))).findSome? (fun o => if bad rules x one o = true then some (clD (w, one, o)) else none) = (cl2 rules x one).map fun p => clD (w, p.1, p.2) := by
    rw [fs_find]
    unfold cl2
    rw [Option.map_map]; rfl
  have key := forGo_first (body := fun σ m => evSs L C b_clash_1 σ m) (tg := .nm 7) (g := fun (o : Nat) => .int (o : Int)) (c := fun o => if bad rules x one o = true then some (clD (w, one, o)) else none) (m := m)
    (I := fun σ => ∃ s7, σ = [.v u0, .v u1, .v (.dat (.tuple (rD rules))), .v (.dat (.int (x : Int))), .v (.dat (tI w)), .v (.dat (.int (one : Int))), .v (.dat (tI rules[one])), s7])
    (List.range' (one + 1) (rules.length - (one + 1))) (fun o hoM σ ⟨s7, hσ⟩ => by
      subst hσ
      have hor := List.mem_range'_1.mp hoM
      have hol : o < rules.length := by omega
      refine ⟨[.v u0, .v u1, .v (.dat (.tuple (rD rules))), .v (.dat (.int (x : Int))), .v (.dat (tI w)), .v (.dat (.int (one : Int))), .v (.dat (tI rules[one])), .v (.dat (.int (o : Int)))], rfl, ?_⟩
      have e1 := map_at (s := s) hol
      have e2 := step_at hm hol hx
      have e3 := step_at hm ho (stepR_lt hm hol hx)
      have e4 := step_at hm ho hx
      have e5 := step_at hm hol (stepR_lt hm ho hx)
      have e6 := ne_int (stepR rules one (stepR rules o x)) (stepR rules o (stepR rules one x))
      by_cases hb : bad rules x one o = true
      · refine .inl ⟨clD (w, one, o), if_pos hb, [.v u0, .v u1, .v (.dat (.tuple (rD rules))), .v (.dat (.int (x : Int))), .v (.dat (tI w)), .v (.dat (.int (one : Int))), .v (.dat (tI rules[one])), .v (.dat (.int (o : Int)))], ?_⟩
        unfold bad at hb
        rw [hb] at e6
        unfold clD
        generalize tI w = W at *
        generalize tI rules[one] = R1 at *
        generalize tI rules[o] = R2 at *
        generalize stepR rules one (stepR rules o x) = y1 at *
        generalize stepR rules o (stepR rules one x) = y2 at *
        generalize rD rules = Rd at *
        have hb := of_decide_eq_true hb
        simp [b_clash_1, e1, e2, e3, e4, e5, show ¬ ((y1 : Int) = (y2 : Int)) by omega]
      · refine .inr ⟨if_neg hb, [.v u0, .v u1, .v (.dat (.tuple (rD rules))), .v (.dat (.int (x : Int))), .v (.dat (tI w)), .v (.dat (.int (one : Int))), .v (.dat (tI rules[one])), .v (.dat (.int (o : Int)))], ⟨_, rfl⟩, ?_⟩
        unfold bad at hb
        have hb : stepR rules one (stepR rules o x) = stepR rules o (stepR rules one x) := by simpa using hb
        generalize tI w = W at *
        generalize tI rules[one] = R1 at *
        generalize tI rules[o] = R2 at *
        generalize stepR rules one (stepR rules o x) = y1 at *
        generalize stepR rules o (stepR rules one x) = y2 at *
        generalize rD rules = Rd at *
        simp [b_clash_1, e1, e2, e3, e4, e5, hb]) [.v u0, .v u1, .v (.dat (.tuple (rD rules))), .v (.dat (.int (x : Int))), .v (.dat (tI w)), .v (.dat (.int (one : Int))), .v (.dat (tI rules[one])), s7] ⟨s7, rfl⟩
  rw [ec] at key
  have el : b1Val .len (.tuple (rD rules)) = some (.int (rules.length : Nat)) := by show some (PyData.int ((rD rules).length : Nat)) = _; unfold rD; rw [List.length_map]
  have hloop : evS L C l_clash_1 [.v u0, .v u1, .v (.dat (.tuple (rD rules))), .v (.dat (.int (x : Int))), .v (.dat (tI w)), .v (.dat (.int (one : Int))), .v (.dat (tI rules[one])), s7] m = forGo (fun σ m => evSs L C b_clash_1 σ m) (.nm 7) ((List.range' (one + 1) (rules.length - (one + 1))).map fun (o : Nat) => .int (o : Int)) [.v u0, .v u1, .v (.dat (.tuple (rD rules))), .v (.dat (.int (x : Int))), .v (.dat (tI w)), .v (.dat (.int (one : Int))), .v (.dat (tI rules[one])), s7] m := by
    show evS L C (.for_ _ _ _) _ _ = _
    have := rng2_nat (m := m) (i := one) (j := rules.length) (by omega) (by omega)
    simp [el, this]
  rw [hloop]
  rcases key with ⟨d, h1, h2⟩ | ⟨h1, σ2, ⟨s7', rfl⟩, h2⟩
  · exact .inl ⟨d, h1, h2⟩
  · exact .inr ⟨h1, s7', h2⟩
theorem enum_map (rules : List (List Nat)) : enumD 0 (rD rules) = (List.range rules.length).map fun i => .tuple [.int (i : Int), (rD rules).getD i .none] := by
  rw [enum_list, show (rD rules).length = rules.length by unfold rD; rw [List.length_map]]
theorem clash_mid {b s : Nat} {rules : List (List Nat)} {C : Calls} {u0 u1 : U} {x : Nat} {w : List Nat} {s5 s6 s7 : Sl} (hm : MOk b s rules) (hx : x < b) :
    (∃ d, (cl1 rules x).map (fun p => clD (w, p.1, p.2)) = some d ∧ ∃ σ2, evS L C l_clash_2 [.v u0, .v u1, .v (.dat (.tuple (rD rules))), .v (.dat (.int (x : Int))), .v (.dat (tI w)), s5, s6, s7] m = .ok (.ret (.dat d), σ2) m)
    ∨ ((cl1 rules x).map (fun p => clD (w, p.1, p.2)) = none ∧ ∃ s5' s6' s7', evS L C l_clash_2 [.v u0, .v u1, .v (.dat (.tuple (rD rules))), .v (.dat (.int (x : Int))), .v (.dat (tI w)), s5, s6, s7] m = .ok (.nx, [.v u0, .v u1, .v (.dat (.tuple (rD rules))), .v (.dat (.int (x : Int))), .v (.dat (tI w)), s5', s6', s7']) m) := by
  have ec : (List.range rules.length).findSome? (fun one => (cl2 rules x one).map fun p => clD (w, p.1, p.2)) = (cl1 rules x).map fun p => clD (w, p.1, p.2) := fs_map ..
  have key := forGo_first (body := fun σ m => evSs L C b_clash_2 σ m) (tg := .tp [.nm 5, .nm 6]) (g := fun (i : Nat) => .tuple [.int (i : Int), (rD rules).getD i .none]) (c := fun one => (cl2 rules x one).map fun p => clD (w, p.1, p.2)) (m := m)
    (I := fun σ => ∃ s5 s6 s7, σ = [.v u0, .v u1, .v (.dat (.tuple (rD rules))), .v (.dat (.int (x : Int))), .v (.dat (tI w)), s5, s6, s7])
    (List.range rules.length) (fun one hoM σ ⟨s5, s6, s7, hσ⟩ => by
      subst hσ
      have ho := List.mem_range.mp hoM
      rw [rule_at ho]
      refine ⟨[.v u0, .v u1, .v (.dat (.tuple (rD rules))), .v (.dat (.int (x : Int))), .v (.dat (tI w)), .v (.dat (.int (one : Int))), .v (.dat (tI rules[one])), s7], rfl, ?_⟩
      rcases clash_in (L := L) (C := C) (m := m) (u0 := u0) (u1 := u1) (w := w) (s7 := s7) hm hx ho with ⟨d, h1, σ2, h2⟩ | ⟨h1, s7', h2⟩
      · refine .inl ⟨d, h1, σ2, ?_⟩
        simp only [b_clash_2, s_cons, h2, R.bind_ok, then_ret]
      · refine .inr ⟨h1, [.v u0, .v u1, .v (.dat (.tuple (rD rules))), .v (.dat (.int (x : Int))), .v (.dat (tI w)), .v (.dat (.int (one : Int))), .v (.dat (tI rules[one])), s7'], ⟨_, _, _, rfl⟩, ?_⟩
        simp only [b_clash_2, s_cons, h2, R.bind_ok, then_nx, s_nil]) [.v u0, .v u1, .v (.dat (.tuple (rD rules))), .v (.dat (.int (x : Int))), .v (.dat (tI w)), s5, s6, s7] ⟨s5, s6, s7, rfl⟩
  rw [ec] at key
  have hloop : evS L C l_clash_2 [.v u0, .v u1, .v (.dat (.tuple (rD rules))), .v (.dat (.int (x : Int))), .v (.dat (tI w)), s5, s6, s7] m = forGo (fun σ m => evSs L C b_clash_2 σ m) (.tp [.nm 5, .nm 6]) ((List.range rules.length).map fun (i : Nat) => .tuple [.int (i : Int), (rD rules).getD i .none]) [.v u0, .v u1, .v (.dat (.tuple (rD rules))), .v (.dat (.int (x : Int))), .v (.dat (tI w)), s5, s6, s7] m := by
    show evS L C (.for_ _ _ _) _ _ = _
    simp only [s_forE, it_enum, ev_var, getV, List.getElem?_cons_zero, List.getElem?_cons_succ, R.bind_ok, seqU_tuple, enumU, enum_map]
  rw [hloop]
  rcases key with ⟨d, h1, h2⟩ | ⟨h1, σ2, ⟨s5', s6', s7', rfl⟩, h2⟩
  · exact .inl ⟨d, h1, h2⟩
  · exact .inr ⟨h1, s5', s6', s7', h2⟩
/-- what the program's clash tells -/
def dueD (b s : Nat) (rules : List (List Nat)) : PyData := match clash b s rules with
  | some c => clD c
  | none => .none
theorem clash_ok {b s : Nat} {rules : List (List Nat)} (t : Bool) (hL : 100 ≤ L) (hm : MOk b s rules) : ∃ T, callN L P (n + 8) 9 [.dat (mD t s rules)] m = .ok (.dat (dueD b s rules)) (m ++ T) := by
  rw [call_eq P_clash rfl]
  refine ⟨[.kd (kdE (fin b s rules))], ?_⟩
  have k1 := check_machine_ok (L := L) (n := n) (m := m) t hm
  have k2 := rows_to_ok (L := L) (n := n + 6) (m := m) hL hm
  have e1 : ixVal (mD true s rules) (.int 1) = some (.tuple (rD rules)) := rfl
  have hok := fin_ok (rules := rules) hm
  have ec : (fin b s rules).findSome? (fun e => (cl1 rules e.1).map fun p => clD (e.2, p.1, p.2)) = (clash b s rules).map clD := by
    unfold clash
    rw [← fs_map]
    refine fs_congr fun e _ => ?_
    unfold clE
    rw [Option.map_map]; rfl
  have key := forGo_first (body := fun σ m => evSs L (callN L P (n + 7)) b_clash_3 σ m) (tg := .tp [.nm 3, .nm 4]) (g := enD) (c := fun e => (cl1 rules e.1).map fun p => clD (e.2, p.1, p.2)) (m := m ++ [.kd (kdE (fin b s rules))])
    (I := fun σ => ∃ s3 s4 s5 s6 s7, σ = [.v (.dat (mD t s rules)), .v (.dat (mD true s rules)), .v (.dat (.tuple (rD rules))), s3, s4, s5, s6, s7])
    (fin b s rules) (fun e he σ ⟨s3, s4, s5, s6, s7, hσ⟩ => by
      subst hσ
      have hx := (hok.lt e he).1
      refine ⟨[.v (.dat (mD t s rules)), .v (.dat (mD true s rules)), .v (.dat (.tuple (rD rules))), .v (.dat (.int (e.1 : Int))), .v (.dat (tI e.2)), s5, s6, s7], rfl, ?_⟩
      rcases clash_mid (L := L) (C := callN L P (n + 7)) (m := m ++ [.kd (kdE (fin b s rules))]) (u0 := .dat (mD t s rules)) (u1 := .dat (mD true s rules)) (w := e.2) (s5 := s5) (s6 := s6) (s7 := s7) hm hx with ⟨d, h1, σ2, h2⟩ | ⟨h1, s5', s6', s7', h2⟩
      · refine .inl ⟨d, h1, σ2, ?_⟩
        simp only [b_clash_3, s_cons, h2, R.bind_ok, then_ret]
      · refine .inr ⟨h1, [.v (.dat (mD t s rules)), .v (.dat (mD true s rules)), .v (.dat (.tuple (rD rules))), .v (.dat (.int (e.1 : Int))), .v (.dat (tI e.2)), s5', s6', s7'], ⟨_, _, _, _, _, rfl⟩, ?_⟩
        simp only [b_clash_3, s_cons, h2, R.bind_ok, then_nx, s_nil]) [.v (.dat (mD t s rules)), .v (.dat (mD true s rules)), .v (.dat (.tuple (rD rules))), .no, .no, .no, .no, .no] ⟨.no, .no, .no, .no, .no, rfl⟩
  rw [ec] at key
  have hloop : evS L (callN L P (n + 7)) l_clash_3 [.v (.dat (mD t s rules)), .v (.dat (mD true s rules)), .v (.dat (.tuple (rD rules))), .no, .no, .no, .no, .no] m = forGo (fun σ m => evSs L (callN L P (n + 7)) b_clash_3 σ m) (.tp [.nm 3, .nm 4]) ((fin b s rules).map enD) [.v (.dat (mD t s rules)), .v (.dat (mD true s rules)), .v (.dat (.tuple (rD rules))), .no, .no, .no, .no, .no] (m ++ [.kd (kdE (fin b s rules))]) := by
    show evS L _ (.for_ _ _ _) _ _ = _
    simp only [s_forE, it_seq, ev_call, ev_cons, ev_nil, ev_var, getV, List.getElem?_cons_zero, List.getElem?_cons_succ, R.bind_ok, k2, seqU_list]
  unfold dueD
  have hM2 : ∀ d : PyData, (d = .tuple [.int (s : Int), .tuple (rD rules)]) → ixVal d (.int 1) = some (.tuple (rD rules)) := fun d h => by rw [h]; rfl
  rcases key with ⟨d, h1, σ2, h2⟩ | ⟨h1, σ2, ⟨s3, s4, s5, s6, s7, rfl⟩, h2⟩
  · rw [h2] at hloop
    cases hc : clash b s rules with
    | none => rw [hc] at h1; cases h1
    | some c =>
      rw [hc] at h1
      injection h1 with h1
      simp only
      rw [h1]
      generalize mD true s rules = M at *
      generalize mD t s rules = Mt at *
      generalize rD rules = Rd at *
      simp [d_clash, k1, e1, hloop]
  · rw [h2] at hloop
    cases hc : clash b s rules with
    | some c => rw [hc] at h1; cases h1
    | none =>
      simp only
      generalize mD true s rules = M at *
      generalize mD t s rules = Mt at *
      generalize rD rules = Rd at *
      simp [d_clash, k1, e1, hloop]
end K44

set_option Elab.async false
set_option linter.all false
set_option maxRecDepth 100000
set_option maxHeartbeats 2000000
/-! costs_nothing, two_of_one_rim; the law's clash. -/
namespace K44
open PySem PySem.Spec PyProof.Rows L2 Eng
variable {L n : Nat} {m : Mem}
theorem due_is {b s : Nat} {rules : List (List Nat)} : cmpVal .is (dueD b s rules) .none = some (.bool (clash b s rules).isNone) := by
  unfold dueD
  cases clash b s rules <;> rfl
theorem costs_ok {b s : Nat} {rules : List (List Nat)} (t : Bool) (hL : 100 ≤ L) (hm : MOk b s rules) : ∃ T, callN L P (n + 9) 10 [.dat (mD t s rules)] m = .ok (.dat (.bool (clash b s rules).isNone)) (m ++ T) := by
  rw [call_eq P_costs_nothing rfl]
  obtain ⟨T, k1⟩ := clash_ok (L := L) (n := n) (m := m) t hL hm
  refine ⟨T, ?_⟩
  have e1 := due_is (b := b) (s := s) (rules := rules)
  generalize mD t s rules = Mt at *
  generalize dueD b s rules = Du at *
  generalize (clash b s rules).isNone = bb at *
  simp [d_costs_nothing, k1, e1]
def hst1 (c : List Nat × Nat × Nat) : Hi := onH c.1 ++ [(0, c.2.1), (1, c.2.2)]
def hst2 (c : List Nat × Nat × Nat) : Hi := onH c.1 ++ [(1, c.2.2), (0, c.2.1)]
def rimD (b s : Nat) (rules : List (List Nat)) : PyData := match clash b s rules with
  | some c => .tuple [hD (hst1 c), hD (hst2 c)]
  | none => .none
theorem tup_app {xs ys : List PyData} (h : xs.length + ys.length ≤ 1000) : binVal .add (.tuple xs) (.tuple ys) = some (.tuple (xs ++ ys)) := if_pos (by rw [sizeLine_eq]; omega)
theorem rim_ok {b s : Nat} {rules : List (List Nat)} (t : Bool) (hL : 100 ≤ L) (hm : MOk b s rules) : ∃ T, callN L P (n + 9) 11 [.dat (mD t s rules)] m = .ok (.dat (rimD b s rules)) (m ++ T) := by
  rw [call_eq P_two_of_one_rim rfl]
  obtain ⟨T, k1⟩ := clash_ok (L := L) (n := n) (m := m) t hL hm
  refine ⟨T, ?_⟩
  have e1 := due_is (b := b) (s := s) (rules := rules)
  unfold rimD
  unfold dueD at k1 e1
  cases hc : clash b s rules with
  | none =>
    rw [hc] at k1 e1
    simp only at k1 e1 ⊢
    generalize mD t s rules = Mt at *
    simp [d_two_of_one_rim, k1, show cmpVal .is .none .none = some (.bool true) from rfl]
  | some c =>
    rw [hc] at k1 e1
    simp only at k1 e1 ⊢
    have hl := (clash_some hm hc).1
    have hb8 := hm.b8
    have key : evE (callN L P (n + 8)) c_two_of_one_rim_1 [.v (.dat (mD t s rules)), .v (.dat (clD c)), .no, .v (.dat (tI c.1)), .v (.dat (.int (c.2.1 : Int))), .v (.dat (.int (c.2.2 : Int))), .no] (m ++ T) = .ok (.dat (.list (hDl (onH c.1)))) (m ++ T) := by
      have := ev_compM (C := callN L P (n + 8)) (elt := e_two_of_one_rim_1) (tg := .nm 6) (it := .seq (.var 3)) (own := [("deed", 6)]) (σ := [.v (.dat (mD t s rules)), .v (.dat (clD c)), .no, .v (.dat (tI c.1)), .v (.dat (.int (c.2.1 : Int))), .v (.dat (.int (c.2.2 : Int))), .no]) (m := m ++ T) (l := c.1) (g := fun (d : Nat) => .int (d : Int)) (f := fun d => pD (0, d)) (by simp [tI, iD]) (by omega) fun d hd => ⟨_, rfl, by simp [e_two_of_one_rim_1, pD]⟩
      rw [show hDl (onH c.1) = c.1.map fun d => pD (0, d) by unfold hDl onH; rw [List.map_map]; rfl]
      exact this
    have a1 := tup_app (xs := hDl (onH c.1)) (ys := [.tuple [.int 0, .int (c.2.1 : Int)], .tuple [.int 1, .int (c.2.2 : Int)]]) (by unfold onH; rw [hDl_len, List.length_map]; show c.1.length + 2 ≤ 1000; omega)
    have a2 := tup_app (xs := hDl (onH c.1)) (ys := [.tuple [.int 1, .int (c.2.2 : Int)], .tuple [.int 0, .int (c.2.1 : Int)]]) (by unfold onH; rw [hDl_len, List.length_map]; show c.1.length + 2 ≤ 1000; omega)
    have h1 : hD (hst1 c) = .tuple (hDl (onH c.1) ++ [.tuple [.int 0, .int (c.2.1 : Int)], .tuple [.int 1, .int (c.2.2 : Int)]]) := by unfold hD hst1 hDl; rw [List.map_append]; rfl
    have h2 : hD (hst2 c) = .tuple (hDl (onH c.1) ++ [.tuple [.int 1, .int (c.2.2 : Int)], .tuple [.int 0, .int (c.2.1 : Int)]]) := by unfold hD hst2 hDl; rw [List.map_append]; rfl
    rw [h1, h2]
    have e2 : cmpVal .is (clD c) .none = some (.bool false) := rfl
    have hu : clD c = .tuple [tI c.1, .int (c.2.1 : Int), .int (c.2.2 : Int)] := rfl
    clear e1
    rw [hu] at key k1 e2
    generalize hDl (onH c.1) ++ [.tuple [.int 0, .int (c.2.1 : Int)], .tuple [.int 1, .int (c.2.2 : Int)]] = X1 at *
    generalize hDl (onH c.1) ++ [.tuple [.int 1, .int (c.2.2 : Int)], .tuple [.int 0, .int (c.2.1 : Int)]] = X2 at *
    generalize hDl (onH c.1) = X0 at *
    generalize mD t s rules = Mt at *
    generalize tI c.1 = W at *
    simp [d_two_of_one_rim, k1, e2, bA_c_two_of_one_rim_1, key, a1, a2]
/-! the law's own search -/
def rwE (E : List En) : List PyData := E.map fun e => tI e.2
theorem rwE_len (E : List En) : (rwE E).length = E.length := by unfold rwE; rw [List.length_map]
section
variable {b s : Nat} {rules : List (List Nat)} {C : Calls} {u1 u3 : U}
abbrev envL (s : Nat) (rules : List (List Nat)) (q : Nat) (u1 u3 : U) (xs : List PyData) (s5 s6 s7 s8 s9 : Sl) : Eng.Env := [.v (.dat (mD true s rules)), .v u1, .v (.ref q), .v u3, .own xs, s5, s6, s7, s8, s9]
theorem lclash_in {q x one : Nat} {w : List Nat} {xs : List PyData} {s8 s9 : Sl} (hm : MOk b s rules) (hx : x < b) (ho : one < rules.length) :
    (∃ d, (cl2 rules x one).map (fun p => clD (w, p.1, p.2)) = some d ∧ ∃ σ2, evS L C l__law_clash_1 (envL s rules q u1 u3 xs (.v (.dat (tI w))) (.v (.dat (.int (x : Int)))) (.v (.dat (.int (one : Int)))) s8 s9) m = .ok (.ret (.dat d), σ2) m)
    ∨ ((cl2 rules x one).map (fun p => clD (w, p.1, p.2)) = none ∧ ∃ s9', evS L C l__law_clash_1 (envL s rules q u1 u3 xs (.v (.dat (tI w))) (.v (.dat (.int (x : Int)))) (.v (.dat (.int (one : Int)))) s8 s9) m = .ok (.nx, envL s rules q u1 u3 xs (.v (.dat (tI w))) (.v (.dat (.int (x : Int)))) (.v (.dat (.int (one : Int)))) s8 s9') m) := by
  have h6 := hm.l6
  have e0 : ixVal (mD true s rules) (.int 1) = some (.tuple (rD rules)) := rfl
  have ec : (List.range' (one + 1) (rules.length - (one + 1))).findSome? (fun o => if bad rules x one o = true then some (clD (w, one, o)) else none) = (cl2 rules x one).map fun p => clD (w, p.1, p.2) := by
    rw [fs_find]
    unfold cl2
    rw [Option.map_map]; rfl
  have key := forGo_first (body := fun σ m => evSs L C b__law_clash_1 σ m) (tg := .nm 9) (g := fun (o : Nat) => .int (o : Int)) (c := fun o => if bad rules x one o = true then some (clD (w, one, o)) else none) (m := m)
    (I := fun σ => ∃ s9, σ = envL s rules q u1 u3 xs (.v (.dat (tI w))) (.v (.dat (.int (x : Int)))) (.v (.dat (.int (one : Int)))) s8 s9)
    (List.range' (one + 1) (rules.length - (one + 1))) (fun o hoM σ ⟨s9, hσ⟩ => by
      subst hσ
      have hor := List.mem_range'_1.mp hoM
      have hol : o < rules.length := by omega
      refine ⟨envL s rules q u1 u3 xs (.v (.dat (tI w))) (.v (.dat (.int (x : Int)))) (.v (.dat (.int (one : Int)))) s8 (.v (.dat (.int (o : Int)))), rfl, ?_⟩
      have e1 := map_at (s := s) hol
      have e1' := map_at (s := s) ho
      have e2 := step_at hm hol hx
      have e3 := step_at hm ho (stepR_lt hm hol hx)
      have e4 := step_at hm ho hx
      have e5 := step_at hm hol (stepR_lt hm ho hx)
      by_cases hb : bad rules x one o = true
      · refine .inl ⟨clD (w, one, o), if_pos hb, envL s rules q u1 u3 xs (.v (.dat (tI w))) (.v (.dat (.int (x : Int)))) (.v (.dat (.int (one : Int)))) s8 (.v (.dat (.int (o : Int)))), ?_⟩
        unfold bad at hb
        unfold clD envL
        generalize mD true s rules = M at *
        generalize tI w = W at *
        generalize tI rules[one] = R1 at *
        generalize tI rules[o] = R2 at *
        generalize stepR rules one (stepR rules o x) = y1 at *
        generalize stepR rules o (stepR rules one x) = y2 at *
        generalize rD rules = Rd at *
        have hb := of_decide_eq_true hb
        simp [b__law_clash_1, e0, e1, e1', e2, e3, e4, e5, show ¬ ((y1 : Int) = (y2 : Int)) by omega]
      · refine .inr ⟨if_neg hb, envL s rules q u1 u3 xs (.v (.dat (tI w))) (.v (.dat (.int (x : Int)))) (.v (.dat (.int (one : Int)))) s8 (.v (.dat (.int (o : Int)))), ⟨_, rfl⟩, ?_⟩
        unfold bad at hb
        have hb : stepR rules one (stepR rules o x) = stepR rules o (stepR rules one x) := by simpa using hb
        unfold envL
        generalize mD true s rules = M at *
        generalize tI w = W at *
        generalize tI rules[one] = R1 at *
        generalize tI rules[o] = R2 at *
        generalize stepR rules one (stepR rules o x) = y1 at *
        generalize stepR rules o (stepR rules one x) = y2 at *
        generalize rD rules = Rd at *
        simp [b__law_clash_1, e0, e1, e1', e2, e3, e4, e5, hb]) (envL s rules q u1 u3 xs (.v (.dat (tI w))) (.v (.dat (.int (x : Int)))) (.v (.dat (.int (one : Int)))) s8 s9) ⟨s9, rfl⟩
  rw [ec] at key
  have el : b1Val .len (.tuple (rD rules)) = some (.int (rules.length : Nat)) := by show some (PyData.int ((rD rules).length : Nat)) = _; unfold rD; rw [List.length_map]
  have hloop : evS L C l__law_clash_1 (envL s rules q u1 u3 xs (.v (.dat (tI w))) (.v (.dat (.int (x : Int)))) (.v (.dat (.int (one : Int)))) s8 s9) m = forGo (fun σ m => evSs L C b__law_clash_1 σ m) (.nm 9) ((List.range' (one + 1) (rules.length - (one + 1))).map fun (o : Nat) => .int (o : Int)) (envL s rules q u1 u3 xs (.v (.dat (tI w))) (.v (.dat (.int (x : Int)))) (.v (.dat (.int (one : Int)))) s8 s9) m := by
    show evS L C (.for_ _ _ _) _ _ = _
    have := rng2_nat (m := m) (i := one) (j := rules.length) (by omega) (by omega)
    simp [envL, e0, el, this]
  rw [hloop]
  rcases key with ⟨d, h1, h2⟩ | ⟨h1, σ2, ⟨s9', rfl⟩, h2⟩
  · exact .inl ⟨d, h1, h2⟩
  · exact .inr ⟨h1, s9', h2⟩
theorem lclash_mid {q x : Nat} {w : List Nat} {xs : List PyData} {s7 s8 s9 : Sl} (hm : MOk b s rules) (hx : x < b) :
    (∃ d, (cl1 rules x).map (fun p => clD (w, p.1, p.2)) = some d ∧ ∃ σ2, evS L C l__law_clash_2 (envL s rules q u1 u3 xs (.v (.dat (tI w))) (.v (.dat (.int (x : Int)))) s7 s8 s9) m = .ok (.ret (.dat d), σ2) m)
    ∨ ((cl1 rules x).map (fun p => clD (w, p.1, p.2)) = none ∧ ∃ s7' s9', evS L C l__law_clash_2 (envL s rules q u1 u3 xs (.v (.dat (tI w))) (.v (.dat (.int (x : Int)))) s7 s8 s9) m = .ok (.nx, envL s rules q u1 u3 xs (.v (.dat (tI w))) (.v (.dat (.int (x : Int)))) s7' s8 s9') m) := by
  have h6 := hm.l6
  have e0 : ixVal (mD true s rules) (.int 1) = some (.tuple (rD rules)) := rfl
  have ec : (List.range rules.length).findSome? (fun one => (cl2 rules x one).map fun p => clD (w, p.1, p.2)) = (cl1 rules x).map fun p => clD (w, p.1, p.2) := fs_map ..
  have key := forGo_first (body := fun σ m => evSs L C b__law_clash_2 σ m) (tg := .nm 7) (g := fun (i : Nat) => .int (i : Int)) (c := fun one => (cl2 rules x one).map fun p => clD (w, p.1, p.2)) (m := m)
    (I := fun σ => ∃ s7 s9, σ = envL s rules q u1 u3 xs (.v (.dat (tI w))) (.v (.dat (.int (x : Int)))) s7 s8 s9)
    (List.range rules.length) (fun one hoM σ ⟨s7, s9, hσ⟩ => by
      subst hσ
      have ho := List.mem_range.mp hoM
      refine ⟨envL s rules q u1 u3 xs (.v (.dat (tI w))) (.v (.dat (.int (x : Int)))) (.v (.dat (.int (one : Int)))) s8 s9, rfl, ?_⟩
      rcases lclash_in (L := L) (C := C) (m := m) (q := q) (u1 := u1) (u3 := u3) (w := w) (xs := xs) (s8 := s8) (s9 := s9) hm hx ho with ⟨d, h1, σ2, h2⟩ | ⟨h1, s9', h2⟩
      · refine .inl ⟨d, h1, σ2, ?_⟩
        simp only [b__law_clash_2, s_cons, h2, R.bind_ok, then_ret]
      · refine .inr ⟨h1, envL s rules q u1 u3 xs (.v (.dat (tI w))) (.v (.dat (.int (x : Int)))) (.v (.dat (.int (one : Int)))) s8 s9', ⟨_, _, rfl⟩, ?_⟩
        simp only [b__law_clash_2, s_cons, h2, R.bind_ok, then_nx, s_nil]) (envL s rules q u1 u3 xs (.v (.dat (tI w))) (.v (.dat (.int (x : Int)))) s7 s8 s9) ⟨s7, s9, rfl⟩
  rw [ec] at key
  have el : b1Val .len (.tuple (rD rules)) = some (.int (rules.length : Nat)) := by show some (PyData.int ((rD rules).length : Nat)) = _; unfold rD; rw [List.length_map]
  have hloop : evS L C l__law_clash_2 (envL s rules q u1 u3 xs (.v (.dat (tI w))) (.v (.dat (.int (x : Int)))) s7 s8 s9) m = forGo (fun σ m => evSs L C b__law_clash_2 σ m) (.nm 7) ((List.range rules.length).map fun (i : Nat) => .int (i : Int)) (envL s rules q u1 u3 xs (.v (.dat (tI w))) (.v (.dat (.int (x : Int)))) s7 s8 s9) m := by
    show evS L C (.for_ _ _ _) _ _ = _
    simp [envL, e0, el, rng1_nat (show rules.length ≤ 100000 by omega), rng0]
  rw [hloop]
  rcases key with ⟨d, h1, h2⟩ | ⟨h1, σ2, ⟨s7', s9', rfl⟩, h2⟩
  · exact .inl ⟨d, h1, h2⟩
  · exact .inr ⟨h1, s7', s9', h2⟩
theorem lrows_in {E : List En} {e : En} {i n0 : Nat} {s7 s8 s9 : Sl} (hm : MOk b s rules) (h : EOk b s rules E) (hi : E[i]? = some e) (hn0 : n0 ≤ E.length) :
    ∃ s8', evS L C l__law_clash_3 (envL s rules m.length u1 u3 (rwE (E.drop n0)) (.v (.dat (tI e.2))) (.v (.dat (.int (e.1 : Int)))) s7 s8 s9) (m ++ [.kd (kdE E)]) = .ok (.nx, envL s rules m.length u1 u3 (rwE ((expd rules e E).drop n0)) (.v (.dat (tI e.2))) (.v (.dat (.int (e.1 : Int)))) s7 s8' s9) (m ++ [.kd (kdE (expd rules e E))]) := by
  have h6 := hm.l6
  have e0 : ixVal (mD true s rules) (.int 1) = some (.tuple (rD rules)) := rfl
  have el : b1Val .len (.tuple (rD rules)) = some (.int (rules.length : Nat)) := by show some (PyData.int ((rD rules).length : Nat)) = _; unfold rD; rw [List.length_map]
  have := forGo_inv (body := fun σ m => evSs L C b__law_clash_3 σ m) (tg := .nm 8) (rngD 0 rules.length) (fun j σ m' => m' = m ++ [.kd (kdE (expN rules e E j))] ∧ ∃ s8, σ = envL s rules m.length u1 u3 (rwE ((expN rules e E j).drop n0)) (.v (.dat (tI e.2))) (.v (.dat (.int (e.1 : Int)))) s7 s8 s9)
    (fun j d σ m' hd ⟨hmm, s8, hσ⟩ => by
      subst hmm hσ
      obtain ⟨hj, rfl⟩ := rng_get hd
      obtain ⟨g1, g2⟩ := expN_ok hm h hi j (by omega)
      have ge := g1.lt e (List.mem_of_getElem? g2)
      have e1 := step_at hm hj ge.1
      have e2 := map_at (s := s) hj
      have hlen := g1.len
      have hb8 := hm.b8
      have hsh := g1.sh i e g2
      have hil := (List.getElem?_eq_some_iff.mp g2).1
      have hn : n0 ≤ (expN rules e E j).length := by
        obtain ⟨T, hT⟩ := expN_pre (rules := rules) e E j
        rw [hT, List.length_append]; omega
      rw [expN_succ]
      generalize expN rules e E j = F at *
      have a1 := din_kd (m := m) (E := F) (y := stepR rules j e.1)
      refine ⟨envL s rules m.length u1 u3 (rwE (F.drop n0)) (.v (.dat (tI e.2))) (.v (.dat (.int (e.1 : Int)))) s7 (.v (.dat (.int (j : Int)))) s9, envL s rules m.length u1 u3 (rwE ((exp1 rules e F j).drop n0)) (.v (.dat (tI e.2))) (.v (.dat (.int (e.1 : Int)))) s7 (.v (.dat (.int (j : Int)))) s9, m ++ [.kd (kdE (exp1 rules e F j))], rfl, ?_, rfl, _, rfl⟩
      unfold envL
      by_cases c : stepR rules j e.1 ∈ F.map (·.1)
      · have ex : exp1 rules e F j = F := if_pos c
        rw [ex]
        rw [decide_eq_true c] at a1
        generalize mD true s rules = M at *
        generalize tI rules[j] = Rj at *
        generalize stepR rules j e.1 = y at *
        generalize rwE (F.drop n0) = Ln at *
        generalize kdE F = Kd at *
        generalize rD rules = Rd at *
        generalize tI e.2 = W1 at *
        simp [b__law_clash_3, e0, e1, e2, a1]
      · have ex : exp1 rules e F j = F ++ [(stepR rules j e.1, e.2 ++ [j])] := if_neg c
        rw [ex]
        rw [decide_eq_false c] at a1
        have a3 := tI_snoc (w := e.2) (d := j) (by omega)
        have a4 := fun σ => set_kd (m := m) (w := e.2 ++ [j]) (σ := σ) c (by omega)
        have a5 : rwE ((F ++ [(stepR rules j e.1, e.2 ++ [j])]).drop n0) = rwE (F.drop n0) ++ [tI (e.2 ++ [j])] := by
          rw [List.drop_append_of_le_length hn]
          unfold rwE; rw [List.map_append]; rfl
        have a6 := fun σ : Eng.Env => app_ok (m := m ++ [.kd (kdE (F ++ [(stepR rules j e.1, e.2 ++ [j])]))]) (σ := σ) (i := 4) (xs := rwE (F.drop n0)) (d := tI (e.2 ++ [j])) (by rw [rwE_len, List.length_drop, sizeLine_eq]; omega)
        rw [a5]
        generalize mD true s rules = M at *
        generalize kdE (F ++ [(stepR rules j e.1, e.2 ++ [j])]) = Kd2 at *
        generalize tI (e.2 ++ [j]) = W2 at *
        generalize tI rules[j] = Rj at *
        generalize stepR rules j e.1 = y at *
        generalize rwE (F.drop n0) = Ln at *
        generalize kdE F = Kd at *
        generalize rD rules = Rd at *
        generalize tI e.2 = W1 at *
        simp [b__law_clash_3, e0, e1, e2, a1, a3, a4, a6])
    (m := m ++ [.kd (kdE E)]) (σ := envL s rules m.length u1 u3 (rwE (E.drop n0)) (.v (.dat (tI e.2))) (.v (.dat (.int (e.1 : Int)))) s7 s8 s9) ⟨rfl, s8, rfl⟩
  obtain ⟨σ', m', h1, rfl, s8', rfl⟩ := this
  rw [rng_len] at h1
  refine ⟨s8', ?_⟩
  show evS L C (.for_ _ _ _) _ _ = _
  simp only [envL, s_forE, it_rng1, ev_b1, bA_ix, bA_var, ev_ix, bA_cst, ev_cst, ev_var, getV, List.getElem?_cons_zero, List.getElem?_cons_succ, R.bind_ok, ixU_dat, e0, R.dat_some, d1_dat, el, asInt, rng1_nat (show rules.length ≤ 100000 by omega)]
  exact h1
end
end K44

set_option Elab.async false
set_option linter.all false
set_option maxRecDepth 100000
set_option maxHeartbeats 2000000
/-! The law's clash: level by level. -/
namespace K44
open PySem PySem.Spec PyProof.Rows L2 Eng
variable {L n : Nat} {m : Mem}
variable {b s : Nat} {rules : List (List Nat)} {u1 u3 : U}
theorem law_row_ok {E : List En} {e : En} {i n0 : Nat} {s6 s7 s8 s9 : Sl} (hm : MOk b s rules) (h : EOk b s rules E) (hi : E[i]? = some e) (hn0 : n0 ≤ E.length) :
    (∀ c, clE rules e = some c → ∃ σ2, evSs L (callN L P (n + 1)) b__law_clash_4 (envL s rules m.length u1 u3 (rwE (E.drop n0)) (.v (.dat (tI e.2))) s6 s7 s8 s9) (m ++ [.kd (kdE E)]) = .ok (.ret (.dat (clD c)), σ2) (m ++ [.kd (kdE E)]))
    ∧ (clE rules e = none → ∃ s7' s8' s9', evSs L (callN L P (n + 1)) b__law_clash_4 (envL s rules m.length u1 u3 (rwE (E.drop n0)) (.v (.dat (tI e.2))) s6 s7 s8 s9) (m ++ [.kd (kdE E)]) = .ok (.nx, envL s rules m.length u1 u3 (rwE ((expd rules e E).drop n0)) (.v (.dat (tI e.2))) (.v (.dat (.int (e.1 : Int)))) s7' s8' s9') (m ++ [.kd (kdE (expd rules e E))])) := by
  have he := h.lt e (List.mem_of_getElem? hi)
  have hlen := h.len
  have hb8 := hm.b8
  have hsh := h.sh i e hi
  have hil := (List.getElem?_eq_some_iff.mp hi).1
  have hw : e.2.length ≤ 100 := by omega
  have k1 := board_ok (L := L) (n := n) (m := m ++ [.kd (kdE E)]) (k := 1) (h := onH e.2) (v := [e.2.length]) false hm (fun p hp => by
    obtain ⟨d, hd, rfl⟩ := List.mem_map.mp hp
    exact ⟨by show 0 < 1; omega, he.2.2 d hd⟩) rfl (by omega) (by unfold onH; rw [List.length_map]; omega)
  rw [board_one, List.take_length, he.2.1] at k1
  have el : b1Val .len (tI e.2) = some (.int (e.2.length : Nat)) := by show some (PyData.int ((iD e.2).length : Nat)) = _; rw [iD_len]
  have key : evE (callN L P (n + 1)) c__law_clash_1 (envL s rules m.length u1 u3 (rwE (E.drop n0)) (.v (.dat (tI e.2))) s6 s7 s8 s9) (m ++ [.kd (kdE E)]) = .ok (.dat (mkS false (hDl (onH e.2)))) (m ++ [.kd (kdE E)]) := by
    have := ev_compM (C := callN L P (n + 1)) (elt := e__law_clash_1) (tg := .nm 8) (it := .seq (.var 5)) (own := [("_law_deed", 8)]) (σ := envL s rules m.length u1 u3 (rwE (E.drop n0)) (.v (.dat (tI e.2))) s6 s7 s8 s9) (m := m ++ [.kd (kdE E)]) (l := e.2) (g := fun (d : Nat) => .int (d : Int)) (f := fun d => pD (0, d)) (by simp [tI, iD]) (by omega) fun d hd => ⟨_, rfl, by simp [e__law_clash_1, pD]⟩
    rw [show mkS false (hDl (onH e.2)) = .list (e.2.map fun d => pD (0, d)) by unfold hDl onH; rw [List.map_map]; rfl]
    exact this
  have a0 : evS L (callN L P (n + 1)) (.asg 6 (.call 17 (.cons (.var 0) (.cons c__law_clash_1 (.cons (.tup (.cons (.b1 .len (.var 5)) .nil)) .nil))))) (envL s rules m.length u1 u3 (rwE (E.drop n0)) (.v (.dat (tI e.2))) s6 s7 s8 s9) (m ++ [.kd (kdE E)]) = .ok (.nx, envL s rules m.length u1 u3 (rwE (E.drop n0)) (.v (.dat (tI e.2))) (.v (.dat (.int (e.1 : Int)))) s7 s8 s9) (m ++ [.kd (kdE E)]) := by
    have e3 : tI [e.2.length] = .tuple [.int (e.2.length : Nat)] := rfl
    rw [e3] at k1
    unfold envL at key ⊢
    generalize mD true s rules = M at *
    generalize mkS false (hDl (onH e.2)) = Hd at *
    generalize rwE (E.drop n0) = Ln at *
    generalize tI e.2 = W at *
    simp [bA_c__law_clash_1, key, el, k1]
  have hb : b__law_clash_4 = .cons (.asg 6 (.call 17 (.cons (.var 0) (.cons c__law_clash_1 (.cons (.tup (.cons (.b1 .len (.var 5)) .nil)) .nil))))) (.cons l__law_clash_2 (.cons l__law_clash_3 .nil)) := rfl
  have ec : clE rules e = (cl1 rules e.1).map fun p => (e.2, p.1, p.2) := rfl
  rw [hb]
  constructor
  · intro c hc
    rcases lclash_mid (L := L) (C := callN L P (n + 1)) (m := m ++ [.kd (kdE E)]) (q := m.length) (u1 := u1) (u3 := u3) (w := e.2) (xs := rwE (E.drop n0)) (s7 := s7) (s8 := s8) (s9 := s9) hm he.1 with ⟨d, h1, σ2, h2⟩ | ⟨h1, _⟩
    · refine ⟨σ2, ?_⟩
      rw [ec] at hc
      obtain ⟨p, hp, rfl⟩ := Option.map_eq_some_iff.mp hc
      rw [hp] at h1
      injection h1 with h1
      rw [s_cons, a0, R.bind_ok, then_nx, s_cons, h2, R.bind_ok, then_ret, ← h1]
    · rw [ec] at hc
      obtain ⟨p, hp, rfl⟩ := Option.map_eq_some_iff.mp hc
      rw [hp] at h1
      cases h1
  · intro hc
    rcases lclash_mid (L := L) (C := callN L P (n + 1)) (m := m ++ [.kd (kdE E)]) (q := m.length) (u1 := u1) (u3 := u3) (w := e.2) (xs := rwE (E.drop n0)) (s7 := s7) (s8 := s8) (s9 := s9) hm he.1 with ⟨d, h1, σ2, h2⟩ | ⟨h1, s7', s9', h2⟩
    · rw [ec, Option.map_eq_none_iff] at hc
      rw [hc] at h1
      cases h1
    · obtain ⟨s8', k3⟩ := lrows_in (L := L) (C := callN L P (n + 1)) (m := m) (u1 := u1) (u3 := u3) (s7 := s7') (s8 := s8) (s9 := s9') hm h hi hn0
      refine ⟨s7', s8', s9', ?_⟩
      rw [s_cons, a0, R.bind_ok, then_nx, s_cons, h2, R.bind_ok, then_nx, s_cons, k3, R.bind_ok, then_nx, s_nil]
theorem lev_ok (hm : MOk b s rules) : ∀ {Lv E E' : List En}, EOk b s rules E → (∀ e ∈ Lv, ∃ i : Nat, E[i]? = some e) → lev rules Lv E = .inr E' → EOk b s rules E' ∧ ∃ T, E' = E ++ T
  | [], E, E', h, _, e => by
    injection e with e
    subst e
    exact ⟨h, [], by simp⟩
  | x :: Lv, E, E', h, hl, e => by
    unfold lev at e
    cases hc : clE rules x with
    | some c => rw [hc] at e; cases e
    | none =>
      rw [hc] at e
      obtain ⟨i, hi⟩ := hl x List.mem_cons_self
      obtain ⟨T, hT⟩ := expN_pre (rules := rules) x E rules.length
      obtain ⟨h1, U, hU⟩ := lev_ok hm (expd_ok hm h hi) (fun y hy => by
        obtain ⟨j, hj⟩ := hl y (List.mem_cons_of_mem _ hy)
        refine ⟨j, ?_⟩
        unfold expd
        rw [hT, List.getElem?_append_left (List.getElem?_eq_some_iff.mp hj).1]; exact hj) e
      exact ⟨h1, T ++ U, by rw [hU]; unfold expd; rw [hT, List.append_assoc]⟩
theorem level_ok (hm : MOk b s rules) {n0 : Nat} : ∀ (Lv : List En) {E : List En} {s5 s6 s7 s8 s9 : Sl}, EOk b s rules E → (∀ e ∈ Lv, ∃ i : Nat, E[i]? = some e) → n0 ≤ E.length →
    (∀ c, lev rules Lv E = .inl c → ∃ σ2 kv, forGo (fun σ m => evSs L (callN L P (n + 1)) b__law_clash_4 σ m) (.nm 5) (rwE Lv) (envL s rules m.length u1 u3 (rwE (E.drop n0)) s5 s6 s7 s8 s9) (m ++ [.kd (kdE E)]) = .ok (.ret (.dat (clD c)), σ2) (m ++ [.kd kv]))
    ∧ (∀ E', lev rules Lv E = .inr E' → ∃ s5' s6' s7' s8' s9', forGo (fun σ m => evSs L (callN L P (n + 1)) b__law_clash_4 σ m) (.nm 5) (rwE Lv) (envL s rules m.length u1 u3 (rwE (E.drop n0)) s5 s6 s7 s8 s9) (m ++ [.kd (kdE E)]) = .ok (.nx, envL s rules m.length u1 u3 (rwE (E'.drop n0)) s5' s6' s7' s8' s9') (m ++ [.kd (kdE E')]))
  | [], E, s5, s6, s7, s8, s9, h, hl, hn => ⟨fun c e => (by cases e), fun E' e => by
    injection e with e
    subst e
    exact ⟨s5, s6, s7, s8, s9, rfl⟩⟩
  | x :: Lv, E, s5, s6, s7, s8, s9, h, hl, hn => by
    obtain ⟨i, hi⟩ := hl x List.mem_cons_self
    obtain ⟨r1, r2⟩ := law_row_ok (L := L) (n := n) (m := m) (u1 := u1) (u3 := u3) (s6 := s6) (s7 := s7) (s8 := s8) (s9 := s9) hm h hi hn
    obtain ⟨T, hT⟩ := expN_pre (rules := rules) x E rules.length
    have hf : ∀ m1, forGo (fun σ m => evSs L (callN L P (n + 1)) b__law_clash_4 σ m) (.nm 5) (rwE (x :: Lv)) (envL s rules m.length u1 u3 (rwE (E.drop n0)) s5 s6 s7 s8 s9) m1 = (evSs L (callN L P (n + 1)) b__law_clash_4 (envL s rules m.length u1 u3 (rwE (E.drop n0)) (.v (.dat (tI x.2))) s6 s7 s8 s9) m1).bind fun y m2 => match y.1 with
      | .nx => forGo (fun σ m => evSs L (callN L P (n + 1)) b__law_clash_4 σ m) (.nm 5) (rwE Lv) y.2 m2
      | .cnt => forGo (fun σ m => evSs L (callN L P (n + 1)) b__law_clash_4 σ m) (.nm 5) (rwE Lv) y.2 m2
      | .brk => .ok (.nx, y.2) m2
      | .ret u => .ok (.ret u, y.2) m2 := fun m1 => rfl
    unfold lev
    cases hc : clE rules x with
    | some c =>
      obtain ⟨σ2, k⟩ := r1 c hc
      refine ⟨fun c' e => ?_, fun E' e => by cases e⟩
      injection e with e
      subst e
      exact ⟨σ2, _, by rw [hf, k, R.bind_ok]⟩
    | none =>
      obtain ⟨s7', s8', s9', k⟩ := r2 hc
      obtain ⟨i1, i2⟩ := level_ok hm (n0 := n0) Lv (E := expd rules x E) (s5 := .v (.dat (tI x.2))) (s6 := .v (.dat (.int (x.1 : Int)))) (s7 := s7') (s8 := s8') (s9 := s9') (expd_ok hm h hi) (fun y hy => by
        obtain ⟨j, hj⟩ := hl y (List.mem_cons_of_mem _ hy)
        refine ⟨j, ?_⟩
        unfold expd
        rw [hT, List.getElem?_append_left (List.getElem?_eq_some_iff.mp hj).1]; exact hj) (by unfold expd; rw [hT, List.length_append]; omega)
      refine ⟨fun c e => ?_, fun E' e => ?_⟩
      · obtain ⟨σ2, kv, k2⟩ := i1 c e
        exact ⟨σ2, kv, by rw [hf, k, R.bind_ok]; exact k2⟩
      · obtain ⟨t5, t6, t7, t8, t9, k2⟩ := i2 E' e
        exact ⟨t5, t6, t7, t8, t9, by rw [hf, k, R.bind_ok]; exact k2⟩
theorem turns_ok (hm : MOk b s rules) : ∀ (ds : List PyData) {Lv E : List En} {s3 s4 s5 s6 s7 s8 s9 : Sl}, EOk b s rules E → (∀ e ∈ Lv, ∃ i : Nat, E[i]? = some e) →
    (∀ c, lawR rules ds.length Lv E = some c → ∃ σ2 kv, forGo (fun σ m => evSs L (callN L P (n + 1)) b__law_clash_5 σ m) (.nm 3) ds [.v (.dat (mD true s rules)), .v (.dat (.list (rwE Lv))), .v (.ref m.length), s3, s4, s5, s6, s7, s8, s9] (m ++ [.kd (kdE E)]) = .ok (.ret (.dat (clD c)), σ2) (m ++ [.kd kv]))
    ∧ (lawR rules ds.length Lv E = none → ∃ σ2 kv, forGo (fun σ m => evSs L (callN L P (n + 1)) b__law_clash_5 σ m) (.nm 3) ds [.v (.dat (mD true s rules)), .v (.dat (.list (rwE Lv))), .v (.ref m.length), s3, s4, s5, s6, s7, s8, s9] (m ++ [.kd (kdE E)]) = .ok (.nx, σ2) (m ++ [.kd kv]))
  | [], Lv, E, s3, s4, s5, s6, s7, s8, s9, h, hl => ⟨fun c e => (by cases e), fun _ => ⟨_, _, rfl⟩⟩
  | d :: ds, Lv, E, s3, s4, s5, s6, s7, s8, s9, h, hl => by
    obtain ⟨r1, r2⟩ := level_ok (L := L) (n := n) (m := m) (u1 := .dat (.list (rwE Lv))) (u3 := .dat d) hm (n0 := E.length) Lv (E := E) (s5 := s5) (s6 := s6) (s7 := s7) (s8 := s8) (s9 := s9) h hl (Nat.le_refl _)
    rw [List.drop_eq_nil_of_le (Nat.le_refl _)] at r1 r2
    have hf : ∀ m1, forGo (fun σ m => evSs L (callN L P (n + 1)) b__law_clash_5 σ m) (.nm 3) (d :: ds) [.v (.dat (mD true s rules)), .v (.dat (.list (rwE Lv))), .v (.ref m.length), s3, s4, s5, s6, s7, s8, s9] m1 = (evSs L (callN L P (n + 1)) b__law_clash_5 [.v (.dat (mD true s rules)), .v (.dat (.list (rwE Lv))), .v (.ref m.length), .v (.dat d), s4, s5, s6, s7, s8, s9] m1).bind fun y m2 => match y.1 with
      | .nx => forGo (fun σ m => evSs L (callN L P (n + 1)) b__law_clash_5 σ m) (.nm 3) ds y.2 m2
      | .cnt => forGo (fun σ m => evSs L (callN L P (n + 1)) b__law_clash_5 σ m) (.nm 3) ds y.2 m2
      | .brk => .ok (.nx, y.2) m2
      | .ret u => .ok (.ret u, y.2) m2 := fun m1 => rfl
    have hloop : ∀ m1 xs, evS L (callN L P (n + 1)) l__law_clash_4 (envL s rules m.length (.dat (.list (rwE Lv))) (.dat d) xs s5 s6 s7 s8 s9) m1 = forGo (fun σ m => evSs L (callN L P (n + 1)) b__law_clash_4 σ m) (.nm 5) (rwE Lv) (envL s rules m.length (.dat (.list (rwE Lv))) (.dat d) xs s5 s6 s7 s8 s9) m1 := fun _ _ => by
      show evS L _ (.for_ _ _ _) _ _ = _
      simp only [envL, s_forE, it_seq, ev_var, getV, List.getElem?_cons_zero, List.getElem?_cons_succ, R.bind_ok, seqU_list]
    have e0 : rwE [] = [] := rfl
    rw [e0] at r1 r2
    have own4 : ∀ m1, evS L (callN L P (n + 1)) (.own 4 (.lst .nil)) [.v (.dat (mD true s rules)), .v (.dat (.list (rwE Lv))), .v (.ref m.length), .v (.dat d), s4, s5, s6, s7, s8, s9] m1 = .ok (.nx, envL s rules m.length (.dat (.list (rwE Lv))) (.dat d) [] s5 s6 s7 s8 s9) m1 := fun m1 => by
      unfold envL
      simp
    have hb : b__law_clash_5 = .cons (.own 4 (.lst .nil)) (.cons l__law_clash_4 (.cons (.frz 4) (.cons (.asg 1 (.var 4)) .nil))) := rfl
    show (∀ c, (match lev rules Lv E with
        | .inl c => some c
        | .inr E' => lawR rules ds.length (E'.drop E.length) E') = some c → _) ∧ ((match lev rules Lv E with
        | .inl c => some c
        | .inr E' => lawR rules ds.length (E'.drop E.length) E') = none → _)
    cases hv : lev rules Lv E with
    | inl c0 =>
      obtain ⟨σ2, kv, k⟩ := r1 c0 hv
      refine ⟨fun c e => ?_, fun e => by cases e⟩
      injection e with e
      subst e
      refine ⟨σ2, kv, ?_⟩
      rw [hf, hb, s_cons, own4, R.bind_ok, then_nx, s_cons, hloop, k, R.bind_ok, then_ret, R.bind_ok]
    | inr E' =>
      obtain ⟨s5', s6', s7', s8', s9', k⟩ := r2 E' hv
      obtain ⟨h1, T, hT⟩ := lev_ok hm h hl hv
      obtain ⟨i1, i2⟩ := turns_ok hm ds (Lv := E'.drop E.length) (E := E') (s3 := .v (.dat d)) (s4 := .v (.dat (.list (rwE (E'.drop E.length))))) (s5 := s5') (s6 := s6') (s7 := s7') (s8 := s8') (s9 := s9') h1 fun e he => List.getElem?_of_mem (List.mem_of_mem_drop he)
      have tl : evSs L (callN L P (n + 1)) (.cons (.frz 4) (.cons (.asg 1 (.var 4)) .nil)) (envL s rules m.length (.dat (.list (rwE Lv))) (.dat d) (rwE (E'.drop E.length)) s5' s6' s7' s8' s9') (m ++ [.kd (kdE E')]) = .ok (.nx, [.v (.dat (mD true s rules)), .v (.dat (.list (rwE (E'.drop E.length)))), .v (.ref m.length), .v (.dat d), .v (.dat (.list (rwE (E'.drop E.length)))), s5', s6', s7', s8', s9']) (m ++ [.kd (kdE E')]) := by
        unfold envL
        simp
      have bd : evSs L (callN L P (n + 1)) b__law_clash_5 [.v (.dat (mD true s rules)), .v (.dat (.list (rwE Lv))), .v (.ref m.length), .v (.dat d), s4, s5, s6, s7, s8, s9] (m ++ [.kd (kdE E)]) = .ok (.nx, [.v (.dat (mD true s rules)), .v (.dat (.list (rwE (E'.drop E.length)))), .v (.ref m.length), .v (.dat d), .v (.dat (.list (rwE (E'.drop E.length)))), s5', s6', s7', s8', s9']) (m ++ [.kd (kdE E')]) := by
        rw [hb, s_cons, own4, R.bind_ok, then_nx, s_cons, hloop, k, R.bind_ok, then_nx, tl]
      refine ⟨fun c e => ?_, fun e => ?_⟩
      · obtain ⟨σ2, kv, k2⟩ := i1 c e
        exact ⟨σ2, kv, by rw [hf, bd, R.bind_ok]; exact k2⟩
      · obtain ⟨σ2, kv, k2⟩ := i2 e
        exact ⟨σ2, kv, by rw [hf, bd, R.bind_ok]; exact k2⟩
theorem law_clash_ok (hm : MOk b s rules) : ∃ T, callN L P (n + 2) 21 [.dat (mD true s rules)] m = .ok (.dat (dueD b s rules)) (m ++ T) := by
  rw [call_eq P__law_clash rfl]
  have hne : rules ≠ [] := hm.ne
  obtain ⟨r0, rs, hr⟩ : ∃ r0 rs, rules = r0 :: rs := by
    cases rules with
    | nil => exact absurd rfl hne
    | cons r0 rs => exact ⟨r0, rs, rfl⟩
  have hr0 : r0.length = b := (hm.each r0 (by rw [hr]; exact List.mem_cons_self)).1
  have e0 : ixVal (mD true s rules) (.int 1) = some (.tuple (rD rules)) := rfl
  have e1 : ixVal (.tuple (rD rules)) (.int 0) = some (tI r0) := by rw [hr]; exact atI_nat (i := 0) (by unfold rD; rfl)
  have e2 : b1Val .len (tI r0) = some (.int (b : Nat)) := by show some (PyData.int ((iD r0).length : Nat)) = _; rw [iD_len, hr0]
  have e3 : ixVal (mD true s rules) (.int 0) = some (.int (s : Int)) := rfl
  have hb8 := hm.b8
  obtain ⟨r1, r2⟩ := turns_ok (L := L) (n := n) (m := m) hm (rngD 0 b) (Lv := E0 s) (E := E0 s) (s3 := .no) (s4 := .no) (s5 := .no) (s6 := .no) (s7 := .no) (s8 := .no) (s9 := .no) (E0_ok hm) fun e he => List.getElem?_of_mem he
  rw [rng_len, clash_law hm] at r1 r2
  have hw : rwE (E0 s) = [.tuple []] := rfl
  rw [hw] at r1 r2
  have a0 := new_kd (m := m) s
  have hloop : ∀ m1 s3, evS L (callN L P (n + 1)) l__law_clash_5 [.v (.dat (mD true s rules)), .v (.dat (.list [.tuple []])), .v (.ref m.length), s3, .no, .no, .no, .no, .no, .no] m1 = forGo (fun σ m => evSs L (callN L P (n + 1)) b__law_clash_5 σ m) (.nm 3) (rngD 0 b) [.v (.dat (mD true s rules)), .v (.dat (.list [.tuple []])), .v (.ref m.length), s3, .no, .no, .no, .no, .no, .no] m1 := fun m1 s3 => by
    show evS L _ (.for_ _ _ _) _ _ = _
    generalize mD true s rules = M at *
    generalize rD rules = Rd at *
    generalize tI r0 = R0 at *
    simp [e0, e1, e2, rng1_nat (show b ≤ 100000 by omega)]
  unfold dueD
  cases hc : clash b s rules with
  | some c =>
    obtain ⟨σ2, kv, k⟩ := r1 c hc
    refine ⟨[.kd kv], ?_⟩
    simp only
    rw [← hloop] at k
    generalize mD true s rules = M at *
    generalize kdE (E0 s) = Kd at *
    simp [d__law_clash, e3, a0, k]
  | none =>
    obtain ⟨σ2, kv, k⟩ := r2 hc
    refine ⟨[.kd kv], ?_⟩
    simp only
    rw [← hloop] at k
    generalize mD true s rules = M at *
    generalize kdE (E0 s) = Kd at *
    simp [d__law_clash, e3, a0, k]
end K44

set_option Elab.async false
set_option linter.all false
set_option maxRecDepth 100000
set_option maxHeartbeats 2000000
/-! The drawn machine. -/
namespace K44
open PySem PySem.Spec PyProof.Rows L2 Eng
variable {L n : Nat} {m : Mem}
theorem Bx.app {q : Nat} (h : Bx q m) (T : Mem) : Bx q (m ++ T) := by
  obtain ⟨g, s, h⟩ := h
  exact ⟨g, s, by rw [List.getElem?_append_left (List.getElem?_eq_some_iff.mp h).1]; exact h⟩
abbrev envM (q k : Nat) (uB uD : U) (s4 s5 s6 : Sl) : Eng.Env := [.v (.ref q), .v uB, .v uD, .v (.dat (.int (k : Int))), s4, s5, s6, .no]
theorem row1_ok {q k : Nat} {uB uD : U} {s4 s5 s6 : Sl} (hB : Bx q m) (hk : 1 ≤ k) (hk2 : k ≤ 1000) : ∃ (r : List Nat) (m' : Mem), r.length = k ∧ (∀ x ∈ r, x < k) ∧
    evE (callN L P (n + 2)) c__law_machine_1 (envM q k uB uD s4 s5 s6) m = .ok (.dat (.list (iD r))) m' ∧ Bx q m' := by
  obtain ⟨xs, m', h1, h2, h3⟩ := compGo_inv (elt := fun σ m => (evE (callN L P (n + 2)) e__law_machine_1 σ m).quiet) (tg := .nm 7) (σ := envM q k uB uD s4 s5 s6) (I := Bx q) (Rr := fun _ x => ∃ y : Nat, y < k ∧ x = PyData.int y) (ds := rngD 0 k) hB fun d hd m hB => by
    rw [rng0] at hd
    obtain ⟨i, hi, rfl⟩ := List.mem_map.mp hd
    have hi := List.mem_range.mp hi
    obtain ⟨d, m1, k1, k2, k3⟩ := pick_box (L := L) (n := n) (xs := [.int (i : Int), .int 0]) hB (by simp) (by simp)
    simp only [List.mem_cons, List.not_mem_nil, or_false] at k1
    rcases k1 with rfl | rfl
    · exact ⟨_, .int i, m1, rfl, by simp [e__law_machine_1, k2], k3, i, hi, rfl⟩
    · exact ⟨_, .int 0, m1, rfl, by simp [e__law_machine_1, k2], k3, 0, by omega, rfl⟩
  obtain ⟨r, rfl, h4, h5⟩ := all2_nat h3
  refine ⟨r, m', by rw [h4, rng_len], h5, ?_, h2⟩
  exact ev_comp (ds := rngD 0 k) (m1 := m) (by simp [envM, rng1_nat (show k ≤ 100000 by omega)]) (small1001 (by rw [rng_len]; exact hk2)) h1
theorem row2_ok {q k : Nat} {uB uD : U} {s4 s5 s6 : Sl} (hk : 1 ≤ k) (hk2 : k ≤ 1000) {C : Calls} : ∃ r : List Nat, r.length = k ∧ (∀ x ∈ r, x < k) ∧
    evE C c__law_machine_2 (envM q k uB uD s4 s5 s6) m = .ok (.dat (.list (iD r))) m := by
  refine ⟨(List.range k).map fun i => (i + 1) % k, by simp, fun x hx => ?_, ?_⟩
  · obtain ⟨i, _, rfl⟩ := List.mem_map.mp hx
    exact Nat.mod_lt _ (by omega)
  · have := ev_compM (C := C) (elt := e__law_machine_2) (tg := .nm 7) (it := .rng1 (.var 3)) (own := [("_law_board_here", 7)]) (σ := envM q k uB uD s4 s5 s6) (m := m) (l := List.range k) (g := fun (x : Nat) => .int (x : Int)) (f := fun i => .int (((i + 1) % k : Nat) : Int)) (by simp [envM, rng1_nat (show k ≤ 100000 by omega), rng0]) (by rw [List.length_range]; exact hk2) fun i hi => ?_
    · rw [show iD ((List.range k).map fun i => (i + 1) % k) = (List.range k).map fun i => PyData.int (((i + 1) % k : Nat) : Int) by unfold iD; rw [List.map_map]; rfl]
      exact this
    · refine ⟨_, rfl, ?_⟩
      have := bv_modI (i := (i : Int) + 1) (j := (k : Int)) (by omega)
      simp [e__law_machine_2, envM, this]
theorem row3_ok {q k : Nat} {uB uD : U} {s4 s5 s6 : Sl} (hB : Bx q m) (hk : 1 ≤ k) (hk2 : k ≤ 1000) : ∃ (r : List Nat) (m' : Mem), r.length = k ∧ (∀ x ∈ r, x < k) ∧
    evE (callN L P (n + 2)) c__law_machine_3 (envM q k uB uD s4 s5 s6) m = .ok (.dat (.list (iD r))) m' ∧ Bx q m' := by
  obtain ⟨xs, m', h1, h2, h3⟩ := compGo_inv (elt := fun σ m => (evE (callN L P (n + 2)) e__law_machine_3 σ m).quiet) (tg := .nm 7) (σ := envM q k uB uD s4 s5 s6) (I := Bx q) (Rr := fun _ x => ∃ y : Nat, y < k ∧ x = PyData.int y) (ds := rngD 0 k) hB fun d hd m hB => by
    obtain ⟨r, m1, k1, k2, k3⟩ := take_ok (L := L) (n := n + 1) hB hk hk2
    refine ⟨_, .int r, m1, rfl, ?_, k3, r, k1, rfl⟩
    simp [e__law_machine_3, envM, k2]
  obtain ⟨r, rfl, h4, h5⟩ := all2_nat h3
  refine ⟨r, m', by rw [h4, rng_len], h5, ?_, h2⟩
  exact ev_comp (ds := rngD 0 k) (m1 := m) (by simp [envM, rng1_nat (show k ≤ 100000 by omega)]) (small1001 (by rw [rng_len]; exact hk2)) h1
theorem rD_snoc (rs : List (List Nat)) (r : List Nat) : rD (rs ++ [r]) = rD rs ++ [tI r] := by unfold rD; rw [List.map_append]; rfl
theorem one_rule {q k : Nat} {uB uD : U} {rs : List (List Nat)} {d : PyData} {s6 : Sl} (hB : Bx q m) (hk : 1 ≤ k) (hk2 : k ≤ 1000) (hl : rs.length ≤ 100) : ∃ (r : List Nat) (s6' : Sl) (m' : Mem), (r.length = k ∧ ∀ x ∈ r, x < k) ∧
    evSs L (callN L P (n + 2)) b__law_machine_1 (envM q k uB uD (.own (rD rs)) (.v (.dat d)) s6) m = .ok (.nx, envM q k uB uD (.own (rD (rs ++ [r]))) (.v (.dat d)) s6') m' ∧ Bx q m' := by
  obtain ⟨w, m1, k1, k2, k3⟩ := take_ok (L := L) (n := n + 1) (k := 4) hB (by omega) (by omega)
  have k2 : callN L P (n + 2) 13 [.ref q, .dat (.int 4)] m = .ok (.dat (.int (w : Int))) m1 := k2
  have app := fun (r : List Nat) (m : Mem) (σ : Eng.Env) => app_ok (m := m) (σ := σ) (i := 4) (xs := rD rs) (d := tI r) (by rw [rD_len, sizeLine_eq]; omega)
  by_cases c0 : w = 0
  · obtain ⟨r, m2, h1, h2, h3, h4⟩ := row1_ok (L := L) (n := n) (q := q) (k := k) (uB := uB) (uD := uD) (s4 := .own (rD rs)) (s5 := .v (.dat d)) (s6 := .v (.dat (.int (w : Int)))) k3 hk hk2
    refine ⟨r, .v (.dat (.int (w : Int))), m2, ⟨h1, h2⟩, ?_, h4⟩
    rw [rD_snoc]
    subst c0
    have app := app r
    unfold envM at h3 ⊢
    unfold tI at app ⊢
    generalize rD rs = Rs at *
    generalize iD r = Ir at *
    simp only [show ((0 : Nat) : Int) = 0 from rfl] at k2 h3
    simp [b__law_machine_1, k2, bA_c__law_machine_1, h3, app]
  · by_cases c1 : w = 1
    · obtain ⟨r, h1, h2, h3⟩ := row2_ok (m := m1) (q := q) (k := k) (uB := uB) (uD := uD) (s4 := .own (rD rs)) (s5 := .v (.dat d)) (s6 := .v (.dat (.int (w : Int)))) hk hk2 (C := callN L P (n + 2))
      refine ⟨r, .v (.dat (.int (w : Int))), m1, ⟨h1, h2⟩, ?_, k3⟩
      rw [rD_snoc]
      subst c1
      have app := app r
      unfold envM at h3 ⊢
      unfold tI at app ⊢
      generalize rD rs = Rs at *
      generalize iD r = Ir at *
      simp only [show ((1 : Nat) : Int) = 1 from rfl] at k2 h3
      simp [b__law_machine_1, k2, bA_c__law_machine_2, h3, app]
    · obtain ⟨r, m2, h1, h2, h3, h4⟩ := row3_ok (L := L) (n := n) (q := q) (k := k) (uB := uB) (uD := uD) (s4 := .own (rD rs)) (s5 := .v (.dat d)) (s6 := .v (.dat (.int (w : Int)))) k3 hk hk2
      refine ⟨r, .v (.dat (.int (w : Int))), m2, ⟨h1, h2⟩, ?_, h4⟩
      rw [rD_snoc]
      have d0 : ¬ ((w : Int) = 0) := by omega
      have d1 : ¬ ((w : Int) = 1) := by omega
      have app := app r
      unfold envM at h3 ⊢
      unfold tI at app ⊢
      generalize rD rs = Rs at *
      generalize iD r = Ir at *
      simp [b__law_machine_1, k2, bA_c__law_machine_3, h3, app, d0, d1, c0, c1]
theorem machine_ok {q B D : Nat} (hB : Bx q m) (b1 : 1 ≤ B) (b8 : B ≤ 8) (d1 : 1 ≤ D) (d6 : D ≤ 6) : ∃ (b s : Nat) (rules : List (List Nat)) (m' : Mem), MOk b s rules ∧ b ≤ B ∧ rules.length ≤ D ∧ callN L P (n + 3) 15 [.ref q, .dat (.int B), .dat (.int D)] m = .ok (.dat (mD true s rules)) m' ∧ Bx q m' := by
  rw [call_eq P__law_machine rfl]
  obtain ⟨r, m1, a1, a2, a3⟩ := take_ok (L := L) (n := n + 1) (k := B) hB b1 (by omega)
  obtain ⟨c, m2, c1, c2, c3⟩ := take_ok (L := L) (n := n + 1) (k := D) a3 d1 (by omega)
  have := forGo_inv (body := fun σ m => evSs L (callN L P (n + 2)) b__law_machine_1 σ m) (tg := .nm 5) (rngD 0 (1 + c)) (fun i σ m' => Bx q m' ∧ ∃ rs s5 s6, rs.length = i ∧ (∀ r' ∈ rs, List.length r' = 1 + r ∧ ∀ x ∈ r', x < 1 + r) ∧ σ = envM q (1 + r) (.dat (.int B)) (.dat (.int D)) (.own (rD rs)) s5 s6)
    (fun i d σ m' hd ⟨hB, rs, s5, s6, hl, hr, hσ⟩ => by
      subst hσ
      obtain ⟨hi, rfl⟩ := rng_get hd
      obtain ⟨w, s6', m3, h1, h2, h3⟩ := one_rule (L := L) (n := n) (k := 1 + r) (uB := .dat (.int B)) (uD := .dat (.int D)) (rs := rs) (d := .int (i : Nat)) (s6 := s6) hB (by omega) (by omega) (by omega)
      refine ⟨envM q (1 + r) (.dat (.int B)) (.dat (.int D)) (.own (rD rs)) (.v (.dat (.int (i : Nat)))) s6, _, m3, rfl, h2, h3, rs ++ [w], _, _, by simp [hl], fun x hx => ?_, rfl⟩
      rcases List.mem_append.mp hx with hx | hx
      · exact hr x hx
      · rw [List.mem_singleton.mp hx]; exact h1)
    (m := m2) (σ := envM q (1 + r) (.dat (.int B)) (.dat (.int D)) (.own (rD [])) .no .no) ⟨c3, [], .no, .no, rfl, fun x hx => absurd hx (by simp), rfl⟩
  obtain ⟨σ', m3, h1, h2, rs, s5, s6, h3, h4, rfl⟩ := this
  rw [rng_len] at h3
  obtain ⟨s, m4, e1, e2, e3⟩ := take_ok (L := L) (n := n + 1) (k := 1 + r) h2 (by omega) (by omega)
  refine ⟨1 + r, s, rs, m4, ⟨e1, by omega, by intro z; rw [z] at h3; simp at h3; omega, by omega, h4⟩, by omega, by omega, ?_, e3⟩
  have e : ((1 + r : Nat) : Int) = 1 + (r : Int) := by omega
  have ec : (1 : Int) + (c : Int) = ((1 + c : Nat) : Int) := by omega
  have a2 : callN L P (n + 2) 13 [.ref q, .dat (.int B)] m = .ok (.dat (.int (r : Int))) m1 := a2
  have c2 : callN L P (n + 2) 13 [.ref q, .dat (.int D)] m1 = .ok (.dat (.int (c : Int))) m2 := c2
  have e2 : callN L P (n + 2) 13 [.ref q, .dat (.int ((1 + r : Nat) : Int))] m3 = .ok (.dat (.int (s : Int))) m4 := e2
  have loop : evS L (callN L P (n + 2)) l__law_machine_1 (envM q (1 + r) (.dat (.int B)) (.dat (.int D)) (.own (rD [])) .no .no) m1 = .ok (.nx, envM q (1 + r) (.dat (.int B)) (.dat (.int D)) (.own (rD rs)) s5 s6) m3 := by
    show evS L _ (.for_ _ _ _) _ _ = _
    have := rng1_nat (m := m2) (k := 1 + c) (by omega)
    rw [← ec] at this
    have hx : evI (callN L P (n + 2)) (.rng1 (.bin .add (.cst (.int 1)) (.call 13 (.cons (.var 0) (.cons (.var 2) .nil))))) (envM q (1 + r) (.dat (.int B)) (.dat (.int D)) (.own (rD [])) .no .no) m1 = .ok (rngD 0 (1 + c)) m2 := by
      unfold envM
      simp [c2, this]
    rw [s_forE, hx, R.bind_ok]
    exact h1
  have er : rD [] = [] := rfl
  unfold envM at loop
  rw [e, er] at loop
  rw [e] at e2
  unfold mD mkS
  simp only [if_true]
  generalize rD rs = Rs at *
  simp [d__law_machine, a2, loop, e2]
end K44

set_option Elab.async false
set_option linter.all false
set_option maxRecDepth 100000
set_option maxHeartbeats 2000000
/-! The law's body. -/
namespace K44
open PySem PySem.Spec PyProof.Rows L2 Eng
variable {L n : Nat} {m : Mem}
theorem pD_fac {p : Nat × Nat} (h1 : p.1 < 1001) (h2 : p.2 < 1001) : Fac (pD p) 24 1 := Fac.tuple (n := 2) (w := 11) (k := 0) (fun d hd => by
  simp only [List.mem_cons, List.not_mem_nil, or_false] at hd
  rcases hd with rfl | rfl
  · exact Fac.int h1
  · exact Fac.int h2) (by simp)
theorem hD_fac {h : Hi} (hs : ∀ p ∈ h, p.1 < 1001 ∧ p.2 < 1001) (hl : h.length ≤ 20) : Fac (hD h) 500 2 := Fac.tuple (n := 20) (w := 24) (k := 1) (fun d hd => by
  obtain ⟨p, hp, rfl⟩ := List.mem_map.mp hd
  exact pD_fac (hs p hp).1 (hs p hp).2) (by rw [hDl_len]; exact hl)
theorem tI_fac {v : List Nat} (h : ∀ x ∈ v, x < 1001) (hl : v.length ≤ 1000) : Fac (tI v) 12000 1 := Fac.tuple (n := 1000) (w := 11) (k := 0) (fun d hd => by
  obtain ⟨x, hx, rfl⟩ := List.mem_map.mp hd
  exact Fac.int (h x hx)) (by rw [iD_len]; exact hl)
theorem pair_repr {d : PyData} {w k : Nat} (h : Fac d w k) (hw : w ≤ 400000) (hk : k ≤ 10) : ∃ z : Str, b1Val .repr (.list [d, d]) = some (.str z) :=
  (Fac.list (n := 2) (w := w) (k := k) (fun x hx => by
    simp only [List.mem_cons, List.not_mem_nil, or_false] at hx
    rcases hx with rfl | rfl <;> exact h) (by simp)).repr (by omega) (by omega)
theorem ne_str (z : Str) : cmpVal .ne (.str z) (.str z) = some (.bool false) := by rw [cv_neS]; simp
theorem ne_tI (a : List Nat) (ha : ∀ x ∈ a, x < 1001) (la : a.length ≤ 1000) : cmpVal .ne (tI a) (tI a) = some (.bool false) := by
  have e : PyData.eqv (tI a) (tI a) = decide (a = a) := eqv_ints a a
  rw [cmp_neS (tI_fac ha la) (tI_fac ha la) (by omega) (by omega) rfl, e]; simp
theorem tabT_fac {rules : List (List Nat)} {s : Nat} {cs : List Nat} {h : Hi} (hc : ∀ x ∈ cs, x < 1001) (lc : cs.length ≤ 1000) (hb : ∀ x ∈ tbl rules s cs h, x < 1001) (lb : (tbl rules s cs h).length ≤ 1000) : Fac (tabT rules s cs h) (2 * 12001) 2 := Fac.tuple (n := 2) (w := 12000) (k := 1) (fun d hd => by
  simp only [List.mem_cons, List.not_mem_nil, or_false] at hd
  rcases hd with rfl | rfl
  · exact tI_fac hc lc
  · exact tI_fac hb lb) (by simp)
theorem tabT_eqv {rules : List (List Nat)} {s : Nat} {cs : List Nat} {g h : Hi} : PyData.eqv (tabT rules s cs g) (tabT rules s cs h) = decide (tbl rules s cs g = tbl rules s cs h) := by
  have e1 : PyData.eqv (tI cs) (tI cs) = decide (cs = cs) := eqv_ints cs cs
  have e2 : PyData.eqv (tI (tbl rules s cs g)) (tI (tbl rules s cs h)) = decide (tbl rules s cs g = tbl rules s cs h) := eqv_ints _ _
  show PyData.eqvAll [tI cs, tI (tbl rules s cs g)] [tI cs, tI (tbl rules s cs h)] = _
  simp only [PyData.eqvAll, e1, e2, decide_true, Bool.true_and, Bool.and_true]
def nthS : Nat → Ss → S
  | _, .nil => .pass
  | 0, .cons s _ => s
  | i + 1, .cons _ t => nthS i t
theorem consS {L : Nat} {C : Calls} {s : S} {ss : Ss} {σ σ1 σ2 : Eng.Env} {m m1 m2 : Mem} (h : evS L C s σ m = .ok (.nx, σ1) m1) (h2 : evSs L C ss σ1 m1 = .ok (.nx, σ2) m2) : evSs L C (.cons s ss) σ m = .ok (.nx, σ2) m2 := by
  rw [s_cons, h, R.bind_ok, then_nx, h2]
def cut : Ss → Nat → Ss
  | _, 0 => .nil
  | .nil, _ => .nil
  | .cons s t, k + 1 => .cons s (cut t k)
def thenB : Ss := match nthS 7 b_law_3 with
  | .ife _ t _ => t
  | _ => .nil
def elseB : Ss := match nthS 7 b_law_3 with
  | .ife _ _ t => t
  | _ => .nil
theorem b_law_3_cut : b_law_3 = .cons (nthS 0 b_law_3) (.cons (nthS 1 b_law_3) (.cons (nthS 2 b_law_3) (.cons (nthS 3 b_law_3) (.cons (nthS 4 b_law_3) (.cons (nthS 5 b_law_3) (.cons (nthS 6 b_law_3) (.cons (.ife (.cmp .is (.var 5) (.cst .none)) thenB elseB) .nil))))))) := rfl
theorem thenB_cut : thenB = .cons (nthS 0 thenB) (.cons (nthS 1 thenB) (.cons l_law_1 (.cons (nthS 3 thenB) .nil))) := rfl
theorem elseB_cut : elseB = .cons (nthS 0 elseB) (.cons (nthS 1 elseB) (.cons (nthS 2 elseB) (.cons (nthS 3 elseB) (.cons (nthS 4 elseB) (.cons (nthS 5 elseB) (.cons (nthS 6 elseB) (.cons l_law_2 .nil))))))) := rfl
section
variable {C : Calls} {q : Nat} {b s : Nat} {rules : List (List Nat)} {m1 m2 : Mem} {u0 u1 u2 : U} {s0 s1 s2 s3 s4 s5 s6 s7 s8 s9 s10 s11 s12 s13 s14 s15 s16 s17 : Sl}
theorem w0 {x : U} (h : C 12 [u0, u1] m = .ok x m1) : evS 1000 C (nthS 0 b_law_3) [.v u0, .v u1, s2, s3, s4, s5, s6, s7, s8, s9, s10, s11, s12, s13, s14, s15, s16, s17] m = .ok (.nx, [.v u0, .v u1, .v x, s3, s4, s5, s6, s7, s8, s9, s10, s11, s12, s13, s14, s15, s16, s17]) m1 := by
  simp [nthS, b_law_3, h]
theorem w1 (h : C 15 [.ref q, .dat (.int 4), .dat (.int 3)] m = .ok (.dat (mD true s rules)) m1) : evS 1000 C (nthS 1 b_law_3) [.v u0, .v u1, .v (.ref q), s3, s4, s5, s6, s7, s8, s9, s10, s11, s12, s13, s14, s15, s16, s17] m = .ok (.nx, [.v u0, .v u1, .v (.ref q), .v (.dat (mD true s rules)), s4, s5, s6, s7, s8, s9, s10, s11, s12, s13, s14, s15, s16, s17]) m1 := by
  simp [nthS, b_law_3, h]
theorem w2 {D : PyData} (h : C 21 [.dat (mD true s rules)] m = .ok (.dat D) m1) : evS 1000 C (nthS 2 b_law_3) [.v u0, .v u1, .v (.ref q), .v (.dat (mD true s rules)), s4, s5, s6, s7, s8, s9, s10, s11, s12, s13, s14, s15, s16, s17] m = .ok (.nx, [.v u0, .v u1, .v (.ref q), .v (.dat (mD true s rules)), .v (.dat D), s5, s6, s7, s8, s9, s10, s11, s12, s13, s14, s15, s16, s17]) m1 := by
  simp [nthS, b_law_3, h]
theorem w3 {D : PyData} {z : Str} (h1 : C 9 [.dat (mD true s rules)] m = .ok (.dat D) m1) (h2 : C 9 [.dat (mD false s rules)] m1 = .ok (.dat D) m2) (hz : b1Val .repr (.list [D, D]) = some (.str z)) : evS 1000 C (nthS 3 b_law_3) [.v u0, .v u1, .v (.ref q), .v (.dat (mD true s rules)), .v (.dat D), s5, s6, s7, s8, s9, s10, s11, s12, s13, s14, s15, s16, s17] m = .ok (.nx, [.v u0, .v u1, .v (.ref q), .v (.dat (mD true s rules)), .v (.dat D), s5, s6, s7, s8, s9, s10, s11, s12, s13, s14, s15, s16, s17]) m2 := by
  have e1 : b1Val .list (mD true s rules) = some (mD false s rules) := rfl
  have e2 := ne_str z
  generalize mD true s rules = M at *
  generalize mD false s rules = Mf at *
  simp [nthS, b_law_3, h1, h2, hz, e1, e2, permL]
theorem w4 {D : PyData} {bb : Bool} {z : Str} (h1 : C 10 [.dat (mD true s rules)] m = .ok (.dat (.bool bb)) m1) (h2 : C 10 [.dat (mD true s rules)] m1 = .ok (.dat (.bool bb)) m2) (hd : cmpVal .is D .none = some (.bool bb)) (hz : b1Val .repr (.list [.bool bb, .bool bb]) = some (.str z)) : evS 1000 C (nthS 4 b_law_3) [.v u0, .v u1, .v (.ref q), .v (.dat (mD true s rules)), .v (.dat D), s5, s6, s7, s8, s9, s10, s11, s12, s13, s14, s15, s16, s17] m = .ok (.nx, [.v u0, .v u1, .v (.ref q), .v (.dat (mD true s rules)), .v (.dat D), s5, s6, s7, s8, s9, s10, s11, s12, s13, s14, s15, s16, s17]) m2 := by
  have e2 := ne_str z
  generalize mD true s rules = M at *
  simp [nthS, b_law_3, h1, h2, hz, hd, e2, permL]
theorem w5 {D F : PyData} (h : C 11 [.dat (mD true s rules)] m = .ok (.dat F) m1) : evS 1000 C (nthS 5 b_law_3) [.v u0, .v u1, .v (.ref q), .v (.dat (mD true s rules)), .v (.dat D), s5, s6, s7, s8, s9, s10, s11, s12, s13, s14, s15, s16, s17] m = .ok (.nx, [.v u0, .v u1, .v (.ref q), .v (.dat (mD true s rules)), .v (.dat D), .v (.dat F), s6, s7, s8, s9, s10, s11, s12, s13, s14, s15, s16, s17]) m1 := by
  simp [nthS, b_law_3, h]
theorem w6 {D F : PyData} {bb : Bool} {z : Str} (h : C 11 [.dat (mD true s rules)] m = .ok (.dat F) m1) (hz : b1Val .repr F = some (.str z)) (hd : cmpVal .is D .none = some (.bool bb)) (hf : cmpVal .is F .none = some (.bool bb)) : evS 1000 C (nthS 6 b_law_3) [.v u0, .v u1, .v (.ref q), .v (.dat (mD true s rules)), .v (.dat D), .v (.dat F), s6, s7, s8, s9, s10, s11, s12, s13, s14, s15, s16, s17] m = .ok (.nx, [.v u0, .v u1, .v (.ref q), .v (.dat (mD true s rules)), .v (.dat D), .v (.dat F), s6, s7, s8, s9, s10, s11, s12, s13, s14, s15, s16, s17]) m1 := by
  have e2 := ne_str z
  have e3 : cmpVal .ne (.bool bb) (.bool bb) = some (.bool false) := by rw [cmp_neB]; simp
  generalize mD true s rules = M at *
  simp [nthS, b_law_3, h, hz, hd, hf, e2, e3, permL]
theorem t0 {D F : PyData} {d : PyData} (h : C 14 [.ref q, .dat (.list [.tuple [.int 1, .int 1], .tuple [.int 2, .int 1], .tuple [.int 1, .int 1, .int 1]])] m = .ok (.dat d) m1) : evS 1000 C (nthS 0 thenB) [.v u0, .v u1, .v (.ref q), .v (.dat (mD true s rules)), .v (.dat D), .v (.dat F), s6, s7, s8, s9, s10, s11, s12, s13, s14, s15, s16, s17] m = .ok (.nx, [.v u0, .v u1, .v (.ref q), .v (.dat (mD true s rules)), .v (.dat D), .v (.dat F), .v (.dat d), s7, s8, s9, s10, s11, s12, s13, s14, s15, s16, s17]) m1 := by
  simp [nthS, thenB, b_law_3, h]
theorem t1 {D F : PyData} {cs : List Nat} : evS 1000 C (nthS 1 thenB) [.v u0, .v u1, .v (.ref q), .v (.dat (mD true s rules)), .v (.dat D), .v (.dat F), .v (.dat (tI cs)), s7, s8, s9, s10, s11, s12, s13, s14, s15, s16, s17] m = .ok (.nx, [.v u0, .v u1, .v (.ref q), .v (.dat (mD true s rules)), .v (.dat D), .v (.dat F), .v (.dat (tI cs)), .v (.dat (.int 1)), s8, s9, s10, s11, s12, s13, s14, s15, s16, s17]) m := by
  generalize tI cs = Cs at *
  simp [nthS, thenB, b_law_3]
end
theorem prodL_snoc (l : List Nat) (c : Nat) : prodL (l ++ [c]) = prodL l * c := by
  induction l with
  | nil => show c * 1 = 1 * c; omega
  | cons x l ih => show x * prodL (l ++ [c]) = x * prodL l * c; rw [ih, Nat.mul_assoc]
section
variable {q : Nat} {b s : Nat} {rules : List (List Nat)} {m1 m2 : Mem} {u0 u1 u2 : U} {s0 s1 s2 s3 s4 s5 s6 s7 s8 s9 s10 s11 s12 s13 s14 s15 s16 s17 : Sl}
theorem one_small {c : Nat} (h3 : rules.length ≤ 3) (hc : c ≤ 3) : kn rules s [c] ≤ 3 ^ c := by
  have := kn_le (rules := rules) (s := s) [c]
  have hs : ([c] : List Nat).sum = c := by simp
  rw [hs] at this
  refine Nat.le_trans this (Nat.pow_le_pow_left ?_ c)
  show 1 * rules.length ≤ 3
  omega
theorem kinds1 {c : Nat} (hm : MOk b s rules) (h3 : rules.length ≤ 3) (hc : c ≤ 3) : callN L P (n + 4) 22 [.dat (mD true s rules), .dat (.int 1), .dat (.tuple [.int (c : Int)])] m = .ok (.dat (.int (kn rules s [c] : Nat))) m := by
  have := one_small (s := s) h3 hc
  have h27 : 3 ^ c ≤ 27 := Nat.le_trans (Nat.pow_le_pow_right (by omega) hc) (by decide)
  exact kinds_ok (cs := [c]) hm (by simp) h3 (by simp; exact hc) (by omega)
theorem t2 {D F : PyData} {cs : List Nat} (hm : MOk b s rules) (h3 : rules.length ≤ 3) (hc : ∀ c ∈ cs, c ≤ 3) : ∃ s8', evS 1000 (callN 1000 P 19) l_law_1 [.v u0, .v u1, .v (.ref q), .v (.dat (mD true s rules)), .v (.dat D), .v (.dat F), .v (.dat (tI cs)), .v (.dat (.int 1)), s8, s9, s10, s11, s12, s13, s14, s15, s16, s17] m = .ok (.nx, [.v u0, .v u1, .v (.ref q), .v (.dat (mD true s rules)), .v (.dat D), .v (.dat F), .v (.dat (tI cs)), .v (.dat (.int (prodL (cs.map fun c => kn rules s [c]) : Nat))), s8', s9, s10, s11, s12, s13, s14, s15, s16, s17]) m := by
  have := forGo_inv (body := fun σ m => evSs 1000 (callN 1000 P 19) b_law_1 σ m) (tg := .nm 8) (iD cs) (fun i σ m' => m' = m ∧ ∃ s8, σ = [.v u0, .v u1, .v (.ref q), .v (.dat (mD true s rules)), .v (.dat D), .v (.dat F), .v (.dat (tI cs)), .v (.dat (.int (prodL ((cs.take i).map fun c => kn rules s [c]) : Nat))), s8, s9, s10, s11, s12, s13, s14, s15, s16, s17])
    (fun i d σ m' hd ⟨hmm, s8, hσ⟩ => by
      subst hmm hσ
      obtain ⟨c, hcx, rfl⟩ := iD_get hd
      have k1 := kinds1 (L := 1000) (n := 15) (m := m') hm h3 (hc c (List.mem_of_getElem? hcx))
      have k1 : callN 1000 P 19 22 [.dat (mD true s rules), .dat (.int 1), .dat (.tuple [.int (c : Int)])] m' = .ok (.dat (.int (kn rules s [c] : Nat))) m' := k1
      have hk : kn rules s [c] ≤ 27 := Nat.le_trans (one_small (s := s) h3 (hc c (List.mem_of_getElem? hcx))) (Nat.le_trans (Nat.pow_le_pow_right (by omega) (hc c (List.mem_of_getElem? hcx))) (by decide))
      rw [take_snoc hcx, List.map_append, show ([c].map fun c => kn rules s [c]) = [kn rules s [c]] from rfl, prodL_snoc]
      have e1 : (((prodL ((cs.take i).map fun c => kn rules s [c])) * kn rules s [c] : Nat) : Int) = (prodL ((cs.take i).map fun c => kn rules s [c]) : Int) * (kn rules s [c] : Int) := Int.natCast_mul _ _
      rw [e1]
      have e2 := bv_mulI (mulC (prodL ((cs.take i).map fun c => kn rules s [c]) : Int) (j := (kn rules s [c] : Int)) (by omega) (by omega))
      refine ⟨[.v u0, .v u1, .v (.ref q), .v (.dat (mD true s rules)), .v (.dat D), .v (.dat F), .v (.dat (tI cs)), .v (.dat (.int (prodL ((cs.take i).map fun c => kn rules s [c]) : Nat))), .v (.dat (.int (c : Int))), s9, s10, s11, s12, s13, s14, s15, s16, s17], [.v u0, .v u1, .v (.ref q), .v (.dat (mD true s rules)), .v (.dat D), .v (.dat F), .v (.dat (tI cs)), .v (.dat (.int ((prodL ((cs.take i).map fun c => kn rules s [c]) : Int) * (kn rules s [c] : Int)))), .v (.dat (.int (c : Int))), s9, s10, s11, s12, s13, s14, s15, s16, s17], m', rfl, ?_, rfl, _, rfl⟩
      generalize (prodL ((cs.take i).map fun c => kn rules s [c]) : Int) = pp at *
      generalize kn rules s [c] = kk at *
      generalize tI cs = Cs at *
      generalize mD true s rules = M at *
      simp [b_law_1, k1, e2])
    (m := m) (σ := [.v u0, .v u1, .v (.ref q), .v (.dat (mD true s rules)), .v (.dat D), .v (.dat F), .v (.dat (tI cs)), .v (.dat (.int 1)), s8, s9, s10, s11, s12, s13, s14, s15, s16, s17]) ⟨rfl, s8, rfl⟩
  obtain ⟨σ', m', h1, rfl, s8', rfl⟩ := this
  rw [iD_len, List.take_length] at h1
  refine ⟨s8', ?_⟩
  show evS 1000 _ (.for_ _ _ _) _ _ = _
  simp only [s_forE, it_seq, ev_var, getV, List.getElem?_cons_zero, List.getElem?_cons_succ, R.bind_ok, tI, seqU_tuple]
  exact h1
theorem t3 {C : Calls} {D F : PyData} {cs : List Nat} {A : Nat} (hk : C 22 [.dat (mD true s rules), .dat (.int (cs.length : Nat)), .dat (tI cs)] m = .ok (.dat (.int (A : Nat))) m) : evS 1000 C (nthS 3 thenB) [.v u0, .v u1, .v (.ref q), .v (.dat (mD true s rules)), .v (.dat D), .v (.dat F), .v (.dat (tI cs)), .v (.dat (.int (A : Nat))), s8, s9, s10, s11, s12, s13, s14, s15, s16, s17] m = .ok (.nx, [.v u0, .v u1, .v (.ref q), .v (.dat (mD true s rules)), .v (.dat D), .v (.dat F), .v (.dat (tI cs)), .v (.dat (.int (A : Nat))), s8, s9, s10, s11, s12, s13, s14, s15, s16, s17]) m := by
  have el : b1Val .len (tI cs) = some (.int (cs.length : Nat)) := by show some (PyData.int ((iD cs).length : Nat)) = _; rw [iD_len]
  generalize tI cs = Cs at *
  generalize mD true s rules = M at *
  simp [nthS, thenB, b_law_3, el, hk]
theorem then_ok {D F : PyData} (hB : Bx q m) (hm : MOk b s rules) (h3 : rules.length ≤ 3) (hf : Free rules s) : ∃ (m' : Mem) (s6' s7' s8' : Sl), Bx q m' ∧ evSs 1000 (callN 1000 P 19) thenB [.v u0, .v u1, .v (.ref q), .v (.dat (mD true s rules)), .v (.dat D), .v (.dat F), s6, s7, s8, s9, s10, s11, s12, s13, s14, s15, s16, s17] m = .ok (.nx, [.v u0, .v u1, .v (.ref q), .v (.dat (mD true s rules)), .v (.dat D), .v (.dat F), s6', s7', s8', s9, s10, s11, s12, s13, s14, s15, s16, s17]) m' := by
  obtain ⟨d, m1, hd, k0, hB1⟩ := pick_box (L := 1000) (n := 17) (q := q) (xs := [.tuple [.int 1, .int 1], .tuple [.int 2, .int 1], .tuple [.int 1, .int 1, .int 1]]) hB (by simp) (by simp)
  obtain ⟨cs, rfl, hcs⟩ : ∃ cs : List Nat, d = tI cs ∧ (cs = [1, 1] ∨ cs = [2, 1] ∨ cs = [1, 1, 1]) := by
    simp only [List.mem_cons, List.not_mem_nil, or_false] at hd
    rcases hd with rfl | rfl | rfl
    · exact ⟨[1, 1], rfl, .inl rfl⟩
    · exact ⟨[2, 1], rfl, .inr (.inl rfl)⟩
    · exact ⟨[1, 1, 1], rfl, .inr (.inr rfl)⟩
  have hK : cs.length ≤ 3 := by rcases hcs with rfl | rfl | rfl <;> simp
  have hs : cs.sum ≤ 3 := by rcases hcs with rfl | rfl | rfl <;> simp
  have hc : ∀ c ∈ cs, c ≤ 3 := by rcases hcs with rfl | rfl | rfl <;> simp
  have hkn := kn_free (cs := cs) hf
  have hsm : kn rules s cs < 63 := by
    rw [hkn]
    have a1 := one_small (s := s) (c := 1) h3 (by omega)
    have a2 := one_small (s := s) (c := 2) h3 (by omega)
    have a3 : kn rules s [1] ≤ 3 := a1
    have a4 : kn rules s [2] ≤ 9 := a2
    rcases hcs with rfl | rfl | rfl
    · show kn rules s [1] * (kn rules s [1] * 1) < 63
      rw [Nat.mul_one]
      have := Nat.mul_le_mul a3 a3
      omega
    · show kn rules s [2] * (kn rules s [1] * 1) < 63
      rw [Nat.mul_one]
      have := Nat.mul_le_mul a4 a3
      omega
    · show kn rules s [1] * (kn rules s [1] * (kn rules s [1] * 1)) < 63
      rw [Nat.mul_one]
      have := Nat.mul_le_mul a3 (Nat.mul_le_mul a3 a3)
      omega
  have k3 := kinds_ok (L := 1000) (n := 15) (m := m1) (cs := cs) hm hK h3 hs hsm
  obtain ⟨s8', k2⟩ := t2 (m := m1) (q := q) (u0 := u0) (u1 := u1) (D := D) (F := F) (cs := cs) (s8 := s8) (s9 := s9) (s10 := s10) (s11 := s11) (s12 := s12) (s13 := s13) (s14 := s14) (s15 := s15) (s16 := s16) (s17 := s17) hm h3 hc
  rw [← hkn] at k2
  refine ⟨m1, .v (.dat (tI cs)), .v (.dat (.int (kn rules s cs : Nat))), s8', hB1, ?_⟩
  rw [thenB_cut]
  refine consS (t0 k0) (consS t1 (consS k2 (consS (t3 k3) ?_)))
  rw [s_nil]
end
end K44

set_option Elab.async false
set_option linter.all false
set_option maxRecDepth 100000
set_option maxHeartbeats 4000000
/-! The law where two deeds clash; the whole law. -/
namespace K44
open PySem PySem.Spec PyProof.Rows L2 Eng
variable {L n : Nat} {m : Mem}
variable {q : Nat} {b s : Nat} {rules : List (List Nat)} {m1 m2 : Mem} {u0 u1 u2 : U} {c : List Nat × Nat × Nat}
/-! the two histories -/
theorem replay_row (rules : List (List Nat)) : ∀ (w : List Nat) (x k j : Nat), replay rules (onH w) (x, [w.length + k, j]) = (runR rules x w, [k, j])
  | [], x, k, j => by simp [onH, replay, runR]
  | d :: w, x, k, j => by
    show replay rules (onH w) (rstep rules (x, [w.length + 1 + k, j]) (0, d)) = _
    have : rstep rules (x, [w.length + 1 + k, j]) (0, d) = (stepR rules d x, [w.length + k, j]) := by
      have h0 : ([w.length + 1 + k, j] : List Nat).getD 0 0 = w.length + 1 + k := rfl
      rw [rstep_pos (by show 0 < ([w.length + 1 + k, j] : List Nat).getD 0 0; rw [h0]; omega)]
      show (stepR rules d x, ([w.length + 1 + k, j] : List Nat).set 0 (w.length + 1 + k - 1)) = _
      rw [show w.length + 1 + k - 1 = w.length + k by omega]; rfl
    rw [this, replay_row rules w (stepR rules d x) k j]; rfl
theorem brd1 : board s rules (hst1 c) [c.1.length + 1, 1] = stepR rules c.2.2 (stepR rules c.2.1 (runR rules s c.1)) := by
  unfold board hst1
  rw [replay_app, replay_row]
  simp [replay, rstep]
theorem brd2 : board s rules (hst2 c) [c.1.length + 1, 1] = stepR rules c.2.1 (stepR rules c.2.2 (runR rules s c.1)) := by
  unfold board hst2
  rw [replay_app, replay_row]
  simp [replay, rstep]
theorem wd_onH1 (w : List Nat) : wd (onH w) 1 = [] := by
  have := wd_row 0 1 w
  exact this
theorem wd1 : ∀ a, a < 2 → wd (hst1 c) a = if a = 0 then c.1 ++ [c.2.1] else [c.2.2] := fun a ha => by
  unfold hst1
  rw [wd_app]
  rcases (by omega : a = 0 ∨ a = 1) with rfl | rfl
  · rw [wd_onH, if_pos rfl]; rfl
  · rw [wd_onH1, if_neg (by omega)]; rfl
theorem wd2 : ∀ a, a < 2 → wd (hst2 c) a = if a = 0 then c.1 ++ [c.2.1] else [c.2.2] := fun a ha => by
  unfold hst2
  rw [wd_app]
  rcases (by omega : a = 0 ∨ a = 1) with rfl | rfl
  · rw [wd_onH, if_pos rfl]; rfl
  · rw [wd_onH1, if_neg (by omega)]; rfl
theorem cnts1 : cnts 2 (hst1 c) = [c.1.length + 1, 1] := by
  show [cnt (hst1 c) 0, cnt (hst1 c) 1] = _
  rw [← wd_len, ← wd_len, wd1 0 (by omega), wd1 1 (by omega)]; simp
theorem cnts2 : cnts 2 (hst2 c) = [c.1.length + 1, 1] := by
  show [cnt (hst2 c) 0, cnt (hst2 c) 1] = _
  rw [← wd_len, ← wd_len, wd2 0 (by omega), wd2 1 (by omega)]; simp
theorem len1 : (hst1 c).length = c.1.length + 2 := by unfold hst1 onH; rw [List.length_append, List.length_map]; rfl
theorem len2 : (hst2 c).length = c.1.length + 2 := by unfold hst2 onH; rw [List.length_append, List.length_map]; rfl
structure CSome (b s : Nat) (rules : List (List Nat)) (c : List Nat × Nat × Nat) : Prop where
  l4 : c.1.length < b
  lt : ∀ d ∈ c.1, d < rules.length
  oo : c.2.1 < c.2.2
  o2 : c.2.2 < rules.length
  ne : stepR rules c.2.1 (stepR rules c.2.2 (runR rules s c.1)) ≠ stepR rules c.2.2 (stepR rules c.2.1 (runR rules s c.1))
theorem ok1 (h : CSome b s rules c) : HOk 2 rules.length (hst1 c) := fun p hp => by
  have := h.oo
  have := h.o2
  rcases List.mem_append.mp hp with hp | hp
  · obtain ⟨d, hd, rfl⟩ := List.mem_map.mp hp
    exact ⟨by show 0 < 2; omega, h.lt d hd⟩
  · simp only [List.mem_cons, List.not_mem_nil, or_false] at hp
    rcases hp with rfl | rfl
    · exact ⟨by show 0 < 2; omega, by show c.2.1 < rules.length; omega⟩
    · exact ⟨by show 1 < 2; omega, h.o2⟩
theorem ok2 (h : CSome b s rules c) : HOk 2 rules.length (hst2 c) := fun p hp => by
  have := h.oo
  have := h.o2
  rcases List.mem_append.mp hp with hp | hp
  · obtain ⟨d, hd, rfl⟩ := List.mem_map.mp hp
    exact ⟨by show 0 < 2; omega, h.lt d hd⟩
  · simp only [List.mem_cons, List.not_mem_nil, or_false] at hp
    rcases hp with rfl | rfl
    · exact ⟨by show 1 < 2; omega, h.o2⟩
    · exact ⟨by show 0 < 2; omega, by show c.2.1 < rules.length; omega⟩
theorem unlike (h : CSome b s rules c) : tbl rules s [c.1.length + 1, 1] (hst1 c) ≠ tbl rules s [c.1.length + 1, 1] (hst2 c) := fun e => by
  have hv : [c.1.length + 1, 1] ∈ vecs [c.1.length + 1, 1] := List.mem_of_getElem? (place_get ⟨rfl, fun i x y hx hy => by
    rw [hx] at hy; cases hy; exact Nat.le_refl _⟩)
  have := List.map_inj_left.mp e _ hv
  rw [brd1, brd2] at this
  exact h.ne this.symm
theorem rims12 (cs : List Nat) (hc : cs.length = 2) : rims rules s cs (hst1 c) = rims rules s cs (hst2 c) := by
  refine rims_eq.mpr fun a ha j _ => ?_
  rw [wd1 a (by omega), wd2 a (by omega)]
theorem more (h : CSome b s rules c) : kn rules s [c.1.length + 1] * kn rules s [1] < kn rules s [c.1.length + 1, 1] := by
  have := kn_more (cs := [c.1.length + 1, 1]) ⟨ok1 h, cnts1⟩ ⟨ok2 h, cnts2⟩ (rims12 _ rfl) (unlike h)
  have e : prodL ([c.1.length + 1, 1].map fun c => kn rules s [c]) = kn rules s [c.1.length + 1] * (kn rules s [1] * 1) := rfl
  rw [e, Nat.mul_one] at this
  exact this
theorem csome (hm : MOk b s rules) (h : clash b s rules = some c) : CSome b s rules c := by
  obtain ⟨h1, h2, h3, h4, h5⟩ := clash_some hm h
  exact ⟨h1, h2, h3, h4, h5⟩
theorem few (hm : MOk b s rules) (h : clash b s rules = some c) (h3 : rules.length ≤ 3) (hl : c.1.length + 1 < 3) : kn rules s [c.1.length + 1, 1] < 63 := by
  rcases (by omega : c.1.length = 0 ∨ c.1.length = 1) with e | e
  · rw [e]
    have := kn_le (rules := rules) (s := s) [0 + 1, 1]
    have h6 : (2 * rules.length) ^ 2 ≤ 6 ^ 2 := Nat.pow_le_pow_left (by omega) 2
    have : kn rules s [0 + 1, 1] ≤ (2 * rules.length) ^ 2 := this
    omega
  · rw [e]
    have := kn_21 (clash_first hm h (fun z => by rw [z] at e; cases e)) h3
    show kn rules s [2, 1] < 63
    omega
section
variable {C : Calls} {D F : PyData} {s0 s1 s2 s3 s4 s5 s6 s7 s8 s9 s10 s11 s12 s13 s14 s15 s16 s17 : Sl}
theorem e0 (hl : c.1.length ≤ 100) : evS 1000 C (nthS 0 elseB) [.v u0, .v u1, .v (.ref q), .v (.dat (mD true s rules)), .v (.dat (clD c)), .v (.dat (.tuple [hD (hst1 c), hD (hst2 c)])), s6, s7, s8, s9, s10, s11, s12, s13, s14, s15, s16, s17] m = .ok (.nx, [.v u0, .v u1, .v (.ref q), .v (.dat (mD true s rules)), .v (.dat (clD c)), .v (.dat (.tuple [hD (hst1 c), hD (hst2 c)])), s6, s7, s8, .v (.dat (hD (onH c.1))), s10, s11, s12, s13, s14, s15, s16, s17]) m := by
  have key : evE C c_law_1 [.v u0, .v u1, .v (.ref q), .v (.dat (mD true s rules)), .v (.dat (clD c)), .v (.dat (.tuple [hD (hst1 c), hD (hst2 c)])), s6, s7, s8, s9, s10, s11, s12, s13, s14, s15, s16, s17] m = .ok (.dat (.list (hDl (onH c.1)))) m := by
    have := ev_compM (C := C) (elt := e_law_1) (tg := .nm 16) (it := .seq (.ix (.var 4) (.cst (.int 0)))) (own := [("_law_deed", 16)]) (σ := [.v u0, .v u1, .v (.ref q), .v (.dat (mD true s rules)), .v (.dat (clD c)), .v (.dat (.tuple [hD (hst1 c), hD (hst2 c)])), s6, s7, s8, s9, s10, s11, s12, s13, s14, s15, s16, s17]) (m := m) (l := c.1) (g := fun (d : Nat) => .int (d : Int)) (f := fun d => pD (0, d)) (by
      have : ixVal (clD c) (.int 0) = some (tI c.1) := rfl
      generalize clD c = Cl at *
      simp [this, tI, iD]) (by omega) fun d hd => ⟨_, rfl, by simp [e_law_1, pD]⟩
    rw [show hDl (onH c.1) = c.1.map fun d => pD (0, d) by unfold hDl onH; rw [List.map_map]; rfl]
    exact this
  unfold hD at *
  generalize hDl (onH c.1) = Ho at *
  generalize clD c = Cl at *
  generalize mD true s rules = M at *
  generalize hDl (hst1 c) = H1 at *
  generalize hDl (hst2 c) = H2 at *
  simp [nthS, elseB, b_law_3, bA_c_law_1, key]
theorem e1 (hl : c.1.length ≤ 100) : evS 1000 C (nthS 1 elseB) [.v u0, .v u1, .v (.ref q), .v (.dat (mD true s rules)), .v (.dat (clD c)), .v (.dat (.tuple [hD (hst1 c), hD (hst2 c)])), s6, s7, s8, .v (.dat (hD (onH c.1))), s10, s11, s12, s13, s14, s15, s16, s17] m = .ok (.nx, [.v u0, .v u1, .v (.ref q), .v (.dat (mD true s rules)), .v (.dat (clD c)), .v (.dat (.tuple [hD (hst1 c), hD (hst2 c)])), s6, s7, s8, .v (.dat (hD (onH c.1))), .v (.dat (.tuple [hD (hst1 c), hD (hst2 c)])), s11, s12, s13, s14, s15, s16, s17]) m := by
  have a1 := tup_app (xs := hDl (onH c.1)) (ys := [.tuple [.int 0, .int (c.2.1 : Int)], .tuple [.int 1, .int (c.2.2 : Int)]]) (by unfold onH; rw [hDl_len, List.length_map]; show c.1.length + 2 ≤ 1000; omega)
  have a2 := tup_app (xs := hDl (onH c.1)) (ys := [.tuple [.int 1, .int (c.2.2 : Int)], .tuple [.int 0, .int (c.2.1 : Int)]]) (by unfold onH; rw [hDl_len, List.length_map]; show c.1.length + 2 ≤ 1000; omega)
  have h1 : hD (hst1 c) = .tuple (hDl (onH c.1) ++ [.tuple [.int 0, .int (c.2.1 : Int)], .tuple [.int 1, .int (c.2.2 : Int)]]) := by unfold hD hst1 hDl; rw [List.map_append]; rfl
  have h2 : hD (hst2 c) = .tuple (hDl (onH c.1) ++ [.tuple [.int 1, .int (c.2.2 : Int)], .tuple [.int 0, .int (c.2.1 : Int)]]) := by unfold hD hst2 hDl; rw [List.map_append]; rfl
  have i1 : ixVal (clD c) (.int 1) = some (.int (c.2.1 : Int)) := rfl
  have i2 : ixVal (clD c) (.int 2) = some (.int (c.2.2 : Int)) := rfl
  have hh : hD (onH c.1) = .tuple (hDl (onH c.1)) := rfl
  rw [h1, h2, hh]
  generalize hDl (onH c.1) ++ [.tuple [.int 0, .int (c.2.1 : Int)], .tuple [.int 1, .int (c.2.2 : Int)]] = X1 at *
  generalize hDl (onH c.1) ++ [.tuple [.int 1, .int (c.2.2 : Int)], .tuple [.int 0, .int (c.2.1 : Int)]] = X2 at *
  generalize hDl (onH c.1) = X0 at *
  generalize clD c = Cl at *
  generalize mD true s rules = M at *
  simp [nthS, elseB, b_law_3, a1, a2, i1, i2]
theorem e2 {z : Str} (hz : b1Val .repr (.tuple [hD (hst1 c), hD (hst2 c)]) = some (.str z)) : evS 1000 C (nthS 2 elseB) [.v u0, .v u1, .v (.ref q), .v (.dat (mD true s rules)), .v (.dat (clD c)), .v (.dat (.tuple [hD (hst1 c), hD (hst2 c)])), s6, s7, s8, .v (.dat (hD (onH c.1))), .v (.dat (.tuple [hD (hst1 c), hD (hst2 c)])), s11, s12, s13, s14, s15, s16, s17] m = .ok (.nx, [.v u0, .v u1, .v (.ref q), .v (.dat (mD true s rules)), .v (.dat (clD c)), .v (.dat (.tuple [hD (hst1 c), hD (hst2 c)])), s6, s7, s8, .v (.dat (hD (onH c.1))), .v (.dat (.tuple [hD (hst1 c), hD (hst2 c)])), s11, s12, s13, s14, s15, s16, s17]) m := by
  have a1 := ne_str z
  generalize hD (onH c.1) = X0 at *
  generalize PyData.tuple [hD (hst1 c), hD (hst2 c)] = X1 at *
  generalize clD c = Cl at *
  generalize mD true s rules = M at *
  simp [nthS, elseB, b_law_3, a1, hz]
theorem e3 : evS 1000 C (nthS 3 elseB) [.v u0, .v u1, .v (.ref q), .v (.dat (mD true s rules)), .v (.dat (clD c)), .v (.dat (.tuple [hD (hst1 c), hD (hst2 c)])), s6, s7, s8, .v (.dat (hD (onH c.1))), .v (.dat (.tuple [hD (hst1 c), hD (hst2 c)])), s11, s12, s13, s14, s15, s16, s17] m = .ok (.nx, [.v u0, .v u1, .v (.ref q), .v (.dat (mD true s rules)), .v (.dat (clD c)), .v (.dat (.tuple [hD (hst1 c), hD (hst2 c)])), s6, s7, .v (.dat (.int ((c.1.length : Int) + 1))), .v (.dat (hD (onH c.1))), .v (.dat (.tuple [hD (hst1 c), hD (hst2 c)])), s11, s12, s13, s14, s15, s16, s17]) m := by
  have el : b1Val .len (hD (onH c.1)) = some (.int (c.1.length : Nat)) := by show some (PyData.int ((hDl (onH c.1)).length : Nat)) = _; rw [hDl_len]; unfold onH; rw [List.length_map]
  generalize hD (onH c.1) = X0 at *
  generalize PyData.tuple [hD (hst1 c), hD (hst2 c)] = X1 at *
  generalize clD c = Cl at *
  generalize mD true s rules = M at *
  simp [nthS, elseB, b_law_3, el]
theorem e4 {A B E : Nat} (h : c.1.length + 1 < 3 → C 22 [.dat (mD true s rules), .dat (.int 2), .dat (.tuple [.int ((c.1.length : Int) + 1), .int 1])] m = .ok (.dat (.int (A : Nat))) m ∧ C 22 [.dat (mD true s rules), .dat (.int 1), .dat (.tuple [.int ((c.1.length : Int) + 1)])] m = .ok (.dat (.int (B : Nat))) m ∧ C 22 [.dat (mD true s rules), .dat (.int 1), .dat (.tuple [.int 1])] m = .ok (.dat (.int (E : Nat))) m ∧ B * E < A ∧ E ≤ 100) : evS 1000 C (nthS 4 elseB) [.v u0, .v u1, .v (.ref q), .v (.dat (mD true s rules)), .v (.dat (clD c)), .v (.dat (.tuple [hD (hst1 c), hD (hst2 c)])), s6, s7, .v (.dat (.int ((c.1.length : Int) + 1))), .v (.dat (hD (onH c.1))), .v (.dat (.tuple [hD (hst1 c), hD (hst2 c)])), s11, s12, s13, s14, s15, s16, s17] m = .ok (.nx, [.v u0, .v u1, .v (.ref q), .v (.dat (mD true s rules)), .v (.dat (clD c)), .v (.dat (.tuple [hD (hst1 c), hD (hst2 c)])), s6, s7, .v (.dat (.int ((c.1.length : Int) + 1))), .v (.dat (hD (onH c.1))), .v (.dat (.tuple [hD (hst1 c), hD (hst2 c)])), s11, s12, s13, s14, s15, s16, s17]) m := by
  generalize hD (onH c.1) = X0 at *
  generalize PyData.tuple [hD (hst1 c), hD (hst2 c)] = X1 at *
  generalize clD c = Cl at *
  generalize mD true s rules = M at *
  by_cases hl : c.1.length + 1 < 3
  · obtain ⟨k1, k2, k3, h5, h6⟩ := h hl
    have a1 := bv_mulI (mulC (B : Int) (j := (E : Int)) (by omega) (by omega))
    have a2 : (B : Int) * (E : Int) < (A : Int) := by rw [← Int.natCast_mul]; omega
    have a3 : (c.1.length : Int) + 1 < 3 := by omega
    generalize (c.1.length : Int) = w at *
    simp [nthS, elseB, b_law_3, k1, k2, k3, a1, a2, a3]
  · have a3 : ¬ ((c.1.length : Int) + 1 < 3) := by omega
    generalize (c.1.length : Int) = w at *
    simp [nthS, elseB, b_law_3, a3]
theorem e5 {T1 T2 : PyData} (k1 : C 19 [.dat (mD true s rules), .dat (.int 2), .dat (hD (hst1 c))] m = .ok (.dat T1) m) (k2 : C 19 [.dat (mD true s rules), .dat (.int 2), .dat (hD (hst2 c))] m = .ok (.dat T2) m) : evS 1000 C (nthS 5 elseB) [.v u0, .v u1, .v (.ref q), .v (.dat (mD true s rules)), .v (.dat (clD c)), .v (.dat (.tuple [hD (hst1 c), hD (hst2 c)])), s6, s7, .v (.dat (.int ((c.1.length : Int) + 1))), .v (.dat (hD (onH c.1))), .v (.dat (.tuple [hD (hst1 c), hD (hst2 c)])), s11, s12, s13, s14, s15, s16, s17] m = .ok (.nx, [.v u0, .v u1, .v (.ref q), .v (.dat (mD true s rules)), .v (.dat (clD c)), .v (.dat (.tuple [hD (hst1 c), hD (hst2 c)])), s6, s7, .v (.dat (.int ((c.1.length : Int) + 1))), .v (.dat (hD (onH c.1))), .v (.dat (.tuple [hD (hst1 c), hD (hst2 c)])), s11, .v (.dat T1), .v (.dat T2), s14, s15, s16, s17]) m := by
  have key : evE C c_law_2 [.v u0, .v u1, .v (.ref q), .v (.dat (mD true s rules)), .v (.dat (clD c)), .v (.dat (.tuple [hD (hst1 c), hD (hst2 c)])), s6, s7, .v (.dat (.int ((c.1.length : Int) + 1))), .v (.dat (hD (onH c.1))), .v (.dat (.tuple [hD (hst1 c), hD (hst2 c)])), s11, s12, s13, s14, s15, s16, s17] m = .ok (.dat (.list [T1, T2])) m := by
    have := ev_compM (C := C) (elt := e_law_2) (tg := .nm 15) (it := .seq (.var 5)) (own := [("_law_history_here", 15)]) (σ := [.v u0, .v u1, .v (.ref q), .v (.dat (mD true s rules)), .v (.dat (clD c)), .v (.dat (.tuple [hD (hst1 c), hD (hst2 c)])), s6, s7, .v (.dat (.int ((c.1.length : Int) + 1))), .v (.dat (hD (onH c.1))), .v (.dat (.tuple [hD (hst1 c), hD (hst2 c)])), s11, s12, s13, s14, s15, s16, s17]) (m := m) (l := [true, false]) (g := fun x => if x = true then hD (hst1 c) else hD (hst2 c)) (f := fun x => if x = true then T1 else T2) (by simp) (by simp) fun x hx => by
      cases x
      · exact ⟨_, rfl, by
          generalize hD (hst2 c) = H2 at *
          generalize mD true s rules = M at *
          simp [e_law_2, k2]⟩
      · exact ⟨_, rfl, by
          generalize hD (hst1 c) = H1 at *
          generalize mD true s rules = M at *
          simp [e_law_2, k1]⟩
    exact this
  generalize hD (onH c.1) = X0 at *
  generalize PyData.tuple [hD (hst1 c), hD (hst2 c)] = X1 at *
  generalize clD c = Cl at *
  generalize mD true s rules = M at *
  have hn : nthS 5 elseB = .asgT [.nm 12, .nm 13] c_law_2 := rfl
  rw [hn, s_asgTE, key]
  simp [asgTgs, asgTg]
theorem e6 {cs : List Nat} {g h : Hi} (n1 : cmpVal .ne (tI cs) (tI cs) = some (.bool false)) (n2 : cmpVal .eq (tabT rules s cs g) (tabT rules s cs h) = some (.bool false)) : evS 1000 C (nthS 6 elseB) [.v u0, .v u1, .v (.ref q), .v (.dat (mD true s rules)), .v (.dat (clD c)), .v (.dat (.tuple [hD (hst1 c), hD (hst2 c)])), s6, s7, .v (.dat (.int ((c.1.length : Int) + 1))), .v (.dat (hD (onH c.1))), .v (.dat (.tuple [hD (hst1 c), hD (hst2 c)])), s11, .v (.dat (tabT rules s cs g)), .v (.dat (tabT rules s cs h)), s14, s15, s16, s17] m = .ok (.nx, [.v u0, .v u1, .v (.ref q), .v (.dat (mD true s rules)), .v (.dat (clD c)), .v (.dat (.tuple [hD (hst1 c), hD (hst2 c)])), s6, s7, .v (.dat (.int ((c.1.length : Int) + 1))), .v (.dat (hD (onH c.1))), .v (.dat (.tuple [hD (hst1 c), hD (hst2 c)])), s11, .v (.dat (tabT rules s cs g)), .v (.dat (tabT rules s cs h)), s14, s15, s16, s17]) m := by
  have i1 : ixVal (tabT rules s cs g) (.int 0) = some (tI cs) := rfl
  have i2 : ixVal (tabT rules s cs h) (.int 0) = some (tI cs) := rfl
  have i3 : ixVal (.tuple [hD (hst1 c), hD (hst2 c)]) (.int 0) = some (hD (hst1 c)) := rfl
  have i4 : ixVal (clD c) (.int 0) = some (tI c.1) := rfl
  have l1 : b1Val .len (hD (hst1 c)) = some (.int ((c.1.length : Int) + 2)) := by show some (PyData.int ((hDl (hst1 c)).length : Nat)) = _; rw [hDl_len, len1]; rfl
  have l2 : b1Val .len (tI c.1) = some (.int (c.1.length : Nat)) := by show some (PyData.int ((iD c.1).length : Nat)) = _; rw [iD_len]
  generalize tabT rules s cs g = T1 at *
  generalize tabT rules s cs h = T2 at *
  generalize PyData.tuple [hD (hst1 c), hD (hst2 c)] = X1 at *
  generalize hD (onH c.1) = X0 at *
  generalize hD (hst1 c) = X2 at *
  generalize clD c = Cl at *
  generalize tI c.1 = W at *
  generalize tI cs = Cs at *
  generalize mD true s rules = M at *
  generalize (c.1.length : Int) = w at *
  simp [nthS, elseB, b_law_3, i1, i2, i3, i4, l1, l2, n1, n2]
end
theorem tbl_len (cs : List Nat) (h : Hi) : (tbl rules s cs h).length = prod1 cs := by unfold tbl; rw [List.length_map, vecs_len]
section
variable {T1 T2 : PyData} {s0 s1 s2 s3 s4 s5 s6 s7 s8 s9 s10 s11 s12 s13 s14 s15 s16 s17 : Sl}
theorem run_lt (hm : MOk b s rules) : ∀ (h : Hi) (x : Nat) (l : List Nat), x < b → (∀ p ∈ h, p.2 < rules.length) → (replay rules h (x, l)).1 < b
  | [], x, l, hx, _ => hx
  | p :: h, x, l, hx, ho => by
    rw [replay_cons]
    have hp := ho p List.mem_cons_self
    have ho' : ∀ q ∈ h, q.2 < rules.length := fun q hq => ho q (List.mem_cons_of_mem _ hq)
    by_cases c : 0 < l.getD p.1 0
    · rw [rstep_pos c]; exact run_lt hm h _ _ (stepR_lt hm hp hx) ho'
    · rw [rstep_neg (by omega)]; exact run_lt hm h _ _ hx ho'
theorem tbl_small (hm : MOk b s rules) {K : Nat} {h : Hi} (ho : HOk K rules.length h) (cs : List Nat) : ∀ x ∈ tbl rules s cs h, x < 1001 := fun x hx => by
  obtain ⟨v, _, rfl⟩ := List.mem_map.mp hx
  have := run_lt hm h s v hm.sb fun p hp => (ho p hp).2
  have := hm.b8
  unfold board
  omega
theorem e7 (hm : MOk b s rules) (h : CSome b s rules c) (hb : b ≤ 4) : ∃ s11' s14', evS 1000 (callN 1000 P 19) l_law_2 [.v u0, .v u1, .v (.ref q), .v (.dat (mD true s rules)), .v (.dat (clD c)), .v (.dat (.tuple [hD (hst1 c), hD (hst2 c)])), s6, s7, .v (.dat (.int ((c.1.length : Int) + 1))), .v (.dat (hD (onH c.1))), .v (.dat (.tuple [hD (hst1 c), hD (hst2 c)])), s11, .v (.dat T1), .v (.dat T2), s14, s15, s16, s17] m = .ok (.nx, [.v u0, .v u1, .v (.ref q), .v (.dat (mD true s rules)), .v (.dat (clD c)), .v (.dat (.tuple [hD (hst1 c), hD (hst2 c)])), s6, s7, .v (.dat (.int ((c.1.length : Int) + 1))), .v (.dat (hD (onH c.1))), .v (.dat (.tuple [hD (hst1 c), hD (hst2 c)])), s11', .v (.dat T1), .v (.dat T2), s14', s15, s16, s17]) m := by
  have hl4 := h.l4
  have := forGo_inv (body := fun σ m => evSs 1000 (callN 1000 P 19) b_law_2 σ m) (tg := .nm 11) (rngD 0 2) (fun i σ m' => m' = m ∧ ∃ s11 s14, σ = [.v u0, .v u1, .v (.ref q), .v (.dat (mD true s rules)), .v (.dat (clD c)), .v (.dat (.tuple [hD (hst1 c), hD (hst2 c)])), s6, s7, .v (.dat (.int ((c.1.length : Int) + 1))), .v (.dat (hD (onH c.1))), .v (.dat (.tuple [hD (hst1 c), hD (hst2 c)])), s11, .v (.dat T1), .v (.dat T2), s14, s15, s16, s17])
    (fun i d σ m' hd ⟨hmm, s11, s14, hσ⟩ => by
      subst hmm hσ
      obtain ⟨hi, rfl⟩ := rng_get hd
      have inner : ∀ (g : Hi) (s15 : Sl), g.length ≤ 100 → evE (callN 1000 P 19) c_law_3 [.v u0, .v u1, .v (.ref q), .v (.dat (mD true s rules)), .v (.dat (clD c)), .v (.dat (.tuple [hD (hst1 c), hD (hst2 c)])), s6, s7, .v (.dat (.int ((c.1.length : Int) + 1))), .v (.dat (hD (onH c.1))), .v (.dat (.tuple [hD (hst1 c), hD (hst2 c)])), .v (.dat (.int (i : Int))), .v (.dat T1), .v (.dat T2), s14, .v (.dat (hD g)), s16, s17] m' = .ok (.dat (mkS false (hDl (onH (wd g i))))) m' := fun g s15 hg => by
        have := ev_compF (C := callN 1000 P 19) (elt := e_law_3) (cond := t_law_1) (tg := .tp [.nm 17, .nm 16]) (it := .seq (.var 15)) (own := [("_law_who", 17), ("_law_deed", 16)]) (σ := [.v u0, .v u1, .v (.ref q), .v (.dat (mD true s rules)), .v (.dat (clD c)), .v (.dat (.tuple [hD (hst1 c), hD (hst2 c)])), s6, s7, .v (.dat (.int ((c.1.length : Int) + 1))), .v (.dat (hD (onH c.1))), .v (.dat (.tuple [hD (hst1 c), hD (hst2 c)])), .v (.dat (.int (i : Int))), .v (.dat T1), .v (.dat T2), s14, .v (.dat (hD g)), s16, s17]) (m := m') (l := g) (g := pD) (f := fun p => pD (0, p.2)) (p := fun p => p.1 == i) rfl (by simp [hD, hDl]) (by omega) fun p hp => by
          refine ⟨_, rfl, ?_, fun _ => ?_⟩
          · have : decide ((p.1 : Int) = (i : Int)) = (p.1 == i) := by rw [Bool.eq_iff_iff, beq_iff_eq, decide_eq_true_eq]; omega
            simp [t_law_1, this]
          · simp [e_law_3, pD]
        rw [show mkS false (hDl (onH (wd g i))) = .list ((g.filter fun p => p.1 == i).map fun p => pD (0, p.2)) by unfold hDl onH wd; rw [List.map_map, List.map_map]; rfl]
        exact this
      have hw : wd (hst1 c) i = wd (hst2 c) i := by rw [wd1 i hi, wd2 i hi]
      have hwl : (wd (hst2 c) i).length ≤ 100 := by
        rw [wd2 i hi]
        split <;> simp
        omega
      have hok : HOk 1 rules.length (onH (wd (hst2 c) i)) := fun p hp => by
        obtain ⟨d, hd, rfl⟩ := List.mem_map.mp hp
        exact ⟨by show 0 < 1; omega, wd_lt (ok2 h) d hd⟩
      have hct : cnts 1 (onH (wd (hst2 c) i)) = [(wd (hst2 c) i).length] := by
        show [cnt (onH (wd (hst2 c) i)) 0] = _
        rw [← wd_len, wd_onH]
      have tk := table_ok (L := 1000) (n := 17) (m := m') (k := 1) (h := onH (wd (hst2 c) i)) false hm hok (by omega) (by unfold onH; rw [List.length_map]; omega) (by rw [hct]; show 1 * ((wd (hst2 c) i).length + 1) ≤ 1000; omega)
      have tk : callN 1000 P 19 19 [.dat (mD true s rules), .dat (.int 1), .dat (mkS false (hDl (onH (wd (hst2 c) i))))] m' = .ok (.dat (tabT rules s (cnts 1 (onH (wd (hst2 c) i))) (onH (wd (hst2 c) i)))) m' := tk
      have fac : Fac (tabT rules s (cnts 1 (onH (wd (hst2 c) i))) (onH (wd (hst2 c) i))) (2 * 12001) 2 := tabT_fac (fun x hx => by
        rw [hct, List.mem_singleton] at hx; omega) (by rw [hct]; simp) (tbl_small hm hok _) (by rw [tbl_len, hct]; show 1 * ((wd (hst2 c) i).length + 1) ≤ 1000; omega)
      have ne : cmpVal .ne (tabT rules s (cnts 1 (onH (wd (hst2 c) i))) (onH (wd (hst2 c) i))) (tabT rules s (cnts 1 (onH (wd (hst2 c) i))) (onH (wd (hst2 c) i))) = some (.bool false) := by
        rw [cmp_neS fac fac (by omega) (by omega) rfl, tabT_eqv]; simp
      have key : evE (callN 1000 P 19) c_law_4 [.v u0, .v u1, .v (.ref q), .v (.dat (mD true s rules)), .v (.dat (clD c)), .v (.dat (.tuple [hD (hst1 c), hD (hst2 c)])), s6, s7, .v (.dat (.int ((c.1.length : Int) + 1))), .v (.dat (hD (onH c.1))), .v (.dat (.tuple [hD (hst1 c), hD (hst2 c)])), .v (.dat (.int (i : Int))), .v (.dat T1), .v (.dat T2), s14, s15, s16, s17] m' = .ok (.dat (.list [tabT rules s (cnts 1 (onH (wd (hst2 c) i))) (onH (wd (hst2 c) i)), tabT rules s (cnts 1 (onH (wd (hst2 c) i))) (onH (wd (hst2 c) i))])) m' := by
        have := ev_compM (C := callN 1000 P 19) (elt := e_law_4) (tg := .nm 15) (it := .seq (.var 5)) (own := [("_law_history_here", 15)]) (σ := [.v u0, .v u1, .v (.ref q), .v (.dat (mD true s rules)), .v (.dat (clD c)), .v (.dat (.tuple [hD (hst1 c), hD (hst2 c)])), s6, s7, .v (.dat (.int ((c.1.length : Int) + 1))), .v (.dat (hD (onH c.1))), .v (.dat (.tuple [hD (hst1 c), hD (hst2 c)])), .v (.dat (.int (i : Int))), .v (.dat T1), .v (.dat T2), s14, s15, s16, s17]) (m := m') (l := [hst1 c, hst2 c]) (g := hD) (f := fun _ => tabT rules s (cnts 1 (onH (wd (hst2 c) i))) (onH (wd (hst2 c) i))) (by simp) (by simp) fun x hx => by
          refine ⟨_, rfl, ?_⟩
          have hx2 : wd x i = wd (hst2 c) i ∧ x.length ≤ 100 := by
            simp only [List.mem_cons, List.not_mem_nil, or_false] at hx
            rcases hx with rfl | rfl
            · exact ⟨hw, by rw [len1]; omega⟩
            · exact ⟨rfl, by rw [len2]; omega⟩
          have k := inner x (.v (.dat (hD x))) hx2.2
          rw [hx2.1] at k
          have e : e_law_4 = .call 19 (.cons (.var 3) (.cons (.cst (.int 1)) (.cons c_law_3 .nil))) := rfl
          rw [e]
          show evE _ _ [.v u0, .v u1, .v (.ref q), .v (.dat (mD true s rules)), .v (.dat (clD c)), .v (.dat (.tuple [hD (hst1 c), hD (hst2 c)])), s6, s7, .v (.dat (.int ((c.1.length : Int) + 1))), .v (.dat (hD (onH c.1))), .v (.dat (.tuple [hD (hst1 c), hD (hst2 c)])), .v (.dat (.int (i : Int))), .v (.dat T1), .v (.dat T2), s14, .v (.dat (hD x)), s16, s17] m' = _
          generalize mkS false (hDl (onH (wd (hst2 c) i))) = Hx at *
          generalize tabT rules s (cnts 1 (onH (wd (hst2 c) i))) (onH (wd (hst2 c) i)) = Tx at *
          generalize hD x = Xd at *
          generalize PyData.tuple [hD (hst1 c), hD (hst2 c)] = X1 at *
          generalize hD (onH c.1) = X0 at *
          generalize clD c = Cl at *
          generalize mD true s rules = M at *
          simp [k, tk]
        exact this
      generalize tabT rules s (cnts 1 (onH (wd (hst2 c) i))) (onH (wd (hst2 c) i)) = Tx at *
      refine ⟨[.v u0, .v u1, .v (.ref q), .v (.dat (mD true s rules)), .v (.dat (clD c)), .v (.dat (.tuple [hD (hst1 c), hD (hst2 c)])), s6, s7, .v (.dat (.int ((c.1.length : Int) + 1))), .v (.dat (hD (onH c.1))), .v (.dat (.tuple [hD (hst1 c), hD (hst2 c)])), .v (.dat (.int (i : Int))), .v (.dat T1), .v (.dat T2), s14, s15, s16, s17], [.v u0, .v u1, .v (.ref q), .v (.dat (mD true s rules)), .v (.dat (clD c)), .v (.dat (.tuple [hD (hst1 c), hD (hst2 c)])), s6, s7, .v (.dat (.int ((c.1.length : Int) + 1))), .v (.dat (hD (onH c.1))), .v (.dat (.tuple [hD (hst1 c), hD (hst2 c)])), .v (.dat (.int (i : Int))), .v (.dat T1), .v (.dat T2), .v (.dat (.list [Tx, Tx])), s15, s16, s17], m', rfl, ?_, rfl, _, _, rfl⟩
      have i0 : ixVal (.list [Tx, Tx]) (.int 0) = some Tx := rfl
      have i1 : ixVal (.list [Tx, Tx]) (.int 1) = some Tx := rfl
      generalize PyData.tuple [hD (hst1 c), hD (hst2 c)] = X1 at *
      generalize hD (onH c.1) = X0 at *
      generalize clD c = Cl at *
      generalize mD true s rules = M at *
      simp [b_law_2, key, i0, i1, ne])
    (m := m) (σ := [.v u0, .v u1, .v (.ref q), .v (.dat (mD true s rules)), .v (.dat (clD c)), .v (.dat (.tuple [hD (hst1 c), hD (hst2 c)])), s6, s7, .v (.dat (.int ((c.1.length : Int) + 1))), .v (.dat (hD (onH c.1))), .v (.dat (.tuple [hD (hst1 c), hD (hst2 c)])), s11, .v (.dat T1), .v (.dat T2), s14, s15, s16, s17]) ⟨rfl, s11, s14, rfl⟩
  obtain ⟨σ', m', h1, rfl, s11', s14', rfl⟩ := this
  refine ⟨s11', s14', ?_⟩
  show evS 1000 _ (.for_ _ _ _) _ _ = _
  have hr : rng1U 2 m' = .ok (rngD 0 2) m' := rng1_nat (k := 2) (by omega)
  simp only [s_forE, it_rng1, ev_cst, R.bind_ok, asInt, hr]
  exact h1
theorem else_ok (hm : MOk b s rules) (hc : clash b s rules = some c) (h3 : rules.length ≤ 3) (hb : b ≤ 4) : ∃ (s8' s9' s10' s11' s12' s13' s14' : Sl), evSs 1000 (callN 1000 P 19) elseB [.v u0, .v u1, .v (.ref q), .v (.dat (mD true s rules)), .v (.dat (clD c)), .v (.dat (.tuple [hD (hst1 c), hD (hst2 c)])), s6, s7, s8, s9, s10, s11, s12, s13, s14, s15, s16, s17] m = .ok (.nx, [.v u0, .v u1, .v (.ref q), .v (.dat (mD true s rules)), .v (.dat (clD c)), .v (.dat (.tuple [hD (hst1 c), hD (hst2 c)])), s6, s7, s8', s9', s10', s11', s12', s13', s14', s15, s16, s17]) m := by
  have h := csome hm hc
  have hl := h.l4
  have hsm : ∀ g : Hi, HOk 2 rules.length g → ∀ p ∈ g, p.1 < 1001 ∧ p.2 < 1001 := fun g hg p hp => by have := hg p hp; omega
  have f1 := hD_fac (hsm _ (ok1 h)) (by rw [len1]; omega)
  have f2 := hD_fac (hsm _ (ok2 h)) (by rw [len2]; omega)
  have ff : Fac (.tuple [hD (hst1 c), hD (hst2 c)]) (2 * 501) 3 := Fac.tuple (n := 2) (w := 500) (k := 2) (fun d hd => by
    simp only [List.mem_cons, List.not_mem_nil, or_false] at hd
    rcases hd with rfl | rfl
    · exact f1
    · exact f2) (by simp)
  obtain ⟨z, hz⟩ := ff.repr (by omega) (by omega)
  have hp : prod1 [c.1.length + 1, 1] ≤ 1000 := by
    show 1 * (c.1.length + 1 + 1) * 2 ≤ 1000
    omega
  have k1 := table_ok (L := 1000) (n := 17) (m := m) (k := 2) (h := hst1 c) true hm (ok1 h) (by omega) (by rw [len1]; omega) (by rw [cnts1]; exact hp)
  have k2 := table_ok (L := 1000) (n := 17) (m := m) (k := 2) (h := hst2 c) true hm (ok2 h) (by omega) (by rw [len2]; omega) (by rw [cnts2]; exact hp)
  rw [cnts1] at k1
  rw [cnts2] at k2
  have k4 : c.1.length + 1 < 3 → callN 1000 P 19 22 [.dat (mD true s rules), .dat (.int 2), .dat (.tuple [.int ((c.1.length : Int) + 1), .int 1])] m = .ok (.dat (.int (kn rules s [c.1.length + 1, 1] : Nat))) m ∧ callN 1000 P 19 22 [.dat (mD true s rules), .dat (.int 1), .dat (.tuple [.int ((c.1.length : Int) + 1)])] m = .ok (.dat (.int (kn rules s [c.1.length + 1] : Nat))) m ∧ callN 1000 P 19 22 [.dat (mD true s rules), .dat (.int 1), .dat (.tuple [.int 1])] m = .ok (.dat (.int (kn rules s [1] : Nat))) m ∧ kn rules s [c.1.length + 1] * kn rules s [1] < kn rules s [c.1.length + 1, 1] ∧ kn rules s [1] ≤ 100 := fun hlt => by
    have a1 := kinds_ok (L := 1000) (n := 15) (m := m) (cs := [c.1.length + 1, 1]) hm (by simp) h3 (by simp; omega) (few hm hc h3 hlt)
    have a2 := kinds1 (L := 1000) (n := 15) (m := m) (c := c.1.length + 1) hm h3 (by omega)
    have a3 := kinds1 (L := 1000) (n := 15) (m := m) (c := 1) hm h3 (by omega)
    have a4 : kn rules s [1] ≤ 3 := one_small (s := s) (c := 1) h3 (by omega)
    exact ⟨a1, a2, a3, more h, by omega⟩
  have hcs : ∀ x ∈ [c.1.length + 1, 1], x < 1001 := fun x hx => by
    simp only [List.mem_cons, List.not_mem_nil, or_false] at hx
    omega
  have n1 := ne_tI [c.1.length + 1, 1] hcs (by simp)
  have t1 : Fac (tabT rules s [c.1.length + 1, 1] (hst1 c)) (2 * 12001) 2 := tabT_fac hcs (by simp) (tbl_small hm (ok1 h) _) (by rw [tbl_len]; exact hp)
  have t2 : Fac (tabT rules s [c.1.length + 1, 1] (hst2 c)) (2 * 12001) 2 := tabT_fac hcs (by simp) (tbl_small hm (ok2 h) _) (by rw [tbl_len]; exact hp)
  have n2 : cmpVal .eq (tabT rules s [c.1.length + 1, 1] (hst1 c)) (tabT rules s [c.1.length + 1, 1] (hst2 c)) = some (.bool false) := by
    rw [cmp_eqS t1 t2 (by omega) (by omega) rfl, tabT_eqv, decide_eq_false (unlike h)]
  obtain ⟨s11', s14', k7⟩ := e7 (m := m) (q := q) (u0 := u0) (u1 := u1) (c := c) (T1 := tabT rules s [c.1.length + 1, 1] (hst1 c)) (T2 := tabT rules s [c.1.length + 1, 1] (hst2 c)) (s6 := s6) (s7 := s7) (s11 := s11) (s14 := s14) (s15 := s15) (s16 := s16) (s17 := s17) hm h hb
  refine ⟨.v (.dat (.int ((c.1.length : Int) + 1))), .v (.dat (hD (onH c.1))), .v (.dat (.tuple [hD (hst1 c), hD (hst2 c)])), s11', .v (.dat (tabT rules s [c.1.length + 1, 1] (hst1 c))), .v (.dat (tabT rules s [c.1.length + 1, 1] (hst2 c))), s14', ?_⟩
  rw [elseB_cut]
  refine consS (e0 (by omega)) (consS (e1 (by omega)) (consS (e2 hz) (consS e3 (consS (e4 k4) (consS (e5 k1 k2) (consS (e6 n1 n2) (consS k7 ?_)))))))
  rw [s_nil]
end
end K44

set_option Elab.async false
set_option linter.all false
set_option maxRecDepth 100000
set_option maxHeartbeats 4000000
/-! The law. -/
namespace K44
open PySem PySem.Spec PyProof.Rows L2 Eng
variable {m : Mem}
theorem due_fac {b s : Nat} {rules : List (List Nat)} (hm : MOk b s rules) (h3 : rules.length ≤ 3) (hb : b ≤ 4) : Fac (dueD b s rules) (3 * 12001) 2 := by
  unfold dueD
  cases hc : clash b s rules with
  | none => exact Fac.none.mono (by omega) (by omega)
  | some c =>
    have h := csome hm hc
    have := h.l4
    have := h.oo
    have := h.o2
    refine Fac.tuple (n := 3) (w := 12000) (k := 1) (fun d hd => ?_) (by simp)
    simp only [List.mem_cons, List.not_mem_nil, or_false] at hd
    rcases hd with rfl | rfl | rfl
    · exact tI_fac (fun x hx => by have := h.lt x hx; omega) (by omega)
    · exact (Fac.int (i := c.2.1) (by omega)).mono (by omega) (by omega)
    · exact (Fac.int (i := c.2.2) (by omega)).mono (by omega) (by omega)
theorem rim_fac {b s : Nat} {rules : List (List Nat)} (hm : MOk b s rules) (h3 : rules.length ≤ 3) (hb : b ≤ 4) : Fac (rimD b s rules) (2 * 501) 3 := by
  unfold rimD
  cases hc : clash b s rules with
  | none => exact Fac.none.mono (by omega) (by omega)
  | some c =>
    have h := csome hm hc
    have := h.l4
    have hsm : ∀ g : Hi, HOk 2 rules.length g → ∀ p ∈ g, p.1 < 1001 ∧ p.2 < 1001 := fun g hg p hp => by have := hg p hp; omega
    refine Fac.tuple (n := 2) (w := 500) (k := 2) (fun d hd => ?_) (by simp)
    simp only [List.mem_cons, List.not_mem_nil, or_false] at hd
    rcases hd with rfl | rfl
    · exact hD_fac (hsm _ (ok1 h)) (by rw [len1]; omega)
    · exact hD_fac (hsm _ (ok2 h)) (by rw [len2]; omega)
theorem rim_is {b s : Nat} {rules : List (List Nat)} : cmpVal .is (rimD b s rules) .none = some (.bool (clash b s rules).isNone) := by
  unfold rimD
  cases clash b s rules <;> rfl
theorem law_body {ns : List Int} {k : Nat} {s2 s3 s4 s5 s6 s7 s8 s9 s10 s11 s12 s13 s14 s15 s16 s17 : Sl} (hns : ns.length ≤ 63) (hk : k ≤ 1000) : ∃ (m' : Mem) (v2 v3 v4 v5 v6 v7 v8 v9 v10 v11 v12 v13 v14 v15 v16 v17 : Sl), evSs 1000 (callN 1000 P 19) b_law_3 [.v (.dat (.list (ns.map .int))), .v (.dat (.int k)), s2, s3, s4, s5, s6, s7, s8, s9, s10, s11, s12, s13, s14, s15, s16, s17] m = .ok (.nx, [.v (.dat (.list (ns.map .int))), .v (.dat (.int k)), v2, v3, v4, v5, v6, v7, v8, v9, v10, v11, v12, v13, v14, v15, v16, v17]) m' := by
  obtain ⟨m1, a1, B1⟩ := box_ok (L := 1000) (n := 18) (m := m) (ns := ns) hk hns
  obtain ⟨b, s, rules, m2, hm, hb, h3, a2, B2⟩ := machine_ok (L := 1000) (n := 16) (q := m.length) (B := 4) (D := 3) B1 (by omega) (by omega) (by omega) (by omega)
  generalize m.length = q at *
  obtain ⟨T3, a3⟩ := law_clash_ok (L := 1000) (n := 17) (m := m2) hm
  obtain ⟨T4, a4⟩ := clash_ok (L := 1000) (n := 11) (m := m2 ++ T3) true (by omega) hm
  obtain ⟨T5, a5⟩ := clash_ok (L := 1000) (n := 11) (m := m2 ++ T3 ++ T4) false (by omega) hm
  obtain ⟨T6, a6⟩ := costs_ok (L := 1000) (n := 10) (m := m2 ++ T3 ++ T4 ++ T5) true (by omega) hm
  obtain ⟨T7, a7⟩ := costs_ok (L := 1000) (n := 10) (m := m2 ++ T3 ++ T4 ++ T5 ++ T6) true (by omega) hm
  obtain ⟨T8, a8⟩ := rim_ok (L := 1000) (n := 10) (m := m2 ++ T3 ++ T4 ++ T5 ++ T6 ++ T7) true (by omega) hm
  obtain ⟨T9, a9⟩ := rim_ok (L := 1000) (n := 10) (m := m2 ++ T3 ++ T4 ++ T5 ++ T6 ++ T7 ++ T8) true (by omega) hm
  have B9 : Bx q (m2 ++ T3 ++ T4 ++ T5 ++ T6 ++ T7 ++ T8 ++ T9) := ((((((B2.app T3).app T4).app T5).app T6).app T7).app T8).app T9
  obtain ⟨z1, r1⟩ := pair_repr (due_fac hm h3 hb) (by omega) (by omega)
  obtain ⟨z2, r2⟩ := pair_repr (Fac.bool (clash b s rules).isNone) (by omega) (by omega)
  obtain ⟨z3, r3⟩ := (rim_fac hm h3 hb).repr (by omega) (by omega)
  generalize m2 ++ T3 ++ T4 ++ T5 ++ T6 ++ T7 ++ T8 ++ T9 = m9 at *
  rw [b_law_3_cut]
  have hd := due_is (b := b) (s := s) (rules := rules)
  have hf := rim_is (b := b) (s := s) (rules := rules)
  cases hc : clash b s rules with
  | none =>
    have e1 : dueD b s rules = .none := by unfold dueD; rw [hc]
    have e2 : rimD b s rules = .none := by unfold rimD; rw [hc]
    obtain ⟨m', t6, t7, t8, _, kt⟩ := then_ok (m := m9) (q := q) (u0 := .dat (.list (ns.map .int))) (u1 := .dat (.int k)) (D := dueD b s rules) (F := rimD b s rules) (s6 := s6) (s7 := s7) (s8 := s8) (s9 := s9) (s10 := s10) (s11 := s11) (s12 := s12) (s13 := s13) (s14 := s14) (s15 := s15) (s16 := s16) (s17 := s17) B9 hm h3 (clash_none hm hc)
    refine ⟨m', .v (.ref q), .v (.dat (mD true s rules)), .v (.dat (dueD b s rules)), .v (.dat (rimD b s rules)), t6, t7, t8, s9, s10, s11, s12, s13, s14, s15, s16, s17, ?_⟩
    refine consS (w0 a1) (consS (w1 a2) (consS (w2 a3) (consS (w3 a4 a5 r1) (consS (w4 a6 a7 hd r2) (consS (w5 a8) (consS (w6 a9 r3 hd hf) (consS ?_ (s_nil ..))))))))
    rw [hc] at hf
    rw [s_ifeE]
    simp only [ev_cmp, bA_var, bA_cst, ev_var, ev_cst, getV, List.getElem?_cons_zero, List.getElem?_cons_succ, R.bind_ok, d2_dat, hf, Option.isNone, R.dat_some, asB_bool, if_true]
    exact kt
  | some c =>
    have e1 : dueD b s rules = clD c := by unfold dueD; rw [hc]
    have e2 : rimD b s rules = .tuple [hD (hst1 c), hD (hst2 c)] := by unfold rimD; rw [hc]
    obtain ⟨t8, t9, t10, t11, t12, t13, t14, kt⟩ := else_ok (m := m9) (q := q) (u0 := .dat (.list (ns.map .int))) (u1 := .dat (.int k)) (c := c) (s6 := s6) (s7 := s7) (s8 := s8) (s9 := s9) (s10 := s10) (s11 := s11) (s12 := s12) (s13 := s13) (s14 := s14) (s15 := s15) (s16 := s16) (s17 := s17) hm hc h3 hb
    rw [← e1, ← e2] at kt
    refine ⟨m9, .v (.ref q), .v (.dat (mD true s rules)), .v (.dat (dueD b s rules)), .v (.dat (rimD b s rules)), s6, s7, t8, t9, t10, t11, t12, t13, t14, s15, s16, s17, ?_⟩
    refine consS (w0 a1) (consS (w1 a2) (consS (w2 a3) (consS (w3 a4 a5 r1) (consS (w4 a6 a7 hd r2) (consS (w5 a8) (consS (w6 a9 r3 hd hf) (consS ?_ (s_nil ..))))))))
    rw [hc] at hf
    rw [s_ifeE]
    simp only [ev_cmp, bA_var, bA_cst, ev_var, ev_cst, getV, List.getElem?_cons_zero, List.getElem?_cons_succ, R.bind_ok, d2_dat, hf, Option.isNone, R.dat_some, asB_bool, Bool.false_eq_true, if_false]
    exact kt
theorem law_true (ns : List Int) (hns : ns.length ≤ 63) : ∃ m', callN 1000 P 20 23 [.dat (.list (ns.map .int))] [] = .ok (.dat (.bool true)) m' := by
  obtain ⟨r, hr, hr6⟩ : ∃ r : Nat, (∀ m : Mem, evI (callN 1000 P 19) (.rng1 (.cst (.int 4))) [.v (.dat (.list (ns.map .int))), .no, .no, .no, .no, .no, .no, .no, .no, .no, .no, .no, .no, .no, .no, .no, .no, .no] m = .ok (rngD 0 r) m) ∧ r ≤ 1000 := by
    refine ⟨4, fun m => ?_, by omega⟩
    simp only [it_rng1, ev_cst, R.bind_ok, asInt_int]
    exact rng1_nat (k := 4) (by omega)
  have := forGo_inv (body := fun σ m => evSs 1000 (callN 1000 P 19) b_law_3 σ m) (tg := .nm 1) (rngD 0 r) (fun i σ m' => ∃ (s1 t2 t3 t4 t5 t6 t7 t8 t9 t10 t11 t12 t13 t14 t15 t16 t17 : Sl), σ = [.v (.dat (.list (ns.map .int))), s1, t2, t3, t4, t5, t6, t7, t8, t9, t10, t11, t12, t13, t14, t15, t16, t17])
    (fun i d σ m' hd ⟨s1, t2, t3, t4, t5, t6, t7, t8, t9, t10, t11, t12, t13, t14, t15, t16, t17, hσ⟩ => by
      subst hσ
      have hi : i < r := by have := (List.getElem?_eq_some_iff.mp hd).1; rwa [rng_len] at this
      obtain ⟨_, rfl⟩ := rng_get hd
      obtain ⟨m2, v2, v3, v4, v5, v6, v7, v8, v9, v10, v11, v12, v13, v14, v15, v16, v17, k⟩ := law_body (m := m') (ns := ns) (k := i) (s2 := t2) (s3 := t3) (s4 := t4) (s5 := t5) (s6 := t6) (s7 := t7) (s8 := t8) (s9 := t9) (s10 := t10) (s11 := t11) (s12 := t12) (s13 := t13) (s14 := t14) (s15 := t15) (s16 := t16) (s17 := t17) hns (by omega)
      refine ⟨[.v (.dat (.list (ns.map .int))), .v (.dat (.int i)), t2, t3, t4, t5, t6, t7, t8, t9, t10, t11, t12, t13, t14, t15, t16, t17], _, m2, ?_, k, _, v2, v3, v4, v5, v6, v7, v8, v9, v10, v11, v12, v13, v14, v15, v16, v17, rfl⟩
      rfl)
    (m := []) (σ := [.v (.dat (.list (ns.map .int))), .no, .no, .no, .no, .no, .no, .no, .no, .no, .no, .no, .no, .no, .no, .no, .no, .no]) ⟨.no, .no, .no, .no, .no, .no, .no, .no, .no, .no, .no, .no, .no, .no, .no, .no, .no, rfl⟩
  obtain ⟨σ', m', h2, s1, t2, t3, t4, t5, t6, t7, t8, t9, t10, t11, t12, t13, t14, t15, t16, t17, rfl⟩ := this
  refine ⟨m', ?_⟩
  have loop : evS 1000 (callN 1000 P 19) l_law_3 [.v (.dat (.list (ns.map .int))), .no, .no, .no, .no, .no, .no, .no, .no, .no, .no, .no, .no, .no, .no, .no, .no, .no] [] = .ok (.nx, [.v (.dat (.list (ns.map .int))), s1, t2, t3, t4, t5, t6, t7, t8, t9, t10, t11, t12, t13, t14, t15, t16, t17]) m' := by
    show evS 1000 _ (.for_ _ _ _) _ _ = _
    rw [s_forE, hr, R.bind_ok]
    exact h2
  rw [call_eq P_law rfl]
  have e0 : (([.dat (.list (ns.map .int))] : List U).map Sl.v ++ List.replicate (d_law.N.length - ([.dat (.list (ns.map .int))] : List U).length) Sl.no) = [.v (.dat (.list (ns.map .int))), .no, .no, .no, .no, .no, .no, .no, .no, .no, .no, .no, .no, .no, .no, .no, .no, .no] := rfl
  rw [e0]
  simp only [d_law, s_cons, loop, R.bind_ok, then_nx, s_retE, ev_cst, then_ret, s_nil, fin_ret]
end K44


open PySem PySem.W PyProof.Rows in
set_option maxRecDepth 100000 in
set_option maxHeartbeats 0 in
theorem PySem.Challenge.cw_ownback_k44_whole_when_other_hands_cost_holds : PySem.Challenge.rw_ownback_k44_whole_when_other_hands_cost.Holds := by
  w_on; o_law; k_head; (case hw => w_witness2)
  k_fill
  refine Eng.walk_eng (l := PySem.Challenge.rw_ownback_k44_whole_when_other_hands_cost) (n := 63) (k := 20) (lawId := 23) (G := K44.G) (P := K44.tb.prog) (L := 1000) (fd := K44.d_law) rfl (by decide) rfl ⟨rfl, by decide, by decide⟩ (fun w h Y => PySem.W.kIn_of Y) ?T K44.P_law rfl rfl rfl rfl K44.law_true
  case T =>
    intro w mg h KX Gn
    refine Eng.tab_of (t := K44.tb) KX Gn rfl ?dI K44.sd ?nI ?gI ?dD ?xT ?dF K44.sdf
    case dI =>
      refine' And.intro (Eng.di_mk ?zza0 ?zzl0 ?zzc0 ?zzk0) ?zzr0
      (case zza0 => k_is); (case zzl0 => k_is); (case zzc0 => k_is); (case zzk0 => k_is)
      refine' And.intro (Eng.di_mk ?zza1 ?zzl1 ?zzc1 ?zzk1) ?zzr1
      (case zza1 => k_is); (case zzl1 => k_is); (case zzc1 => k_is); (case zzk1 => k_is)
      refine' And.intro (Eng.di_mk ?zza2 ?zzl2 ?zzc2 ?zzk2) ?zzr2
      (case zza2 => k_is); (case zzl2 => k_is); (case zzc2 => k_is); (case zzk2 => k_is)
      refine' And.intro (Eng.di_mk ?zza3 ?zzl3 ?zzc3 ?zzk3) ?zzr3
      (case zza3 => k_is); (case zzl3 => k_is); (case zzc3 => k_is); (case zzk3 => k_is)
      refine' And.intro (Eng.di_mk ?zza4 ?zzl4 ?zzc4 ?zzk4) ?zzr4
      (case zza4 => k_is); (case zzl4 => k_is); (case zzc4 => k_is); (case zzk4 => k_is)
      refine' And.intro (Eng.di_mk ?zza5 ?zzl5 ?zzc5 ?zzk5) ?zzr5
      (case zza5 => k_is); (case zzl5 => k_is); (case zzc5 => k_is); (case zzk5 => k_is)
      refine' And.intro (Eng.di_mk ?zza6 ?zzl6 ?zzc6 ?zzk6) ?zzr6
      (case zza6 => k_is); (case zzl6 => k_is); (case zzc6 => k_is); (case zzk6 => k_is)
      refine' And.intro (Eng.di_mk ?zza7 ?zzl7 ?zzc7 ?zzk7) ?zzr7
      (case zza7 => k_is); (case zzl7 => k_is); (case zzc7 => k_is); (case zzk7 => k_is)
      refine' And.intro (Eng.di_mk ?zza8 ?zzl8 ?zzc8 ?zzk8) ?zzr8
      (case zza8 => k_is); (case zzl8 => k_is); (case zzc8 => k_is); (case zzk8 => k_is)
      refine' And.intro (Eng.di_mk ?zza9 ?zzl9 ?zzc9 ?zzk9) ?zzr9
      (case zza9 => k_is); (case zzl9 => k_is); (case zzc9 => k_is); (case zzk9 => k_is)
      refine' And.intro (Eng.di_mk ?zza10 ?zzl10 ?zzc10 ?zzk10) ?zzr10
      (case zza10 => k_is); (case zzl10 => k_is); (case zzc10 => k_is); (case zzk10 => k_is)
      refine' And.intro (Eng.di_mk ?zza11 ?zzl11 ?zzc11 ?zzk11) ?zzr11
      (case zza11 => k_is); (case zzl11 => k_is); (case zzc11 => k_is); (case zzk11 => k_is)
      refine' And.intro (Eng.di_mk ?zza12 ?zzl12 ?zzc12 ?zzk12) ?zzr12
      (case zza12 => k_is); (case zzl12 => k_is); (case zzc12 => k_is); (case zzk12 => k_is)
      refine' And.intro (Eng.di_mk ?zza13 ?zzl13 ?zzc13 ?zzk13) ?zzr13
      (case zza13 => k_is); (case zzl13 => k_is); (case zzc13 => k_is); (case zzk13 => k_is)
      refine' And.intro (Eng.di_mk ?zza14 ?zzl14 ?zzc14 ?zzk14) ?zzr14
      (case zza14 => k_is); (case zzl14 => k_is); (case zzc14 => k_is); (case zzk14 => k_is)
      refine' And.intro (Eng.di_mk ?zza15 ?zzl15 ?zzc15 ?zzk15) ?zzr15
      (case zza15 => k_is); (case zzl15 => k_is); (case zzc15 => k_is); (case zzk15 => k_is)
      refine' And.intro (Eng.di_mk ?zza16 ?zzl16 ?zzc16 ?zzk16) ?zzr16
      (case zza16 => k_is); (case zzl16 => k_is); (case zzc16 => k_is); (case zzk16 => k_is)
      refine' And.intro (Eng.di_mk ?zza17 ?zzl17 ?zzc17 ?zzk17) ?zzr17
      (case zza17 => k_is); (case zzl17 => k_is); (case zzc17 => k_is); (case zzk17 => k_is)
      refine' And.intro (Eng.di_mk ?zza18 ?zzl18 ?zzc18 ?zzk18) ?zzr18
      (case zza18 => k_is); (case zzl18 => k_is); (case zzc18 => k_is); (case zzk18 => k_is)
      refine' And.intro (Eng.di_mk ?zza19 ?zzl19 ?zzc19 ?zzk19) ?zzr19
      (case zza19 => k_is); (case zzl19 => k_is); (case zzc19 => k_is); (case zzk19 => k_is)
      refine' And.intro (Eng.di_mk ?zza20 ?zzl20 ?zzc20 ?zzk20) ?zzr20
      (case zza20 => k_is); (case zzl20 => k_is); (case zzc20 => k_is); (case zzk20 => k_is)
      refine' And.intro (Eng.di_mk ?zza21 ?zzl21 ?zzc21 ?zzk21) ?zzr21
      (case zza21 => k_is); (case zzl21 => k_is); (case zzc21 => k_is); (case zzk21 => k_is)
      refine' And.intro (Eng.di_mk ?zza22 ?zzl22 ?zzc22 ?zzk22) ?zzr22
      (case zza22 => k_is); (case zzl22 => k_is); (case zzc22 => k_is); (case zzk22 => k_is)
      refine' And.intro (Eng.di_mk ?zza23 ?zzl23 ?zzc23 ?zzk23) ?zzr23
      (case zza23 => k_is); (case zzl23 => k_is); (case zzc23 => k_is); (case zzk23 => k_is)
      exact trivial
    case nI =>
      refine' And.intro ?zzn0 ?zzm0
      (case zzn0 => k_is)
      refine' And.intro ?zzn1 ?zzm1
      (case zzn1 => k_is)
      refine' And.intro ?zzn2 ?zzm2
      (case zzn2 => k_is)
      refine' And.intro ?zzn3 ?zzm3
      (case zzn3 => k_is)
      refine' And.intro ?zzn4 ?zzm4
      (case zzn4 => k_is)
      refine' And.intro ?zzn5 ?zzm5
      (case zzn5 => k_is)
      refine' And.intro ?zzn6 ?zzm6
      (case zzn6 => k_is)
      refine' And.intro ?zzn7 ?zzm7
      (case zzn7 => k_is)
      refine' And.intro ?zzn8 ?zzm8
      (case zzn8 => k_is)
      refine' And.intro ?zzn9 ?zzm9
      (case zzn9 => k_is)
      refine' And.intro ?zzn10 ?zzm10
      (case zzn10 => k_is)
      refine' And.intro ?zzn11 ?zzm11
      (case zzn11 => k_is)
      refine' And.intro ?zzn12 ?zzm12
      (case zzn12 => k_is)
      refine' And.intro ?zzn13 ?zzm13
      (case zzn13 => k_is)
      refine' And.intro ?zzn14 ?zzm14
      (case zzn14 => k_is)
      refine' And.intro ?zzn15 ?zzm15
      (case zzn15 => k_is)
      refine' And.intro ?zzn16 ?zzm16
      (case zzn16 => k_is)
      refine' And.intro ?zzn17 ?zzm17
      (case zzn17 => k_is)
      refine' And.intro ?zzn18 ?zzm18
      (case zzn18 => k_is)
      refine' And.intro ?zzn19 ?zzm19
      (case zzn19 => k_is)
      exact trivial
    case gI =>
      refine' And.intro (Eng.gi_mk ?zzg0) ?zzq0
      (case zzg0 => k_is)
      refine' And.intro (Eng.gi_mk ?zzg1) ?zzq1
      (case zzg1 => k_is)
      exact trivial
    case dD =>
      exact trivial
    case xT => exact Eng.XTab.nil
    case dF =>
      exact trivial

