import PyProof.Rows.All
import Wide.All
import OpenK.AllK
import Wide.FinOn
import HandS.ForMost
import HandS.ForExc
import HandS.CallSlots
import HandS.ExcInit
import KE.KDictKeyed
import KE.KDictDisplayH
import PyProof.Rows.InDataRows
import HandS.IsInst
import HandS.Conv
import HandS.WordsDict
import KE.GoesMore
import KE.GoesEnum
import HandS.SetKeys
import HandS.ExcOwn
import HandS.More
import HandS.SortInts
import PySem.Challenge.RW_looporpile_k73_no_plan_beyond
set_option Elab.async false
set_option linter.all false
set_option maxRecDepth 100000
set_option maxHeartbeats 2000000
namespace Ev
open PySem PySem.Spec L2
open PyProof.Rows hiding St

/-- pure values: tuples are trees, a frozen list likewise; objects that change are numbers into a pure heap -/
inductive D where
  | non | bl (b : Bool) | int (i : Int) | str (x : Str) | tup (xs : List D) | frl (xs : List D) | ref (i : Nat) | exc (k : Str) (ns : List Str) (vs : List D)

inductive O where
  | lst (xs : List D) | dic (kvs : List (Key × D)) | dik (kvs : List (D × D)) | ins (c : Str) (fs : List (Str × D))

abbrev Hh := List O
abbrev Sl := List (Option D)

structure Cf where
  P : Program
  w : World
  K : PySem.W.Frag
  ca : Str → Addr

/-- a list that nobody changes -/
def FrL (K : PySem.W.Frag) (H : Hp) (a : Addr) (xs : List V) : Prop :=
  (∃ o, H a = some (.frz o (.lst xs))) ∨
    ∃ (o : Obj) (its : Array Value) (n : Nat), K.lookup a = some o ∧ o.cls = .type "list" ∧ o.dict = none ∧ o.data = .seq its n ∧ its.size ≤ sizeLine ∧ Vals xs its.toList
theorem FrL.sq {K : PySem.W.Frag} {H : Hp} {a : Addr} {xs : List V} (h : FrL K H a xs) : SqL K H a xs := by
  rcases h with ⟨o, h⟩ | h
  · exact .inl (.inr ⟨o, h⟩)
  · exact .inr h

mutual
def RelD (K : PySem.W.Frag) (m : Nat → Addr) (n : Nat) (H : Hp) : D → V → Prop
  | .non, v => v = .non
  | .bl b, v => v = .bl b
  | .int i, v => v = .int i
  | .str x, v => v = .str x
  | .tup ds, v => ∃ a xs, v = .ref a ∧ SqT K H a xs ∧ RelDs K m n H ds xs
  | .frl ds, v => ∃ a xs, v = .ref a ∧ FrL K H a xs ∧ RelDs K m n H ds xs
  | .ref i, v => i < n ∧ v = .ref (m i)
  | .exc _ _ _, _ => False
def RelDs (K : PySem.W.Frag) (m : Nat → Addr) (n : Nat) (H : Hp) : List D → List V → Prop
  | [], vs => vs = []
  | d :: ds, vs => ∃ x xs, vs = x :: xs ∧ RelD K m n H d x ∧ RelDs K m n H ds xs
end

section
variable {K : PySem.W.Frag} {m m' : Nat → Addr} {n n' : Nat} {H H' : Hp}
theorem RelDs.length : ∀ {ds : List D} {xs : List V}, RelDs K m n H ds xs → ds.length = xs.length
  | [], xs, h => by
    have h' : xs = [] := h
    rw [h']; rfl
  | d :: ds, xs, h => by
    obtain ⟨x, ys, e, _, h2⟩ := h
    rw [e, List.length_cons, List.length_cons, RelDs.length h2]
theorem RelDs.get : ∀ {ds : List D} {xs : List V} {i : Nat} {d : D}, RelDs K m n H ds xs → ds[i]? = some d → ∃ x, xs[i]? = some x ∧ RelD K m n H d x
  | [], _, _, _, _, e => by simp at e
  | d :: ds, xs, 0, d', h, e => by
    obtain ⟨x, ys, rfl, h1, h2⟩ := h
    simp at e
    subst e
    exact ⟨x, rfl, h1⟩
  | d :: ds, xs, i + 1, d', h, e => by
    obtain ⟨x, ys, rfl, h1, h2⟩ := h
    obtain ⟨y, e1, e2⟩ := RelDs.get (i := i) h2 (by simpa using e)
    exact ⟨y, by simpa using e1, e2⟩
theorem RelDs.get' : ∀ {ds : List D} {xs : List V} {i : Nat} {x : V}, RelDs K m n H ds xs → xs[i]? = some x → ∃ d, ds[i]? = some d ∧ RelD K m n H d x
  | [], xs, i, x, h, e => by
    have h' : xs = [] := h
    rw [h'] at e
    simp at e
  | d :: ds, xs, 0, x', h, e => by
    obtain ⟨x, ys, rfl, h1, h2⟩ := h
    simp at e
    subst e
    exact ⟨d, rfl, h1⟩
  | d :: ds, xs, i + 1, d', h, e => by
    obtain ⟨x, ys, rfl, h1, h2⟩ := h
    obtain ⟨y, e1, e2⟩ := RelDs.get' (i := i) h2 (by simpa using e)
    exact ⟨y, by simpa using e1, e2⟩
theorem RelDs.append : ∀ {ds es : List D} {xs ys : List V}, RelDs K m n H ds xs → RelDs K m n H es ys → RelDs K m n H (ds ++ es) (xs ++ ys)
  | [], _, xs, _, h, h2 => by
    have h' : xs = [] := h
    rw [h']
    exact h2
  | d :: ds, _, _, _, h, h2 => by
    obtain ⟨x, ys, rfl, h1, h3⟩ := h
    exact ⟨x, _, rfl, h1, RelDs.append h3 h2⟩
theorem RelDs.one {d : D} {x : V} (h : RelD K m n H d x) : RelDs K m n H [d] [x] := ⟨x, [], rfl, h, rfl⟩
theorem RelDs.take : ∀ {ds : List D} {xs : List V} (k : Nat), RelDs K m n H ds xs → RelDs K m n H (ds.take k) (xs.take k)
  | _, _, 0, _ => rfl
  | [], xs, k + 1, h => by
    have h' : xs = [] := h
    rw [h']
    rfl
  | d :: ds, _, k + 1, h => by
    obtain ⟨x, ys, rfl, h1, h3⟩ := h
    exact ⟨x, _, rfl, h1, RelDs.take k h3⟩
theorem RelDs.drop : ∀ {ds : List D} {xs : List V} (k : Nat), RelDs K m n H ds xs → RelDs K m n H (ds.drop k) (xs.drop k)
  | _, _, 0, h => h
  | [], xs, k + 1, h => by
    have h' : xs = [] := h
    rw [h']
    rfl
  | d :: ds, _, k + 1, h => by
    obtain ⟨x, ys, rfl, h1, h3⟩ := h
    exact RelDs.drop k h3
theorem RelDs.set {d : D} {x : V} (r : RelD K m n H d x) : ∀ {ds : List D} {xs : List V} (k : Nat), RelDs K m n H ds xs → RelDs K m n H (ds.set k d) (xs.set k x)
  | [], xs, k, h => by
    have h' : xs = [] := h
    rw [h']
    rfl
  | _ :: _, _, 0, h => by
    obtain ⟨x, ys, rfl, h1, h3⟩ := h
    exact ⟨_, _, rfl, r, h3⟩
  | _ :: _, _, k + 1, h => by
    obtain ⟨x, ys, rfl, h1, h3⟩ := h
    exact ⟨_, _, rfl, h1, RelDs.set r k h3⟩
theorem RelDs.eraseIdx : ∀ {ds : List D} {xs : List V} (k : Nat), RelDs K m n H ds xs → RelDs K m n H (ds.eraseIdx k) (xs.eraseIdx k)
  | [], xs, k, h => by
    have h' : xs = [] := h
    rw [h']
    rfl
  | _ :: _, _, 0, h => by
    obtain ⟨x, ys, rfl, h1, h3⟩ := h
    exact h3
  | _ :: _, _, k + 1, h => by
    obtain ⟨x, ys, rfl, h1, h3⟩ := h
    exact ⟨_, _, rfl, h1, RelDs.eraseIdx k h3⟩
theorem RelDs.dropLast {ds : List D} {xs : List V} (h : RelDs K m n H ds xs) : RelDs K m n H ds.dropLast xs.dropLast := by
  rw [List.dropLast_eq_take, List.dropLast_eq_take, ← h.length]
  exact h.take _
theorem RelDs.reverse : ∀ {ds : List D} {xs : List V}, RelDs K m n H ds xs → RelDs K m n H ds.reverse xs.reverse
  | [], xs, h => by
    have h' : xs = [] := h
    rw [h']
    rfl
  | d :: ds, _, h => by
    obtain ⟨x, ys, rfl, h1, h3⟩ := h
    rw [List.reverse_cons, List.reverse_cons]
    exact (RelDs.reverse h3).append (.one h1)

/-- what may be counted on behind a step: the old objects keep their places, new ones came to free places, all that is not of the pure heap stands -/
structure Ext (n n' : Nat) (m m' : Nat → Addr) (H H' : Hp) : Prop where
  ag : ∀ i, i < n → m' i = m i
  nw : ∀ i, n ≤ i → i < n' → H (m' i) = none
  fr : ∀ a o, H a = some o → (∀ i, i < n → m i ≠ a) → H' a = some o
theorem Ext.refl : Ext n n m m H H := ⟨fun _ _ => rfl, fun i h1 h2 => absurd (Nat.lt_of_lt_of_le h2 h1) (Nat.lt_irrefl _), fun _ _ h _ => h⟩
theorem Ext.trans {n2 : Nat} {m2 : Nat → Addr} {H2 : Hp} (a : Ext n n' m m' H H') (b : Ext n' n2 m' m2 H' H2) (le : n ≤ n') (tr : ∀ i, i < n' → ∃ o, H' (m' i) = some o) : Ext n n2 m m2 H H2 := by
  refine ⟨fun i hi => (b.ag i (Nat.lt_of_lt_of_le hi le)).trans (a.ag i hi), fun i h1 h2 => ?_, fun x o h1 h2 => ?_⟩
  · by_cases hi : i < n'
    · rw [b.ag i hi]
      exact a.nw i h1 hi
    · have q := b.nw i (Nat.le_of_not_lt hi) h2
      cases e : H (m2 i) with
      | none => rfl
      | some o =>
        by_cases z : ∀ j, j < n → m j ≠ m2 i
        · rw [a.fr _ o e z] at q
          cases q
        · have z' : ∃ j, j < n ∧ m j = m2 i := by
            by_cases hz : ∃ j, j < n ∧ m j = m2 i
            · exact hz
            · exact absurd (fun j hj he => hz ⟨j, hj, he⟩) z
          obtain ⟨j, hj, he⟩ := z'
          obtain ⟨o', ho⟩ := tr j (Nat.lt_of_lt_of_le hj le)
          rw [a.ag j hj, he, q] at ho
          cases ho
  · refine b.fr x o (a.fr x o h1 h2) fun i hi => ?_
    by_cases hn : i < n
    · rw [a.ag i hn]
      exact h2 i hn
    · intro e
      have q := a.nw i (Nat.le_of_not_lt hn) hi
      rw [e, h1] at q
      cases q
end

/-- an object of the pure heap at its address -/
def RelFs (K : PySem.W.Frag) (m : Nat → Addr) (n : Nat) (H : Hp) : List (Str × D) → List (Str × V) → Prop
  | [], vs => vs = []
  | p :: ps, vs => ∃ x xs, vs = (p.1, x) :: xs ∧ RelD K m n H p.2 x ∧ RelFs K m n H ps xs
def RelKs (K : PySem.W.Frag) (m : Nat → Addr) (n : Nat) (H : Hp) : List (Key × D) → List (Key × V) → Prop
  | [], vs => vs = []
  | p :: ps, vs => ∃ x xs, vs = (p.1, x) :: xs ∧ RelD K m n H p.2 x ∧ RelKs K m n H ps xs
/-- a dict whose keys are tuples of any depth: its entries -/
def DkX (P : Program) (w : World) (a : Addr) (xs : List (NestedKey × Addr × Value)) : HO := .ext fun h =>
  xs.length ≤ sizeLine ∧ (a == sysModules) = false ∧ ∃ o es ep, h.get? a = some o ∧ o.ExactDict ∧ o.data = .dict es ep ∧ es.toList = xs.map (entryOfKey (nestedKind P w)) ∧ (xs.map (·.1)).Nodup
mutual
def toNK : Nat → D → Option NestedKey
  | 0, _ => none
  | _ + 1, .non => some .none
  | _ + 1, .int i => some (.num i)
  | _ + 1, .str x => some (.text x)
  | k + 1, .tup ds => (toNKs k ds).map .tup
  | _ + 1, _ => none
def toNKs : Nat → List D → Option (List NestedKey)
  | _, [] => some []
  | k, d :: ds => match toNK k d with
    | none => none
    | some x => match toNKs k ds with
      | none => none
      | some xs => some (x :: xs)
end
def nkD : Nat := 8
def RelNs (K : PySem.W.Frag) (m : Nat → Addr) (n : Nat) (H : Hp) : List (D × D) → List (NestedKey × Addr × Value) → Prop
  | [], ys => ys = []
  | p :: ps, ys => ∃ k b u v zs, ys = (k, b, u) :: zs ∧ toNK nkD p.1 = some k ∧ RelD K m n H p.1 (.ref b) ∧ RelD K m n H p.2 v ∧ RelV v u ∧ RelNs K m n H ps zs
def RelO (c : Cf) (m : Nat → Addr) (n : Nat) (H : Hp) (a : Addr) : O → Prop
  | .lst ds => ∃ xs, H a = some (.lst xs) ∧ RelDs c.K m n H ds xs
  | .dic ps => ∃ xs, H a = some (.dK xs) ∧ RelKs c.K m n H ps xs
  | .dik ps => ∃ xs, H a = some (DkX c.P c.w a xs) ∧ RelNs c.K m n H ps xs
  | .ins k fs => ∃ dx xs, H a = some (.ins (c.ca k) dx xs) ∧ RelFs c.K m n H fs xs

structure RelH (c : Cf) (m : Nat → Addr) (h : Hh) (H : Hp) : Prop where
  ob : ∀ i o, h[i]? = some o → RelO c m h.length H (m i) o
  inj : ∀ i j, i < h.length → j < h.length → m i = m j → i = j

section
variable {c : Cf} {m m' : Nat → Addr} {n n' : Nat} {H H' : Hp} {h h' : Hh} {a : Addr}
/-- the kinds of what the pure heap tracks -/
def Trk : HO → Prop
  | .lst _ => True
  | .dK _ => True
  | .ins _ _ _ => True
  | .ext _ => True
  | _ => False
theorem RelO.trk {o : O} (r : RelO c m n H a o) : ∃ u, H a = some u ∧ Trk u := by
  cases o with
  | lst ds => obtain ⟨xs, e, _⟩ := r; exact ⟨_, e, trivial⟩
  | dic ds => obtain ⟨xs, e, _⟩ := r; exact ⟨_, e, trivial⟩
  | dik ds => obtain ⟨xs, e, _⟩ := r; exact ⟨_, e, trivial⟩
  | ins k fs => obtain ⟨dx, xs, e, _⟩ := r; exact ⟨_, e, trivial⟩
theorem RelH.trk (r : RelH c m h H) {i : Nat} (hi : i < h.length) : ∃ u, H (m i) = some u ∧ Trk u := (r.ob i h[i] (List.getElem?_eq_getElem hi)).trk
theorem RelH.tr (r : RelH c m h H) : ∀ i, i < h.length → ∃ u, H (m i) = some u := fun i hi => let ⟨u, e, _⟩ := r.trk hi; ⟨u, e⟩
/-- what the pure heap does not track stands -/
theorem Ext.keep (x : Ext h.length n' m m' H H') (r : RelH c m h H) {u : HO} (e : H a = some u) (nt : ¬ Trk u) : H' a = some u :=
  x.fr a u e fun i hi z => by
    obtain ⟨u', e', t⟩ := r.trk hi
    rw [z, e] at e'
    cases e'
    exact nt t
theorem Ext.sqT (x : Ext h.length n' m m' H H') (r : RelH c m h H) {K : PySem.W.Frag} {xs : List V} (q : SqT K H a xs) : SqT K H' a xs := by
  rcases q with (q | ⟨o, q⟩) | q
  · exact .inl (.inl (x.keep r q id))
  · exact .inl (.inr ⟨o, x.keep r q id⟩)
  · exact .inr q
theorem Ext.frL (x : Ext h.length n' m m' H H') (r : RelH c m h H) {K : PySem.W.Frag} {xs : List V} (q : FrL K H a xs) : FrL K H' a xs := by
  rcases q with ⟨o, q⟩ | q
  · exact .inl ⟨o, x.keep r q id⟩
  · exact .inr q
mutual
theorem RelD.ext {K : PySem.W.Frag} (x : Ext h.length n' m m' H H') (r : RelH c m h H) (le : h.length ≤ n') : ∀ {d : D} {v : V}, RelD K m h.length H d v → RelD K m' n' H' d v
  | .non, _, q => q
  | .bl _, _, q => q
  | .int _, _, q => q
  | .str _, _, q => q
  | .tup ds, _, q => by
    obtain ⟨a, xs, e, s, t⟩ := q
    exact ⟨a, xs, e, x.sqT r s, RelDs.ext x r le t⟩
  | .frl ds, _, q => by
    obtain ⟨a, xs, e, s, t⟩ := q
    exact ⟨a, xs, e, x.frL r s, RelDs.ext x r le t⟩
  | .ref i, _, q => by
    obtain ⟨hi, e⟩ := q
    exact ⟨Nat.lt_of_lt_of_le hi le, by rw [x.ag i hi]; exact e⟩
  | .exc _ _ _, _, q => q.elim
theorem RelDs.ext {K : PySem.W.Frag} (x : Ext h.length n' m m' H H') (r : RelH c m h H) (le : h.length ≤ n') : ∀ {ds : List D} {vs : List V}, RelDs K m h.length H ds vs → RelDs K m' n' H' ds vs
  | [], _, q => q
  | d :: ds, _, q => by
    obtain ⟨y, ys, e, q1, q2⟩ := q
    exact ⟨y, ys, e, RelD.ext x r le q1, RelDs.ext x r le q2⟩
end
theorem RelFs.ext {K : PySem.W.Frag} (x : Ext h.length n' m m' H H') (r : RelH c m h H) (le : h.length ≤ n') : ∀ {ds : List (Str × D)} {vs : List (Str × V)}, RelFs K m h.length H ds vs → RelFs K m' n' H' ds vs
  | [], _, q => q
  | d :: ds, _, q => by
    obtain ⟨y, ys, e, q1, q2⟩ := q
    exact ⟨y, ys, e, RelD.ext x r le q1, RelFs.ext x r le q2⟩
theorem RelKs.ext {K : PySem.W.Frag} (x : Ext h.length n' m m' H H') (r : RelH c m h H) (le : h.length ≤ n') : ∀ {ds : List (Key × D)} {vs : List (Key × V)}, RelKs K m h.length H ds vs → RelKs K m' n' H' ds vs
  | [], _, q => q
  | d :: ds, _, q => by
    obtain ⟨y, ys, e, q1, q2⟩ := q
    exact ⟨y, ys, e, RelD.ext x r le q1, RelKs.ext x r le q2⟩
theorem RelNs.ext {K : PySem.W.Frag} (x : Ext h.length n' m m' H H') (r : RelH c m h H) (le : h.length ≤ n') : ∀ {ds : List (D × D)} {vs : List (NestedKey × Addr × Value)}, RelNs K m h.length H ds vs → RelNs K m' n' H' ds vs
  | [], _, q => q
  | d :: ds, _, q => by
    obtain ⟨k, b, u, v, zs, e, q1, q2, q3, q4, q5⟩ := q
    exact ⟨k, b, u, v, zs, e, q1, RelD.ext x r le q2, RelD.ext x r le q3, q4, RelNs.ext x r le q5⟩
theorem RelO.ext (x : Ext h.length n' m m' H H') (r : RelH c m h H) (le : h.length ≤ n') (s : H' a = H a) {o : O} (q : RelO c m h.length H a o) : RelO c m' n' H' a o := by
  cases o with
  | lst ds => obtain ⟨xs, e, t⟩ := q; exact ⟨xs, s.trans e, t.ext x r le⟩
  | dic ds => obtain ⟨xs, e, t⟩ := q; exact ⟨xs, s.trans e, t.ext x r le⟩
  | dik ds => obtain ⟨xs, e, t⟩ := q; exact ⟨xs, s.trans e, t.ext x r le⟩
  | ins k fs => obtain ⟨dx, xs, e, t⟩ := q; exact ⟨dx, xs, s.trans e, t.ext x r le⟩

/-- a step has come to m' h' H' -/
structure To (c : Cf) (n : Nat) (m : Nat → Addr) (H : Hp) (m' : Nat → Addr) (h' : Hh) (H' : Hp) : Prop where
  ext : Ext n h'.length m m' H H'
  le : n ≤ h'.length
  rel : RelH c m' h' H'
theorem To.refl (r : RelH c m h H) : To c h.length m H m h H := ⟨Ext.refl, Nat.le_refl _, r⟩
theorem To.trans {m2 : Nat → Addr} {h2 : Hh} {H2 : Hp} (a : To c n m H m' h' H') (b : To c h'.length m' H' m2 h2 H2) : To c n m H m2 h2 H2 :=
  ⟨a.ext.trans b.ext a.le a.rel.tr, Nat.le_trans a.le b.le, b.rel⟩
theorem To.d (a : To c h.length m H m' h' H') (r : RelH c m h H) {K : PySem.W.Frag} {d : D} {v : V} (q : RelD K m h.length H d v) : RelD K m' h'.length H' d v := q.ext a.ext r a.le
theorem To.ds (a : To c h.length m H m' h' H') (r : RelH c m h H) {K : PySem.W.Frag} {d : List D} {v : List V} (q : RelDs K m h.length H d v) : RelDs K m' h'.length H' d v := q.ext a.ext r a.le
/-- a new object -/
theorem To.push (r : RelH c m h H) {p : Addr} {u : HO} {o : O} (np : H p = none) (new : ∀ m' H', Ext h.length (h.length + 1) m m' H H' → H' = upd H p u → m' h.length = p → RelO c m' (h.length + 1) H' p o) :
    ∃ m', To c h.length m H m' (h ++ [o]) (upd H p u) ∧ m' h.length = p := by
  refine ⟨fun i => if i = h.length then p else m i, ?_, if_pos rfl⟩
  have ag : ∀ i, i < h.length → (if i = h.length then p else m i) = m i := fun i hi => if_neg (Nat.ne_of_lt hi)
  have x : Ext h.length (h.length + 1) m (fun i => if i = h.length then p else m i) H (upd H p u) := by
    refine ⟨ag, fun i h1 h2 => ?_, fun a o e _ => ?_⟩
    · have : i = h.length := by omega
      subst this
      rw [if_pos rfl]
      exact np
    · rw [upd_ne (ne_of_none e np)]
      exact e
  refine ⟨by rw [List.length_append]; exact x, by rw [List.length_append]; exact Nat.le_add_right _ _, fun i o' e => ?_, fun i j hi hj e => ?_⟩
  · rw [List.length_append]
    by_cases hi : i < h.length
    · rw [List.getElem?_append_left hi] at e
      show RelO c _ _ _ (if i = h.length then p else m i) o'
      rw [ag i hi]
      refine (r.ob i o' e).ext x r (Nat.le_add_right _ _) ?_
      obtain ⟨v, ev, _⟩ := r.trk hi
      rw [upd_ne (ne_of_none ev np)]
    · have e1 : i = h.length := by
        have := (List.getElem?_eq_some_iff.mp e).1
        rw [List.length_append] at this
        have : i < h.length + 1 := this
        omega
      subst e1
      rw [List.getElem?_append_right (Nat.le_refl _), Nat.sub_self] at e
      have e2 : o = o' := Option.some.inj e
      subst e2
      show RelO c _ _ _ (if h.length = h.length then p else m h.length) o
      rw [if_pos rfl]
      exact new _ _ x rfl (if_pos rfl)
  · rw [List.length_append] at hi hj
    have hi' : i < h.length + 1 := hi
    have hj' : j < h.length + 1 := hj
    have key : ∀ k, k < h.length → m k ≠ p := fun k hk z => by
      obtain ⟨v, ev, _⟩ := r.trk hk
      rw [z, np] at ev
      cases ev
    have e : (if i = h.length then p else m i) = (if j = h.length then p else m j) := e
    by_cases h1 : i = h.length
    · by_cases h2 : j = h.length
      · omega
      · rw [if_pos h1, if_neg h2] at e
        exact absurd e.symm (key j (by omega))
    · by_cases h2 : j = h.length
      · rw [if_neg h1, if_pos h2] at e
        exact absurd e (key i (by omega))
      · rw [if_neg h1, if_neg h2] at e
        exact r.inj i j (by omega) (by omega) e
/-- an object of the pure heap is changed -/
theorem To.set (r : RelH c m h H) {i : Nat} (hi : i < h.length) {u : HO} {o : O} (new : ∀ H', Ext h.length h.length m m H H' → H' = upd H (m i) u → RelO c m h.length H' (m i) o) :
    To c h.length m H m (h.set i o) (upd H (m i) u) := by
  have x : Ext h.length h.length m m H (upd H (m i) u) := ⟨fun _ _ => rfl, fun j h1 h2 => absurd (Nat.lt_of_lt_of_le h2 h1) (Nat.lt_irrefl _), fun a o e na => by rw [upd_ne (Ne.symm (na i hi))]; exact e⟩
  refine ⟨by rw [List.length_set]; exact x, by rw [List.length_set]; exact Nat.le_refl _, fun j o' e => ?_, fun j k hj hk e => r.inj j k (by simpa using hj) (by simpa using hk) e⟩
  rw [List.length_set]
  by_cases hj : j = i
  · subst hj
    rw [List.getElem?_set_self hi] at e
    have e2 : o = o' := Option.some.inj e
    subst e2
    exact new _ x rfl
  · rw [List.getElem?_set_ne (Ne.symm hj)] at e
    refine (r.ob j o' e).ext x r (Nat.le_refl _) ?_
    have hlt : j < h.length := (List.getElem?_eq_some_iff.mp e).1
    rw [upd_ne fun z => hj (r.inj j i hlt hi z)]
/-- all that is tracked beside may have grown: nothing of the pure heap changed -/
theorem To.same (r : RelH c m h H) (k : ∀ a o, H a = some o → H' a = some o) : To c h.length m H m h H' := by
  have x : Ext h.length h.length m m H H' := ⟨fun _ _ => rfl, fun j h1 h2 => absurd (Nat.lt_of_lt_of_le h2 h1) (Nat.lt_irrefl _), fun a o e _ => k a o e⟩
  refine ⟨x, Nat.le_refl _, fun j o e => (r.ob j o e).ext x r (Nat.le_refl _) ?_, r.inj⟩
  obtain ⟨u, eu, _⟩ := r.trk (List.getElem?_eq_some_iff.mp e).1
  rw [eu]
  exact k _ _ eu
theorem To.new (r : RelH c m h H) {p : Addr} {u : HO} (np : H p = none) : To c h.length m H m h (upd H p u) := .same r fun a o e => by
  rw [upd_ne (ne_of_none e np)]
  exact e
end
end Ev
set_option Elab.async false
set_option linter.all false
set_option maxRecDepth 100000
set_option maxHeartbeats 2000000
namespace Ev
open PySem PySem.Spec L2
open PyProof.Rows hiding St

/-! ### the shallow world -/
inductive Res (α : Type) where
  | ok (a : α) (h : Hh) | exn (k : Str) (ns : List Str) (vs : List D) (h : Hh) | bad
abbrev M (α : Type) := Hh → Res α
def bnd {α β : Type} (f : M α) (k : α → M β) : M β := fun h => match f h with
  | .ok a h' => k a h'
  | .exn e ns vs h' => .exn e ns vs h'
  | .bad => .bad
def ret {α : Type} (a : α) : M α := fun h => .ok a h
def bad {α : Type} : M α := fun _ => .bad

/-- a caught exception's fields -/
def FldsRel (K : PySem.W.Frag) (m : Nat → Addr) (n : Nat) (H : Hp) (ns : List Str) (vs : List D) (fs : List (Str × V)) : Prop := fs.map (·.1) = ns ∧ RelDs K m n H vs (fs.map (·.2))
def RelX (K : PySem.W.Frag) (m : Nat → Addr) (n : Nat) (H : Hp) (ns : List Str) (vs : List D) (dx : Option Addr) : Prop :=
  ns = [] ∨ ∃ d fs, dx = some d ∧ H d = some (.xd fs) ∧ FldsRel K m n H ns vs fs
def RelEx (X : Cx) (ca : Str → Addr) (m : Nat → Addr) (n : Nat) (H : Hp) : D → V → Prop
  | .exc k ns vs, v => X.calm = false ∧ ∃ a oe fv, X.A.handled = some (.ref a) ∧ (a, oe) ∈ X.pn ∧ oe.cls = .ref (ca k) ∧ oe.data = .fields fv ∧ v = .ref a ∧ RelX X.K m n H ns vs oe.dict
  | _, _ => False
abbrev cf (X : Cx) (ca : Str → Addr) : Cf := ⟨X.prog, X.w, X.K, ca⟩
structure RelSl (X : Cx) (ca : Str → Addr) (m : Nat → Addr) (n : Nat) (H : Hp) (sd : Sl) (σ : St) : Prop where
  len : sd.length = σ.length
  at_ : ∀ (i : Nat) (d : D), sd[i]? = some (some d) → ∃ v, σ[i]? = some (some v) ∧ (RelD X.K m n H d v ∨ RelEx X ca m n H d v)
structure Cu (X : Cx) (ca : Str → Addr) (m : Nat → Addr) (h : Hh) (H : Hp) (sd : Sl) (σ : St) : Prop where
  rel : RelH (cf X ca) m h H
  sl : RelSl X ca m h.length H sd σ

section
variable {X : Cx} {ca : Str → Addr} {m m' : Nat → Addr} {h h' : Hh} {H H' : Hp} {sd : Sl} {σ : St} {W : WX}
theorem RelX.to (a : To (cf X ca) h.length m H m' h' H') (r : RelH (cf X ca) m h H) {ns : List Str} {vs : List D} {dx : Option Addr} (q : RelX X.K m h.length H ns vs dx) : RelX X.K m' h'.length H' ns vs dx := by
  rcases q with q | ⟨d, fs, e, ed, q1, q2⟩
  · exact .inl q
  · exact .inr ⟨d, fs, e, a.ext.keep r ed id, q1, a.ds r q2⟩
theorem RelEx.to (a : To (cf X ca) h.length m H m' h' H') (r : RelH (cf X ca) m h H) {d : D} {v : V} (q : RelEx X ca m h.length H d v) : RelEx X ca m' h'.length H' d v := by
  cases d with
  | exc k ns vs =>
    obtain ⟨q0, x, oe, fv, q1, q2, q3, q4, q5, q6⟩ := q
    exact ⟨q0, x, oe, fv, q1, q2, q3, q4, q5, q6.to a r⟩
  | _ => exact q.elim
theorem RelSl.to (a : To (cf X ca) h.length m H m' h' H') (r : RelH (cf X ca) m h H) (q : RelSl X ca m h.length H sd σ) : RelSl X ca m' h'.length H' sd σ :=
  ⟨q.len, fun i d e => by
    obtain ⟨v, e1, e2⟩ := q.at_ i d e
    exact ⟨v, e1, e2.elim (fun z => .inl (a.d r z)) fun z => .inr (z.to a r)⟩⟩
theorem Cu.to (q : Cu X ca m h H sd σ) (a : To (cf X ca) h.length m H m' h' H') : Cu X ca m' h' H' sd σ := ⟨a.rel, q.sl.to a q.rel⟩
theorem RelSl.set {n : Nat} (q : RelSl X ca m n H sd σ) (i : Nat) {d : D} {v : V} (r : RelD X.K m n H d v ∨ RelEx X ca m n H d v) : RelSl X ca m n H (sd.set i (some d)) (σ.set i (some v)) :=
  ⟨by rw [List.length_set, List.length_set]; exact q.len, fun j e he => by
    by_cases hj : j = i
    · subst hj
      by_cases hl : j < sd.length
      · rw [List.getElem?_set_self hl] at he
        have e' : d = e := Option.some.inj (Option.some.inj he)
        subst e'
        exact ⟨v, List.getElem?_set_self (by rw [← q.len]; exact hl), r⟩
      · rw [List.getElem?_eq_none (by simpa using hl)] at he
        cases he
    · rw [List.getElem?_set_ne (Ne.symm hj)] at he
      obtain ⟨w, e1, e2⟩ := q.at_ j e he
      exact ⟨w, by rw [List.getElem?_set_ne (Ne.symm hj)]; exact e1, e2⟩⟩
theorem RelSl.clear {n : Nat} (q : RelSl X ca m n H sd σ) (i : Nat) {o : Option V} : RelSl X ca m n H (sd.set i none) (σ.set i o) :=
  ⟨by rw [List.length_set, List.length_set]; exact q.len, fun j e he => by
    by_cases hj : j = i
    · subst hj
      by_cases hl : j < sd.length
      · rw [List.getElem?_set_self hl] at he
        cases he
      · rw [List.getElem?_eq_none (by simpa using hl)] at he
        cases he
    · rw [List.getElem?_set_ne (Ne.symm hj)] at he
      obtain ⟨w, e1, e2⟩ := q.at_ j e he
      exact ⟨w, by rw [List.getElem?_set_ne (Ne.symm hj)]; exact e1, e2⟩⟩
theorem Cu.set (q : Cu X ca m h H sd σ) (i : Nat) {d : D} {v : V} (r : RelD X.K m h.length H d v) : Cu X ca m h H (sd.set i (some d)) (σ.set i (some v)) := ⟨q.rel, q.sl.set i (.inl r)⟩

/-- what a result asks -/
def PostG (X : Cx) (ca : Str → Addr) (W : WX) (σ : St) {α β : Type} (R : (Nat → Addr) → Nat → Hp → α → β → Prop) (n : Nat) (m : Nat → Addr) (H : Hp) (r : Res α) (Q : β → Hp → Prop) : Prop := match r with
  | .ok d h' => ∀ m' H' v, To (cf X ca) n m H m' h' H' → R m' h'.length H' d v → Q v H'
  | .exn k ns vs h' => ∀ m' H' dx, To (cf X ca) n m H m' h' H' → RelX X.K m' h'.length H' ns vs dx → W (.ref (ca k)) dx σ H'
  | .bad => False
theorem PostG.imp {α β : Type} {R : (Nat → Addr) → Nat → Hp → α → β → Prop} {n : Nat} {r : Res α} {Q Q' : β → Hp → Prop} (p : PostG X ca W σ R n m H r Q) (i : ∀ v H', Q v H' → Q' v H') : PostG X ca W σ R n m H r Q' := by
  cases r with
  | ok d h' => exact fun m' H' v a b => i _ _ (p m' H' v a b)
  | exn k ns vs h' => exact p
  | bad => exact p
theorem PostG.to {α β : Type} {R : (Nat → Addr) → Nat → Hp → α → β → Prop} {n : Nat} {r : Res α} {Q : β → Hp → Prop} (p : PostG X ca W σ R n m H r Q) (a : To (cf X ca) n m H m' h' H') : PostG X ca W σ R h'.length m' H' r Q := by
  cases r with
  | ok d h' => exact fun m2 H2 v b c => p m2 H2 v (a.trans b) c
  | exn k ns vs h' => exact fun m2 H2 v b c => p m2 H2 v (a.trans b) c
  | bad => exact p
/-- the readings -/
def tG (X : Cx) (ca : Str → Addr) (W : WX) {α β : Type} (R : (Nat → Addr) → Nat → Hp → α → β → Prop) (f : Sl → M α) : St → Hp → (β → Hp → Prop) → Prop :=
  fun σ H Q => ∃ m sd h, Cu X ca m h H sd σ ∧ PostG X ca W σ R h.length m H (f sd h) Q
abbrev RD (X : Cx) : (Nat → Addr) → Nat → Hp → D → V → Prop := RelD X.K
abbrev RDs (X : Cx) : (Nat → Addr) → Nat → Hp → List D → List V → Prop := RelDs X.K
abbrev RB : (Nat → Addr) → Nat → Hp → Bool → Bool → Prop := fun _ _ _ a b => b = a
abbrev ROI : (Nat → Addr) → Nat → Hp → Option Int → Option Int → Prop := fun _ _ _ a b => b = a
/-- an expression, a test, arguments, a part of a slice: what they do is what the shallow function does -/
abbrev EV (X : Cx) (ca : Str → Addr) (W : WX) (e : Expr) (f : Sl → M D) : Prop := PE X e (tG X ca W (RD X) f)
abbrev TV (X : Cx) (ca : Str → Addr) (W : WX) (e : Expr) (f : Sl → M Bool) : Prop := PT X e (tG X ca W RB f)
abbrev WV (X : Cx) (ca : Str → Addr) (W : WX) (e : Expr) (f : Sl → M Bool) : Prop := PW X e (tG X ca W RB f)
abbrev AV (X : Cx) (ca : Str → Addr) (W : WX) (es : List Expr) (f : Sl → M (List D)) : Prop := PA X es (tG X ca W (RDs X) f)
abbrev OV (X : Cx) (ca : Str → Addr) (W : WX) (e : Option Expr) (f : Sl → M (Option Int)) : Prop := PO X e (tG X ca W ROI f)

/-- one step, then the rest -/
theorem tG_bnd {α α2 β β2 : Type} {R : (Nat → Addr) → Nat → Hp → α → β → Prop} {R2 : (Nat → Addr) → Nat → Hp → α2 → β2 → Prop} {f : Sl → M α} {k : α → M α2} {Q : β2 → Hp → Prop} (c : Cu X ca m h H sd σ)
    (p : PostG X ca W σ R2 h.length m H (bnd (f sd) k h) Q) :
    tG X ca W R f σ H (fun x H1 => ∃ d m1 h1, To (cf X ca) h.length m H m1 h1 H1 ∧ Cu X ca m1 h1 H1 sd σ ∧ R m1 h1.length H1 d x ∧ PostG X ca W σ R2 h1.length m1 H1 (k d h1) Q) := by
  refine ⟨m, sd, h, c, ?_⟩
  unfold bnd at p
  cases e : f sd h with
  | ok d h1 =>
    rw [e] at p
    exact fun m1 H1 v a r => ⟨d, m1, h1, a, c.to a, r, p.to a⟩
  | exn k ns vs h1 =>
    rw [e] at p
    exact p
  | bad =>
    rw [e] at p
    exact p
theorem PostG.ret {α β : Type} {R : (Nat → Addr) → Nat → Hp → α → β → Prop} {d : α} {v : β} {Q : β → Hp → Prop} (r : RelH (cf X ca) m h H) (rd : R m h.length H d v) (p : PostG X ca W σ R h.length m H (.ok d h) Q) : Q v H := p m H v (To.refl r) rd
theorem PE.imp {e : Expr} {t t' : TE} (p : PE X e t) (i : ∀ σ H Q, t' σ H Q → t σ H Q) : PE X e t' := ⟨fun pins s σ H Q I h => p.run pins s σ H Q I (i σ H Q h)⟩
theorem PT.imp {e : Expr} {t t' : TT} (p : PT X e t) (i : ∀ σ H Q, t' σ H Q → t σ H Q) : PT X e t' := ⟨fun pins s σ H Q I h => p.run pins s σ H Q I (i σ H Q h)⟩
theorem PW.imp {e : Expr} {t t' : TT} (p : PW X e t) (i : ∀ σ H Q, t' σ H Q → t σ H Q) : PW X e t' := ⟨fun wh pins s σ H Q I h => p.run wh pins s σ H Q I (i σ H Q h)⟩
theorem PA.imp {e : List Expr} {t t' : TA} (p : PA X e t) (i : ∀ σ H Q, t' σ H Q → t σ H Q) : PA X e t' := ⟨fun pos pins s σ H Q I h => p.run pos pins s σ H Q I (i σ H Q h)⟩
theorem PO.imp {e : Option Expr} {t t' : TO} (p : PO X e t) (i : ∀ σ H Q, t' σ H Q → t σ H Q) : PO X e t' := ⟨fun pins s σ H Q I h => p.run pins s σ H Q I (i σ H Q h)⟩

/-! ### names, constants -/
def getS (i : Nat) : Sl → M D := fun sd h => match sd[i]? with
  | some (some (.exc _ _ _)) => .bad
  | some (some d) => .ok d h
  | _ => .bad
def cst (d : D) : Sl → M D := fun _ => ret d
theorem ev_var (i : Nat) {x : Str} {pos : Pos} (hN : X.N[i]? = some x := by rfl) (hv : Vis X.env.scope x := by first | exact Or.inl rfl | exact Or.inr (Or.inl rfl) | exact Or.inr (Or.inr rfl)) (hd : (x == ("__debug__" : Str)) = false := by decide)
    (hcd : (x == ("__classdict__" : Str)) = false := by decide) : EV X ca W (.Name x pos) (getS i) := by
  refine PE.imp (pe_var hN hv hd hcd) fun σ H Q ⟨m, sd, h, c, p⟩ => ?_
  unfold getS at p
  cases e : sd[i]? with
  | none => rw [e] at p; exact p.elim
  | some o =>
    cases o with
    | none => rw [e] at p; exact p.elim
    | some d =>
      obtain ⟨v, e1, e2⟩ := c.sl.at_ i d e
      rw [e] at p
      refine ⟨v, e1, ?_⟩
      cases d with
      | exc _ _ _ => exact p.elim
      | non => rcases e2 with e2 | e2 <;> first | exact p.ret c.rel e2 | exact e2.elim
      | bl _ => rcases e2 with e2 | e2 <;> first | exact p.ret c.rel e2 | exact e2.elim
      | int _ => rcases e2 with e2 | e2 <;> first | exact p.ret c.rel e2 | exact e2.elim
      | str _ => rcases e2 with e2 | e2 <;> first | exact p.ret c.rel e2 | exact e2.elim
      | tup _ => rcases e2 with e2 | e2 <;> first | exact p.ret c.rel e2 | exact e2.elim
      | frl _ => rcases e2 with e2 | e2 <;> first | exact p.ret c.rel e2 | exact e2.elim
      | ref _ => rcases e2 with e2 | e2 <;> first | exact p.ret c.rel e2 | exact e2.elim
theorem ev_cst {e : Expr} {d : D} {v : V} (p : PE X e (tC v)) (r : ∀ m n H, RelD X.K m n H d v) : EV X ca W e (cst d) :=
  PE.imp p fun σ H Q ⟨m, sd, h, c, q⟩ => PostG.ret (R := RD X) c.rel (r m _ H) q
theorem ev_int {i j pos} : EV X ca W (.Constant (.int i) j pos) (cst (.int i)) := ev_cst pe_int fun _ _ _ => rfl
theorem ev_bl {b j pos} : EV X ca W (.Constant (.bool b) j pos) (cst (.bl b)) := ev_cst pe_bl fun _ _ _ => rfl
theorem ev_non {j pos} : EV X ca W (.Constant .none j pos) (cst .non) := ev_cst pe_non fun _ _ _ => rfl
theorem ev_str {x j pos} : EV X ca W (.Constant (.str x) j pos) (cst (.str x)) := ev_cst pe_str fun _ _ _ => rfl
theorem ev_glob {x : Str} {d : D} {v : V} {u : Value} {pos : Pos} (hg : Gl X x) (hm : X.mg x = some u) (r : RelV v u) (rd : ∀ m n H, RelD X.K m n H d v) (hd : (x == ("__debug__" : Str)) = false := by decide) : EV X ca W (.Name x pos) (cst d) :=
  ev_cst (pe_glob hg hm r hd) rd

/-! ### operators by values -/
/-- what an operator by values is worth -/
def OpE (X : Cx) (ca : Str → Addr) (W : WX) (f : Value → Value → Sem Value) (g : D → D → M D) : Prop :=
  ∃ r : R2, OpR X f r ∧ ∀ (σ : St) (m : Nat → Addr) (h : Hh) (H : Hp) (d1 d2 : D) (x y : V) (Q : VK), RelH (cf X ca) m h H → RelD X.K m h.length H d1 x → RelD X.K m h.length H d2 y → PostG X ca W σ (RD X) h.length m H (g d1 d2 h) Q → r x y H Q
def bin2 (g : D → D → M D) (fa fb : Sl → M D) : Sl → M D := fun sd => bnd (fa sd) fun x => bnd (fb sd) fun y => g x y
theorem t_bin {g : D → D → M D} {fa fb : Sl → M D} {r : R2} (hr : ∀ (σ : St) (m : Nat → Addr) (h : Hh) (H : Hp) (d1 d2 : D) (x y : V) (Q : VK), RelH (cf X ca) m h H → RelD X.K m h.length H d1 x → RelD X.K m h.length H d2 y → PostG X ca W σ (RD X) h.length m H (g d1 d2 h) Q → r x y H Q)
    {σ : St} {H : Hp} {Q : VK} (t : tG X ca W (RD X) (bin2 g fa fb) σ H Q) : tOp r (tG X ca W (RD X) fa) (tG X ca W (RD X) fb) σ H Q := by
  obtain ⟨m, sd, h, c, p⟩ := t
  obtain ⟨m0, sd0, h0, c0, p0⟩ := tG_bnd (R := RD X) (f := fa) (k := fun x => bnd (fb sd) fun y => g x y) c p
  refine ⟨m0, sd0, h0, c0, p0.imp fun x H1 ⟨d1, m1, h1, a1, c1, r1, p1⟩ => ?_⟩
  obtain ⟨m0, sd0, h0, c0, p0⟩ := tG_bnd (R := RD X) (f := fb) (k := fun y => g d1 y) c1 p1
  exact ⟨m0, sd0, h0, c0, p0.imp fun y H2 ⟨d2, m2, h2, a2, c2, r2, p2⟩ => hr σ m2 h2 H2 d1 d2 x y Q c2.rel (a2.d c1.rel r1) r2 p2⟩
end
end Ev
set_option Elab.async false
set_option linter.all false
set_option maxRecDepth 100000
set_option maxHeartbeats 2000000
namespace Ev
open PySem PySem.Spec L2
open PyProof.Rows hiding St

abbrev LL : Nat := 16777216
theorem le_line {n : Nat} (h : n ≤ LL) : n ≤ sizeLine := by rw [sizeLine_eq]; exact h
section
variable {X : Cx} {ca : Str → Addr} {m m' : Nat → Addr} {h h' : Hh} {H H' : Hp} {sd : Sl} {σ : St} {W : WX}

theorem ev_bin {op : Operator} {a b : Expr} {g : D → D → M D} {fa fb : Sl → M D} {pos : Pos} (ho : OpE X ca W (binaryOp op) g) (ha : EV X ca W a fa) (hb : EV X ca W b fb) : EV X ca W (.BinOp a op b pos) (bin2 g fa fb) := by
  obtain ⟨r, hr, hg⟩ := ho
  exact PE.imp (pe_op hr ha hb) fun σ H Q t => t_bin hg t
theorem ev_cmp {op : CmpOp} {a b : Expr} {g : D → D → M D} {fa fb : Sl → M D} {pos : Pos} (ho : OpE X ca W (compareOp op) g) (ha : EV X ca W a fa) (hb : EV X ca W b fb) (hm : behindInMarks op b = false) : EV X ca W (.Compare a [op] [b] pos) (bin2 g fa fb) := by
  obtain ⟨r, hr, hg⟩ := ho
  exact PE.imp (pe_cmpR hr ha hb hm) fun σ H Q t => t_bin hg t
/-- a value that must be a truth value -/
def tb (f : Sl → M D) : Sl → M Bool := fun sd => bnd (f sd) fun d => match d with
  | .bl b => ret b
  | _ => bad
theorem tb_of {f : Sl → M D} {σ : St} {H : Hp} {Q : Bool → Hp → Prop} (t : tG X ca W RB (tb f) σ H Q) : tG X ca W (RD X) f σ H (fun x H1 => ∃ c, x = .bl c ∧ Q c H1) := by
  obtain ⟨m, sd, h, c, p⟩ := t
  obtain ⟨m0, sd0, h0, c0, p0⟩ := tG_bnd (R := RD X) (f := f) (R2 := RB) c p
  refine ⟨m0, sd0, h0, c0, p0.imp fun x H1 ⟨d, m1, h1, a1, c1, r1, p1⟩ => ?_⟩
  cases d with
  | bl b => exact ⟨b, r1, p1 m1 H1 b (.refl c1.rel) rfl⟩
  | _ => exact p1.elim
theorem tv_val {e : Expr} {f : Sl → M D} (he : EV X ca W e f) (hi : ∀ whole, isTrue e X.env whole = (do let v ← whole; standAt e.pos; holding [v] (truthy v)) := by intro _; rfl) : TV X ca W e (tb f) :=
  PT.imp (pt_val he hi) fun σ H Q t => tb_of t
theorem tv_cmp {op : CmpOp} {a b : Expr} {g : D → D → M D} {fa fb : Sl → M D} {pos : Pos} (ho : OpE X ca W (compareOp op) g) (ha : EV X ca W a fa) (hb : EV X ca W b fb) (hm : behindInMarks op b = false) : TV X ca W (.Compare a [op] [b] pos) (tb (bin2 g fa fb)) := by
  obtain ⟨r, hr, hg⟩ := ho
  refine PT.imp (pt_cmpR hr ha hb hm) fun σ H Q t => ?_
  exact t_bin hg (tb_of t)

/-! ### ints -/
def opI (C : Int → Int → Bool) (g : Int → Int → D) : D → D → M D := fun x y => match x, y with
  | .int i, .int j => if C i j = true then ret (g i j) else bad
  | _, _ => bad
theorem ope_rI {f : Value → Value → Sem Value} {C : Int → Int → Prop} {Cb : Int → Int → Bool} {gv : Int → Int → V} {g : Int → Int → D} (hr : OpR X f (rI C gv)) (hC : ∀ i j, Cb i j = true → C i j) (hg : ∀ m n H i j, RelD X.K m n H (g i j) (gv i j)) : OpE X ca W f (opI Cb g) := by
  refine ⟨_, hr, fun σ m h H d1 d2 x y Q rh r1 r2 p => ?_⟩
  cases d1 with
  | int i =>
    cases d2 with
    | int j =>
      have p' : PostG X ca W σ (RD X) h.length m H ((if Cb i j = true then ret (g i j) else bad) h) Q := p
      by_cases hc : Cb i j = true
      · rw [if_pos hc] at p'
        exact ⟨i, j, r1, r2, hC i j hc, PostG.ret (R := RD X) rh (hg m _ H i j) p'⟩
      · rw [if_neg hc] at p'
        exact p'.elim
    | _ => exact p.elim
  | _ => exact p.elim
theorem ope_rI0 {f : Value → Value → Sem Value} {gv : Int → Int → V} {g : Int → Int → D} (hr : OpR X f (rI0 gv)) (hg : ∀ m n H i j, RelD X.K m n H (g i j) (gv i j)) : OpE X ca W f (opI (fun _ _ => true) g) := by
  refine ⟨_, hr, fun σ m h H d1 d2 x y Q rh r1 r2 p => ?_⟩
  cases d1 with
  | int i =>
    cases d2 with
    | int j => exact ⟨i, j, r1, r2, PostG.ret (R := RD X) rh (hg m _ H i j) p⟩
    | _ => exact p.elim
  | _ => exact p.elim
def oSub : D → D → M D := opI (fun _ _ => true) fun i j => .int (i - j)
theorem e_sub : OpE X ca W (binaryOp .Sub) oSub := ope_rI0 op_sub fun _ _ _ _ _ => rfl
def oFdiv : D → D → M D := opI (fun _ j => decide (j ≠ 0 ∧ j.natAbs < 1073741824)) fun i j => .int (i.fdiv j)
theorem e_fdiv : OpE X ca W (binaryOp .FloorDiv) oFdiv := ope_rI op_fdivN (fun i j h => show j ≠ 0 ∧ j.natAbs < 1073741824 from of_decide_eq_true h) fun _ _ _ _ _ => rfl
def oMod : D → D → M D := opI (fun _ j => decide (j ≠ 0)) fun i j => .int (i.fmod j)
theorem e_mod : OpE X ca W (binaryOp .Mod) oMod := ope_rI op_modN (fun _ _ h => of_decide_eq_true h) fun _ _ _ _ _ => rfl
def oPow : D → D → M D := opI (fun i j => decide (0 ≤ j ∧ j ≤ 1000000 ∧ i.natAbs < 2 ^ 64)) fun i j => .int (i ^ j.toNat)
theorem e_pow : OpE X ca W (binaryOp .Pow) oPow := ope_rI op_pow (fun i j h => show 0 ≤ j ∧ j ≤ 1000000 ∧ i.natAbs < 2 ^ 64 from of_decide_eq_true h) fun _ _ _ _ _ => rfl
def oMul : D → D → M D := opI (fun i j => decide ((-(2 ^ 64) < i ∧ i < 2 ^ 64) ∨ (-(2 ^ 64) < j ∧ j < 2 ^ 64))) fun i j => .int (i * j)
theorem e_mul : OpE X ca W (binaryOp .Mult) oMul := ope_rI op_mul (fun i j h => show (-(2 ^ 64) < i ∧ i < 2 ^ 64) ∨ (-(2 ^ 64) < j ∧ j < 2 ^ 64) from of_decide_eq_true h) fun _ _ _ _ _ => rfl
/-- of ints and of texts -/
def oCmp (ci : Int → Int → Bool) (cs : List Nat → List Nat → Bool) : D → D → M D := fun x y => match x, y with
  | .int i, .int j => ret (.bl (ci i j))
  | .str i, .str j => ret (.bl (cs i.cps.toList j.cps.toList))
  | _, _ => bad
theorem ope_cmp {f : Value → Value → Sem Value} {ci : Int → Int → Bool} {cs : List Nat → List Nat → Bool} (h1 : OpR X f (rI0 fun i j => .bl (ci i j)))
    (h2 : OpR X f (fun x y H Q => ∃ i j, x = .str i ∧ y = .str j ∧ Q (.bl (cs i.cps.toList j.cps.toList)) H)) : OpE X ca W f (oCmp ci cs) := by
  refine ⟨_, h1.or h2, fun σ m h H d1 d2 x y Q rh r1 r2 p => ?_⟩
  cases d1 with
  | int i =>
    cases d2 with
    | int j => exact .inl ⟨i, j, r1, r2, PostG.ret (R := RD X) (d := .bl (ci i j)) rh rfl p⟩
    | _ => exact p.elim
  | str i =>
    cases d2 with
    | str j => exact .inr ⟨i, j, r1, r2, PostG.ret (R := RD X) (d := .bl (cs i.cps.toList j.cps.toList)) rh rfl p⟩
    | _ => exact p.elim
  | _ => exact p.elim
def oLt : D → D → M D := oCmp (fun i j => decide (i < j)) fun i j => decide (i < j)
theorem e_lt : OpE X ca W (compareOp .Lt) oLt := ope_cmp op_lt op_lt_str
def oLe : D → D → M D := oCmp (fun i j => decide (i ≤ j)) fun i j => !decide (j < i)
theorem e_le : OpE X ca W (compareOp .LtE) oLe := ope_cmp op_le op_le_str
def oGt : D → D → M D := oCmp (fun i j => decide (j < i)) fun i j => decide (j < i)
theorem e_gt : OpE X ca W (compareOp .Gt) oGt := ope_cmp op_gt op_gt_str
def oGe : D → D → M D := oCmp (fun i j => decide (j ≤ i)) fun i j => !decide (i < j)
theorem e_ge : OpE X ca W (compareOp .GtE) oGe := ope_cmp op_ge op_ge_str
def oIs : D → D → M D := fun x y => match y with
  | .non => match x with
    | .non => ret (.bl true)
    | _ => ret (.bl false)
  | _ => bad
def isN : D → Bool
  | .non => true
  | _ => false
theorem isN_of {K : PySem.W.Frag} {n : Nat} {d : D} {v : V} (r : RelD K m n H d v) : decide (v = .non) = isN d := by
  cases d with
  | non => have e : v = .non := r; rw [e]; rfl
  | bl b => have e : v = .bl b := r; rw [e]; rfl
  | int b => have e : v = .int b := r; rw [e]; rfl
  | str b => have e : v = .str b := r; rw [e]; rfl
  | tup b => obtain ⟨a, xs, e, _⟩ := r; rw [e]; rfl
  | frl b => obtain ⟨a, xs, e, _⟩ := r; rw [e]; rfl
  | ref b => obtain ⟨_, e⟩ := r; rw [e]; rfl
  | exc _ _ _ => exact r.elim
def oIsN (neg : Bool) : D → D → M D := fun x y => match y with
  | .non => ret (.bl (if neg then !isN x else isN x))
  | _ => bad
theorem e_is : OpE X ca W (compareOp .Is) (oIsN false) := by
  refine ⟨_, op_isN, fun σ m h H d1 d2 x y Q rh r1 r2 p => ?_⟩
  cases d2 with
  | non =>
    refine ⟨r2, ?_⟩
    rw [isN_of r1]
    exact PostG.ret (R := RD X) (d := .bl (isN d1)) rh rfl p
  | _ => exact p.elim
theorem e_isnot : OpE X ca W (compareOp .IsNot) (oIsN true) := by
  refine ⟨_, op_notN, fun σ m h H d1 d2 x y Q rh r1 r2 p => ?_⟩
  cases d2 with
  | non =>
    refine ⟨r2, ?_⟩
    rw [isN_of r1]
    exact PostG.ret (R := RD X) (d := .bl (!isN d1)) rh rfl p
  | _ => exact p.elim

/-! ### data: equality, membership -/
def mapO {α β : Type} (f : α → Option β) : List α → Option (List β)
  | [] => some []
  | x :: xs => match f x with
    | none => none
    | some y => match mapO f xs with
      | none => none
      | some ys => some (y :: ys)
theorem mapO_cons {α β : Type} {f : α → Option β} {x : α} {xs : List α} {zs : List β} (h : mapO f (x :: xs) = some zs) : ∃ y ys, zs = y :: ys ∧ f x = some y ∧ mapO f xs = some ys := by
  unfold mapO at h
  cases e : f x with
  | none => rw [e] at h; cases h
  | some y =>
    rw [e] at h
    cases e2 : mapO f xs with
    | none => rw [e2] at h; cases h
    | some ys =>
      rw [e2] at h
      cases h
      exact ⟨y, ys, rfl, rfl, rfl⟩
def lstAt (h : Hh) (i : Nat) : Option (List D) := match h[i]? with
  | some (.lst xs) => some xs
  | _ => none
theorem lstAt_eq {h : Hh} {i : Nat} {xs : List D} (e : lstAt h i = some xs) : h[i]? = some (.lst xs) := by
  unfold lstAt at e
  cases q : h[i]? with
  | none => rw [q] at e; cases e
  | some o =>
    rw [q] at e
    cases o with
    | lst ys => cases e; rfl
    | _ => cases e
theorem lstAt_of (r : RelH (cf X ca) m h H) {i : Nat} {xs : List D} (e : lstAt h i = some xs) : ∃ ys, H (m i) = some (.lst ys) ∧ RelDs X.K m h.length H xs ys := r.ob i _ (lstAt_eq e)
def toP (h : Hh) : Nat → D → Option PyData
  | 0, _ => none
  | _ + 1, .non => some .none
  | _ + 1, .bl b => some (.bool b)
  | _ + 1, .int i => some (.int i)
  | _ + 1, .str x => if PyData.strOk x = true then some (.str x) else none
  | k + 1, .tup ds => (mapO (toP h k) ds).map .tuple
  | k + 1, .frl ds => (mapO (toP h k) ds).map .list
  | k + 1, .ref i => match lstAt h i with
    | some ds => (mapO (toP h k) ds).map .list
    | none => none
  | _ + 1, .exc _ _ _ => none
theorem toP_ok (r : RelH (cf X ca) m h H) : ∀ (k : Nat) (d : D) (v : V) (p : PyData), toP h k d = some p → RelD X.K m h.length H d v → Dp X.K H v p ∧ p.canLay0 = true ∧ p.depth ≤ k := by
  intro k
  induction k with
  | zero => intro d v p e _; cases e
  | succ k ih =>
    have all : ∀ (ds : List D) (vs : List V) (ps : List PyData), mapO (toP h k) ds = some ps → RelDs X.K m h.length H ds vs → DpAll X.K H vs ps ∧ PyData.canLayAll0 ps = true ∧ PyData.depthAll ps ≤ k := by
      intro ds
      induction ds with
      | nil =>
        intro vs ps e rd
        have e1 : vs = [] := rd
        cases e
        rw [e1]
        exact ⟨.nil, rfl, Nat.zero_le _⟩
      | cons d ds ihd =>
        intro vs ps e rd
        obtain ⟨y, ys, rfl, e1, e2⟩ := mapO_cons e
        obtain ⟨x, xs, rfl, r1, r2⟩ := rd
        obtain ⟨a1, a2, a3⟩ := ih d x y e1 r1
        obtain ⟨b1, b2, b3⟩ := ihd xs ys e2 r2
        refine ⟨.cons a1 b1, ?_, ?_⟩
        · show (PyData.canLay0 y && PyData.canLayAll0 ys) = true
          rw [a2, b2]
          rfl
        · show max y.depth (PyData.depthAll ys) ≤ k
          omega
    intro d v p e rd
    cases d with
    | non => cases e; have e1 : v = .non := rd; rw [e1]; exact ⟨.non, rfl, Nat.zero_le _⟩
    | bl b => cases e; have e1 : v = .bl b := rd; rw [e1]; exact ⟨.bl b, rfl, Nat.zero_le _⟩
    | int b => cases e; have e1 : v = .int b := rd; rw [e1]; exact ⟨.int b, rfl, Nat.zero_le _⟩
    | str b =>
      have e1 : v = .str b := rd
      have e' : (if PyData.strOk b = true then some (PyData.str b) else none) = some p := e
      by_cases hs : PyData.strOk b = true
      · rw [if_pos hs] at e'
        cases e'
        rw [e1]
        exact ⟨.str b, hs, Nat.zero_le _⟩
      · rw [if_neg hs] at e'
        cases e'
    | tup ds =>
      obtain ⟨a, xs, rfl, s, t⟩ := rd
      have e' : (mapO (toP h k) ds).map PyData.tuple = some p := e
      cases q : mapO (toP h k) ds with
      | none => rw [q] at e'; cases e'
      | some ps =>
        rw [q] at e'
        cases e'
        obtain ⟨a1, a2, a3⟩ := all ds xs ps q t
        exact ⟨.tup s a1, a2, Nat.succ_le_succ a3⟩
    | frl ds =>
      obtain ⟨a, xs, rfl, s, t⟩ := rd
      have e' : (mapO (toP h k) ds).map PyData.list = some p := e
      cases q : mapO (toP h k) ds with
      | none => rw [q] at e'; cases e'
      | some ps =>
        rw [q] at e'
        cases e'
        obtain ⟨a1, a2, a3⟩ := all ds xs ps q t
        exact ⟨.lst s.sq a1, a2, Nat.succ_le_succ a3⟩
    | ref i =>
      obtain ⟨hi, rfl⟩ := rd
      have e' : (match lstAt h i with
        | some ds => (mapO (toP h k) ds).map PyData.list
        | none => none) = some p := e
      cases z : lstAt h i with
      | none => rw [z] at e'; cases e'
      | some ds =>
        rw [z] at e'
        have e2 : (mapO (toP h k) ds).map PyData.list = some p := e'
        obtain ⟨ys, ey, t⟩ := lstAt_of r z
        cases q : mapO (toP h k) ds with
        | none => rw [q] at e2; cases e2
        | some ps =>
          rw [q] at e2
          cases e2
          obtain ⟨a1, a2, a3⟩ := all ds ys ps q t
          exact ⟨.lst (.of ey) a1, a2, Nat.succ_le_succ a3⟩
    | exc _ _ _ => cases e
abbrev dK : Nat := 12
theorem toP_ok' (r : RelH (cf X ca) m h H) {d : D} {v : V} {p : PyData} (e : toP h dK d = some p) (rd : RelD X.K m h.length H d v) : Dp X.K H v p ∧ SeqAt.shaped p = true := by
  obtain ⟨a, b, c⟩ := toP_ok r dK d v p e rd
  refine ⟨a, ?_⟩
  unfold SeqAt.shaped
  rw [b, decide_eq_true (Nat.le_trans c (by decide : dK ≤ 64))]
  rfl
def oEqN (neg : Bool) : D → D → M D := fun x y h => match toP h dK x with
  | some p => match toP h dK y with
    | some q => .ok (.bl (if neg then !PyData.eqv p q else PyData.eqv p q)) h
    | none => .bad
  | none => .bad
theorem oEqN_ok {neg : Bool} {d1 d2 : D} {x y : V} {Q : VK} (rh : RelH (cf X ca) m h H) (r1 : RelD X.K m h.length H d1 x) (r2 : RelD X.K m h.length H d2 y) (p : PostG X ca W σ (RD X) h.length m H (oEqN neg d1 d2 h) Q) :
    ∃ d e, Dp X.K H x d ∧ Dp X.K H y e ∧ SeqAt.shaped d = true ∧ SeqAt.shaped e = true ∧ Q (.bl (if neg then !PyData.eqv d e else PyData.eqv d e)) H := by
  unfold oEqN at p
  cases e1 : toP h dK d1 with
  | none => rw [e1] at p; exact p.elim
  | some p1 =>
    cases e2 : toP h dK d2 with
    | none => rw [e1, e2] at p; exact p.elim
    | some p2 =>
      rw [e1, e2] at p
      obtain ⟨a1, b1⟩ := toP_ok' rh e1 r1
      obtain ⟨a2, b2⟩ := toP_ok' rh e2 r2
      exact ⟨p1, p2, a1, a2, b1, b2, PostG.ret (R := RD X) (d := .bl (if neg then !PyData.eqv p1 p2 else PyData.eqv p1 p2)) rh rfl p⟩
theorem e_eq (hu : X.A.units + 64 < cLine) : OpE X ca W (compareOp .Eq) (oEqN false) := ⟨_, op_eqD hu, fun σ m h H d1 d2 x y Q rh r1 r2 p => oEqN_ok rh r1 r2 p⟩
theorem e_ne (hu : X.A.units + 64 < cLine) : OpE X ca W (compareOp .NotEq) (oEqN true) := ⟨_, op_neD hu, fun σ m h H d1 d2 x y Q rh r1 r2 p => oEqN_ok rh r1 r2 p⟩

/-- x in a list, a tuple, a text -/
def rInS (K : PySem.W.Frag) (neg : Bool) : R2 := fun x y H Q => ∃ d ds, Dp K H x d ∧ (Dp K H y (.list ds) ∨ Dp K H y (.tuple ds)) ∧ SeqAt.shaped d = true ∧ SeqAt.shaped (.list ds) = true ∧ Q (.bl (if neg then !ds.any fun z => PyData.eqv z d else ds.any fun z => PyData.eqv z d)) H
theorem op_inS (hu : X.A.units + 65 < cLine) : OpR X (compareOp .In) (rInS X.K false) := by
  intro pins s σ H x y v u Q I rx ry h
  obtain ⟨d, ds, hd, he | he, sd, se, q⟩ := h
  · obtain ⟨as, r1⟩ := Dp.reads I d x v hd rx
    obtain ⟨bs, r2⟩ := Dp.reads I (.list ds) y u he ry
    exact SeqAt.in_list_reads r2 r1 (SeqAt.canLay_of_shaped se) (SeqAt.canLay_of_shaped sd) (room_in_shaped sd hu) ⟨.bl _, H, I, rfl, q⟩
  · obtain ⟨as, r1⟩ := Dp.reads I d x v hd rx
    obtain ⟨bs, r2⟩ := Dp.reads I (.tuple ds) y u he ry
    exact SeqAt.in_tuple_reads r2 r1 (SeqAt.canLay_of_shaped se) (SeqAt.canLay_of_shaped sd) (room_in_shaped sd hu) ⟨.bl _, H, I, rfl, q⟩
theorem op_notInS (hu : X.A.units + 65 < cLine) : OpR X (compareOp .NotIn) (rInS X.K true) := by
  intro pins s σ H x y v u Q I rx ry h
  obtain ⟨d, ds, hd, he | he, sd, se, q⟩ := h
  · obtain ⟨as, r1⟩ := Dp.reads I d x v hd rx
    obtain ⟨bs, r2⟩ := Dp.reads I (.list ds) y u he ry
    exact SeqAt.notIn_list_reads r2 r1 (SeqAt.canLay_of_shaped se) (SeqAt.canLay_of_shaped sd) (room_in_shaped sd hu) ⟨.bl _, H, I, rfl, q⟩
  · obtain ⟨as, r1⟩ := Dp.reads I d x v hd rx
    obtain ⟨bs, r2⟩ := Dp.reads I (.tuple ds) y u he ry
    exact SeqAt.notIn_tuple_reads r2 r1 (SeqAt.canLay_of_shaped se) (SeqAt.canLay_of_shaped sd) (room_in_shaped sd hu) ⟨.bl _, H, I, rfl, q⟩
def keyOf : D → Option Key
  | .int i => some (.inl i)
  | .str x => some (.inr x)
  | _ => none
def inSeq (neg : Bool) (x y : D) : M D := fun h => match toP h dK x with
  | some p => match toP h (dK + 1) y with
    | some (.list ds) => .ok (.bl (if neg then !ds.any fun z => PyData.eqv z p else ds.any fun z => PyData.eqv z p)) h
    | some (.tuple ds) => .ok (.bl (if neg then !ds.any fun z => PyData.eqv z p else ds.any fun z => PyData.eqv z p)) h
    | _ => .bad
  | none => .bad
def dicAt (h : Hh) (i : Nat) : Option (List (Key × D)) := match h[i]? with
  | some (.dic xs) => some xs
  | _ => none
theorem dicAt_eq {h : Hh} {i : Nat} {xs : List (Key × D)} (e : dicAt h i = some xs) : h[i]? = some (.dic xs) := by
  unfold dicAt at e
  cases q : h[i]? with
  | none => rw [q] at e; cases e
  | some o =>
    rw [q] at e
    cases o with
    | dic ys => cases e; rfl
    | _ => cases e
def lookK {α : Type} (k : Key) : List (Key × α) → Option α
  | [] => none
  | p :: ps => if p.1 = k then some p.2 else lookK k ps
def inDic (neg : Bool) (i : Nat) (x : D) : M D := fun h => match dicAt h i with
  | some ps => match keyOf x with
    | some k => .ok (.bl (if neg then !(lookK k ps).isSome else (lookK k ps).isSome)) h
    | none => .bad
  | none => .bad
def oIn (neg : Bool) : D → D → M D := fun x y => match y with
  | .str z => match x with
    | .str c => match c.cps.toList with
      | [k] => ret (.bl (if neg then !decide (k ∈ z.cps.toList) else decide (k ∈ z.cps.toList)))
      | _ => bad
    | _ => bad
  | .ref i => fun h => match h[i]? with
    | some (.dic _) => inDic neg i x h
    | _ => inSeq neg x y h
  | _ => inSeq neg x y
end
end Ev
set_option Elab.async false
set_option linter.all false
set_option maxRecDepth 100000
set_option maxHeartbeats 2000000
namespace Ev
open PySem PySem.Spec L2
open PyProof.Rows hiding St

section
variable {X : Cx} {ca : Str → Addr} {m m' : Nat → Addr} {h h' : Hh} {H H' : Hp} {sd : Sl} {σ : St} {W : WX}

/-! ### membership, by values -/
theorem RelKs.val : ∀ {ps : List (Key × D)} {xs : List (Key × V)} {n : Nat} {K : PySem.W.Frag} (k : Key), RelKs K m n H ps xs → (∃ d v, lookK k ps = some d ∧ valV xs k = some v ∧ RelD K m n H d v) ∨ (lookK k ps = none ∧ valV xs k = none)
  | [], xs, n, K, k, r => by
    have e : xs = [] := r
    rw [e]
    exact .inr ⟨rfl, rfl⟩
  | p :: ps, _, n, K, k, r => by
    obtain ⟨x, xs, rfl, r1, r2⟩ := r
    by_cases e : p.1 = k
    · refine .inl ⟨p.2, x, ?_, ?_, r1⟩
      · unfold lookK
        rw [if_pos e]
      · exact valV_pos e
    · have e1 : lookK k (p :: ps) = lookK k ps := by
        show (if p.1 = k then some p.2 else lookK k ps) = _
        rw [if_neg e]
      have e2 : valV ((p.1, x) :: xs) k = valV xs k := valV_neg e
      rw [e1, e2]
      exact RelKs.val k r2
theorem dicAt_of (r : RelH (cf X ca) m h H) {i : Nat} {ps : List (Key × D)} (e : dicAt h i = some ps) : ∃ xs, H (m i) = some (.dK xs) ∧ RelKs X.K m h.length H ps xs := r.ob i _ (dicAt_eq e)
theorem keyOf_rel {K : PySem.W.Frag} {n : Nat} {d : D} {v : V} {k : Key} (e : keyOf d = some k) (r : RelD K m n H d v) : v = kV k := by
  cases d with
  | int i => cases e; exact r
  | str x => cases e; exact r
  | _ => cases e
def rInA (K : PySem.W.Frag) (neg : Bool) : R2 := fun x y H Q =>
  (∃ (c : Nat) (z : Str), x = .str ⟨#[c]⟩ ∧ y = .str z ∧ Q (.bl (if neg then !decide (c ∈ z.cps.toList) else decide (c ∈ z.cps.toList))) H) ∨
  rInS K neg x y H Q ∨ (∃ a o, y = .ref a ∧ DGet H a x o ∧ Q (.bl (if neg then !o.isSome else o.isSome)) H)
theorem op_inA (hu : X.A.units + 65 < cLine) : OpR X (compareOp .In) (rInA X.K false) := by
  intro pins s σ H x y v u Q I rx ry h
  rcases h with h | h | ⟨a, o, rfl, g, q⟩
  · exact op_in_sign pins s σ H x y v u Q I rx ry h
  · exact op_inS hu pins s σ H x y v u Q I rx ry h
  · obtain rfl : u = Value.ref a := ry
    exact d_in (Nat.lt_of_le_of_lt (Nat.add_le_add_left (by decide : 1 ≤ 65) _) hu) I g rx fun s' I' => ⟨.bl o.isSome, H, I', rfl, q⟩
theorem op_notInA (hu : X.A.units + 65 < cLine) : OpR X (compareOp .NotIn) (rInA X.K true) := by
  intro pins s σ H x y v u Q I rx ry h
  rcases h with h | h | ⟨a, o, rfl, g, q⟩
  · exact op_notIn_sign pins s σ H x y v u Q I rx ry h
  · exact op_notInS hu pins s σ H x y v u Q I rx ry h
  · obtain rfl : u = Value.ref a := ry
    exact d_notIn (Nat.lt_of_le_of_lt (Nat.add_le_add_left (by decide : 1 ≤ 65) _) hu) I g rx fun s' I' => ⟨.bl (!o.isSome), H, I', rfl, q⟩
theorem inSeq_ok {neg : Bool} {d1 d2 : D} {x y : V} {Q : VK} (rh : RelH (cf X ca) m h H) (r1 : RelD X.K m h.length H d1 x) (r2 : RelD X.K m h.length H d2 y) (p : PostG X ca W σ (RD X) h.length m H (inSeq neg d1 d2 h) Q) : rInS X.K neg x y H Q := by
  unfold inSeq at p
  cases e1 : toP h dK d1 with
  | none => rw [e1] at p; exact p.elim
  | some p1 =>
    rw [e1] at p
    obtain ⟨a1, b1⟩ := toP_ok' rh e1 r1
    have fin : ∀ ds : List PyData, (toP h (dK + 1) d2 = some (.list ds) ∨ toP h (dK + 1) d2 = some (.tuple ds)) → PostG X ca W σ (RD X) h.length m H (.ok (.bl (if neg then !ds.any fun z => PyData.eqv z p1 else ds.any fun z => PyData.eqv z p1)) h) Q → rInS X.K neg x y H Q := fun ds e2 p => by
      refine ⟨p1, ds, a1, ?_, b1, ?_, PostG.ret (R := RD X) (d := .bl (if neg then !ds.any fun z => PyData.eqv z p1 else ds.any fun z => PyData.eqv z p1)) rh rfl p⟩
      · rcases e2 with e2 | e2
        · exact .inl (toP_ok rh _ _ _ _ e2 r2).1
        · exact .inr (toP_ok rh _ _ _ _ e2 r2).1
      · unfold SeqAt.shaped
        rcases e2 with e2 | e2
        · obtain ⟨_, b, c⟩ := toP_ok rh _ _ _ _ e2 r2
          rw [b, decide_eq_true (Nat.le_trans c (by decide : dK + 1 ≤ 64))]
          rfl
        · obtain ⟨_, b, c⟩ := toP_ok rh _ _ _ _ e2 r2
          have b' : (PyData.list ds).canLay0 = true := b
          have c' : (PyData.list ds).depth ≤ dK + 1 := c
          rw [b', decide_eq_true (Nat.le_trans c' (by decide : dK + 1 ≤ 64))]
          rfl
    cases e2 : toP h (dK + 1) d2 with
    | none => rw [e2] at p; exact p.elim
    | some p2 =>
      rw [e2] at p
      cases p2 with
      | list ds => exact fin ds (.inl e2) p
      | tuple ds => exact fin ds (.inr e2) p
      | _ => exact p.elim
theorem str_one {c : Str} {k : Nat} (e : c.cps.toList = [k]) : c = ⟨#[k]⟩ := by
  obtain ⟨a⟩ := c
  have e2 : a.toList = [k] := e
  have : a = #[k] := by
    apply Array.toList_inj.mp
    exact e2
  rw [this]
theorem oIn_ok {neg : Bool} {d1 d2 : D} {x y : V} {Q : VK} (rh : RelH (cf X ca) m h H) (r1 : RelD X.K m h.length H d1 x) (r2 : RelD X.K m h.length H d2 y) (p : PostG X ca W σ (RD X) h.length m H (oIn neg d1 d2 h) Q) : rInA X.K neg x y H Q := by
  cases d2 with
  | str z =>
    cases d1 with
    | str c =>
      have p' : PostG X ca W σ (RD X) h.length m H ((match c.cps.toList with
        | [k] => ret (.bl (if neg then !decide (k ∈ z.cps.toList) else decide (k ∈ z.cps.toList)))
        | _ => bad : M D) h) Q := p
      cases e : c.cps.toList with
      | nil => rw [e] at p'; exact p'.elim
      | cons k t =>
        cases t with
        | cons _ _ => rw [e] at p'; exact p'.elim
        | nil =>
          rw [e] at p'
          refine .inl ⟨k, z, ?_, r2, PostG.ret (R := RD X) (d := .bl (if neg then !decide (k ∈ z.cps.toList) else decide (k ∈ z.cps.toList))) rh rfl p'⟩
          have r1' : x = .str c := r1
          rw [r1', str_one e]
    | _ => exact p.elim
  | ref i =>
    have key : ∀ {r : Res D}, oIn neg d1 (.ref i) h = r → (r = inDic neg i d1 h ∨ r = inSeq neg d1 (.ref i) h) := fun {r} e => by
      have e' : (match h[i]? with
        | some (.dic _) => inDic neg i d1 h
        | _ => inSeq neg d1 (.ref i) h) = r := by cases d1 <;> exact e
      split at e'
      · exact .inl e'.symm
      · exact .inr e'.symm
    rcases key rfl with e | e
    · rw [e] at p
      unfold inDic at p
      cases e1 : dicAt h i with
      | none => rw [e1] at p; exact p.elim
      | some ps =>
        rw [e1] at p
        cases e2 : keyOf d1 with
        | none => rw [e2] at p; exact p.elim
        | some k =>
          rw [e2] at p
          obtain ⟨xs, ex, rk⟩ := dicAt_of rh e1
          refine .inr (.inr ⟨m i, valV xs k, r2.2, ?_, ?_⟩)
          · rw [keyOf_rel e2 r1]
            exact DGet.k ex
          · have e3 : (valV xs k).isSome = (lookK k ps).isSome := by
              rcases rk.val k with ⟨d, v, a, b, _⟩ | ⟨a, b⟩ <;> rw [a, b] <;> rfl
            rw [e3]
            exact PostG.ret (R := RD X) (d := .bl (if neg then !(lookK k ps).isSome else (lookK k ps).isSome)) rh rfl p
    · rw [e] at p
      exact .inr (.inl (inSeq_ok rh r1 r2 p))
  | tup _ => exact .inr (.inl (inSeq_ok rh r1 r2 (by cases d1 <;> exact p)))
  | frl _ => exact .inr (.inl (inSeq_ok rh r1 r2 (by cases d1 <;> exact p)))
  | non => exact .inr (.inl (inSeq_ok rh r1 r2 (by cases d1 <;> exact p)))
  | bl _ => exact .inr (.inl (inSeq_ok rh r1 r2 (by cases d1 <;> exact p)))
  | int _ => exact .inr (.inl (inSeq_ok rh r1 r2 (by cases d1 <;> exact p)))
  | exc _ _ _ => exact r2.elim
theorem e_in (hu : X.A.units + 65 < cLine) : OpE X ca W (compareOp .In) (oIn false) := ⟨_, op_inA hu, fun σ m h H d1 d2 x y Q rh r1 r2 p => oIn_ok rh r1 r2 p⟩
theorem e_notin (hu : X.A.units + 65 < cLine) : OpE X ca W (compareOp .NotIn) (oIn true) := ⟨_, op_notInA hu, fun σ m h H d1 d2 x y Q rh r1 r2 p => oIn_ok rh r1 r2 p⟩

/-! ### + -/
def oAdd : D → D → M D := fun x y => match x, y with
  | .int i, .int j => ret (.int (i + j))
  | .str i, .str j => if i.length + j.length ≤ LL then ret (.str (i ++ j)) else bad
  | .ref i, .ref j => fun h => match lstAt h i, lstAt h j with
    | some xs, some ys => if xs.length + ys.length ≤ LL then .ok (.ref h.length) (h ++ [.lst (xs ++ ys)]) else .bad
    | _, _ => .bad
  | .tup xs, .tup ys => if xs.length + ys.length ≤ LL ∧ xs ≠ [] ∧ ys ≠ [] then ret (.tup (xs ++ ys)) else bad
  | _, _ => bad
theorem e_add : OpE X ca W (binaryOp .Add) oAdd := by
  refine ⟨_, op_add.or (op_add_str.or (op_cat.or op_catT)), fun σ m h H d1 d2 x y Q rh r1 r2 p => ?_⟩
  cases d1 with
  | int i =>
    cases d2 with
    | int j => exact .inl ⟨i, j, r1, r2, PostG.ret (R := RD X) (d := .int (i + j)) rh rfl p⟩
    | _ => exact p.elim
  | str i =>
    cases d2 with
    | str j =>
      have p' : PostG X ca W σ (RD X) h.length m H ((if i.length + j.length ≤ LL then ret (.str (i ++ j)) else bad : M D) h) Q := p
      by_cases c : i.length + j.length ≤ LL
      · rw [if_pos c] at p'
        exact .inr (.inl ⟨i, j, r1, r2, le_line c, PostG.ret (R := RD X) (d := .str (i ++ j)) rh rfl p'⟩)
      · rw [if_neg c] at p'
        exact p'.elim
    | _ => exact p.elim
  | ref i =>
    cases d2 with
    | ref j =>
      have p' : PostG X ca W σ (RD X) h.length m H (match lstAt h i, lstAt h j with
        | some xs, some ys => if xs.length + ys.length ≤ LL then .ok (.ref h.length) (h ++ [.lst (xs ++ ys)]) else .bad
        | _, _ => .bad) Q := p
      cases e1 : lstAt h i with
      | none => rw [e1] at p'; exact p'.elim
      | some xs =>
        cases e2 : lstAt h j with
        | none => rw [e1, e2] at p'; exact p'.elim
        | some ys =>
          rw [e1, e2] at p'
          obtain ⟨vx, ex, rx⟩ := lstAt_of rh e1
          obtain ⟨vy, ey, ry⟩ := lstAt_of rh e2
          by_cases c : xs.length + ys.length ≤ LL
          · have p2 : PostG X ca W σ (RD X) h.length m H (.ok (.ref h.length) (h ++ [.lst (xs ++ ys)])) Q := by
              rw [← if_pos (c := xs.length + ys.length ≤ LL) (t := Res.ok (D.ref h.length) (h ++ [O.lst (xs ++ ys)])) (e := Res.bad) c]
              exact p'
            refine .inr (.inr (.inl ⟨m i, m j, vx, vy, r1.2, r2.2, ex, ey, le_line (by rw [← rx.length, ← ry.length]; exact c), fun q nq => ?_⟩))
            obtain ⟨m2, to2, e3⟩ := To.push (c := cf X ca) rh (p := q) (u := .lst (vx ++ vy)) (o := .lst (xs ++ ys)) nq fun m' H' x' eH em => ⟨vx ++ vy, by rw [eH]; exact upd_same, (rx.ext x' rh (Nat.le_succ _)).append (ry.ext x' rh (Nat.le_succ _))⟩
            exact p2 m2 _ _ to2 ⟨by rw [List.length_append]; exact Nat.lt_succ_self _, by rw [e3]⟩
          · have p2 : PostG X ca W σ (RD X) h.length m H (Res.bad) Q := by
              rw [← if_neg (c := xs.length + ys.length ≤ LL) (t := Res.ok (D.ref h.length) (h ++ [O.lst (xs ++ ys)])) (e := Res.bad) c]
              exact p'
            exact p2.elim
    | _ => exact p.elim
  | tup xs =>
    cases d2 with
    | tup ys =>
      have p' : PostG X ca W σ (RD X) h.length m H ((if xs.length + ys.length ≤ LL ∧ xs ≠ [] ∧ ys ≠ [] then ret (.tup (xs ++ ys)) else bad : M D) h) Q := p
      by_cases c : xs.length + ys.length ≤ LL ∧ xs ≠ [] ∧ ys ≠ []
      · rw [if_pos c] at p'
        obtain ⟨a, vx, e1, s1, t1⟩ := r1
        obtain ⟨b, vy, e2, s2, t2⟩ := r2
        refine .inr (.inr (.inr ⟨a, b, vx, vy, e1, e2, s1, s2, fun z => c.2.1 ?_, le_line (by rw [← t1.length, ← t2.length]; exact c.1), fun z => absurd ?_ c.2.2, fun z q nq => ?_⟩))
        · have := t1.length
          rw [z] at this
          exact List.eq_nil_of_length_eq_zero this
        · have := t2.length
          rw [z] at this
          exact List.eq_nil_of_length_eq_zero this
        · have to2 := To.new (c := cf X ca) rh (u := .tup (vx ++ vy)) nq
          exact p' m _ _ to2 ⟨q, _, rfl, .of upd_same, (to2.ds rh t1).append (to2.ds rh t2)⟩
      · rw [if_neg c] at p'
        exact p'.elim
    | _ => exact p.elim
  | _ => exact p.elim
end
end Ev
set_option Elab.async false
set_option linter.all false
set_option maxRecDepth 100000
set_option maxHeartbeats 2000000
namespace Ev
open PySem PySem.Spec L2
open PyProof.Rows hiding St

section
variable {X : Cx} {ca : Str → Addr} {m m' : Nat → Addr} {h h' : Hh} {H H' : Hp} {sd : Sl} {σ : St} {W : WX} {pos : Pos}

/-! ### tests: and, or, not -/
def tAnd' (f g : Sl → M Bool) : Sl → M Bool := fun sd => bnd (f sd) fun b => if b then g sd else ret false
def tOr' (f g : Sl → M Bool) : Sl → M Bool := fun sd => bnd (f sd) fun b => if b then ret true else g sd
def tNot' (f : Sl → M Bool) : Sl → M Bool := fun sd => bnd (f sd) fun b => ret (!b)
theorem wv_and1 {a : Expr} {f : Sl → M Bool} (ha : TV X ca W a f) : WV X ca W (.BoolOp .And [a] pos) f := pw_and1 ha
theorem wv_or1 {a : Expr} {f : Sl → M Bool} (ha : TV X ca W a f) : WV X ca W (.BoolOp .Or [a] pos) f := pw_or1 ha
theorem wv_and {a b : Expr} {rest : List Expr} {f g : Sl → M Bool} (ha : TV X ca W a f) (hb : WV X ca W (.BoolOp .And (b :: rest) pos) g) : WV X ca W (.BoolOp .And (a :: b :: rest) pos) (tAnd' f g) := by
  refine PW.imp (pw_and ha hb) fun σ H Q ⟨m, sd, h, c, p⟩ => ?_
  obtain ⟨m0, sd0, h0, c0, p0⟩ := tG_bnd (R := RB) (f := f) (R2 := RB) c p
  refine ⟨m0, sd0, h0, c0, p0.imp fun x H1 ⟨d, m1, h1, a1, c1, r1, p1⟩ => ?_⟩
  have r1' : x = d := r1
  subst r1'
  cases x with
  | true => exact ⟨m1, sd, h1, c1, p1⟩
  | false => exact p1 m1 H1 false (.refl c1.rel) rfl
theorem wv_or {a b : Expr} {rest : List Expr} {f g : Sl → M Bool} (ha : TV X ca W a f) (hb : WV X ca W (.BoolOp .Or (b :: rest) pos) g) : WV X ca W (.BoolOp .Or (a :: b :: rest) pos) (tOr' f g) := by
  refine PW.imp (pw_or ha hb) fun σ H Q ⟨m, sd, h, c, p⟩ => ?_
  obtain ⟨m0, sd0, h0, c0, p0⟩ := tG_bnd (R := RB) (f := f) (R2 := RB) c p
  refine ⟨m0, sd0, h0, c0, p0.imp fun x H1 ⟨d, m1, h1, a1, c1, r1, p1⟩ => ?_⟩
  have r1' : x = d := r1
  subst r1'
  cases x with
  | false => exact ⟨m1, sd, h1, c1, p1⟩
  | true => exact p1 m1 H1 true (.refl c1.rel) rfl
theorem tv_w {e : Expr} {f : Sl → M Bool} (h : WV X ca W e f) : TV X ca W e f := PW.pt h
theorem tv_not {a : Expr} {f : Sl → M Bool} (ha : TV X ca W a f) : TV X ca W (.UnaryOp .Not a pos) (tNot' f) := by
  refine PT.imp (pt_not ha) fun σ H Q ⟨m, sd, h, c, p⟩ => ?_
  obtain ⟨m0, sd0, h0, c0, p0⟩ := tG_bnd (R := RB) (f := f) (R2 := RB) c p
  refine ⟨m0, sd0, h0, c0, p0.imp fun x H1 ⟨d, m1, h1, a1, c1, r1, p1⟩ => ?_⟩
  have r1' : x = d := r1
  subst r1'
  exact p1 m1 H1 (!x) (.refl c1.rel) rfl
/-! ### .. as values -/
def isB (d : D) (k : Bool → M D) : M D := match d with
  | .bl b => k b
  | _ => bad
def vAnd (f g : Sl → M D) : Sl → M D := fun sd => bnd (f sd) fun d => isB d fun b => if b then g sd else ret (.bl false)
def vOr (f g : Sl → M D) : Sl → M D := fun sd => bnd (f sd) fun d => isB d fun b => if b then ret (.bl true) else g sd
def vNot (f : Sl → M D) : Sl → M D := fun sd => bnd (f sd) fun d => isB d fun b => ret (.bl (!b))
theorem isB_of {K : PySem.W.Frag} {n : Nat} {d : D} {x : V} {k : Bool → M D} {Q : VK} (r : RelD K m n H d x) (p : PostG X ca W σ (RD X) n m H (isB d k h) Q) : ∃ b, d = .bl b ∧ x = .bl b ∧ PostG X ca W σ (RD X) n m H (k b h) Q := by
  cases d with
  | bl b => exact ⟨b, rfl, r, p⟩
  | _ => exact p.elim
theorem ev_one {op : BoolOp} {a : Expr} {f : Sl → M D} (ha : EV X ca W a f) : EV X ca W (.BoolOp op [a] pos) f := pe_one ha
theorem ev_and {a b : Expr} {rest : List Expr} {f g : Sl → M D} (ha : EV X ca W a f) (hb : EV X ca W (.BoolOp .And (b :: rest) pos) g) : EV X ca W (.BoolOp .And (a :: b :: rest) pos) (vAnd f g) := by
  refine PE.imp (pe_and ha hb) fun σ H Q ⟨m, sd, h, c, p⟩ => ?_
  obtain ⟨m0, sd0, h0, c0, p0⟩ := tG_bnd (R := RD X) (f := f) (R2 := RD X) c p
  refine ⟨m0, sd0, h0, c0, p0.imp fun x H1 ⟨d, m1, h1, a1, c1, r1, p1⟩ => ?_⟩
  obtain ⟨b, rfl, rfl, p2⟩ := isB_of r1 p1
  refine ⟨b, rfl, ?_⟩
  cases b with
  | true => exact ⟨m1, sd, h1, c1, p2⟩
  | false => exact PostG.ret (R := RD X) (d := .bl false) c1.rel rfl p2
theorem ev_or {a b : Expr} {rest : List Expr} {f g : Sl → M D} (ha : EV X ca W a f) (hb : EV X ca W (.BoolOp .Or (b :: rest) pos) g) : EV X ca W (.BoolOp .Or (a :: b :: rest) pos) (vOr f g) := by
  refine PE.imp (pe_or ha hb) fun σ H Q ⟨m, sd, h, c, p⟩ => ?_
  obtain ⟨m0, sd0, h0, c0, p0⟩ := tG_bnd (R := RD X) (f := f) (R2 := RD X) c p
  refine ⟨m0, sd0, h0, c0, p0.imp fun x H1 ⟨d, m1, h1, a1, c1, r1, p1⟩ => ?_⟩
  obtain ⟨b, rfl, rfl, p2⟩ := isB_of r1 p1
  refine ⟨b, rfl, ?_⟩
  cases b with
  | false => exact ⟨m1, sd, h1, c1, p2⟩
  | true => exact PostG.ret (R := RD X) (d := .bl true) c1.rel rfl p2
theorem ev_not {a : Expr} {f : Sl → M D} (ha : EV X ca W a f) : EV X ca W (.UnaryOp .Not a pos) (vNot f) := by
  refine PE.imp (pe_not ha) fun σ H Q ⟨m, sd, h, c, p⟩ => ?_
  obtain ⟨m0, sd0, h0, c0, p0⟩ := tG_bnd (R := RD X) (f := f) (R2 := RD X) c p
  refine ⟨m0, sd0, h0, c0, p0.imp fun x H1 ⟨d, m1, h1, a1, c1, r1, p1⟩ => ?_⟩
  obtain ⟨b, rfl, rfl, p2⟩ := isB_of r1 p1
  exact ⟨b, rfl, PostG.ret (R := RD X) (d := .bl (!b)) c1.rel rfl p2⟩
def vIf (f : Sl → M Bool) (g k : Sl → M D) : Sl → M D := fun sd => bnd (f sd) fun b => if b then g sd else k sd
theorem ev_if {t a b : Expr} {f : Sl → M Bool} {g k : Sl → M D} (ht : TV X ca W t f) (ha : EV X ca W a g) (hb : EV X ca W b k) : EV X ca W (.IfExp t a b pos) (vIf f g k) := by
  refine PE.imp (pe_ifExp ht ha hb) fun σ H Q ⟨m, sd, h, c, p⟩ => ?_
  obtain ⟨m0, sd0, h0, c0, p0⟩ := tG_bnd (R := RB) (f := f) (R2 := RD X) c p
  refine ⟨m0, sd0, h0, c0, p0.imp fun x H1 ⟨d, m1, h1, a1, c1, r1, p1⟩ => ?_⟩
  have r1' : x = d := r1
  subst r1'
  cases x with
  | true => exact ⟨m1, sd, h1, c1, p1⟩
  | false => exact ⟨m1, sd, h1, c1, p1⟩
/-- a < b < c -/
def vChain (g1 g2 : D → D → M D) (fa fb fc : Sl → M D) : Sl → M D := fun sd => bnd (fa sd) fun x => bnd (fb sd) fun y => bnd (g1 x y) fun z => isB z fun b => if b then bnd (fc sd) fun w => g2 y w else ret (.bl false)
def neg (f : Sl → M D) : Sl → M D := fun sd => bnd (f sd) fun d => match d with
  | .int i => ret (.int (-i))
  | _ => bad
theorem ev_neg {a : Expr} {f : Sl → M D} (ha : EV X ca W a f) : EV X ca W (.UnaryOp .USub a pos) (neg f) := by
  refine PE.imp (pe_un un_neg ha) fun σ H Q ⟨m, sd, h, c, p⟩ => ?_
  obtain ⟨m0, sd0, h0, c0, p0⟩ := tG_bnd (R := RD X) (f := f) (R2 := RD X) c p
  refine ⟨m0, sd0, h0, c0, p0.imp fun x H1 ⟨d, m1, h1, a1, c1, r1, p1⟩ => ?_⟩
  cases d with
  | int i => exact ⟨i, r1, PostG.ret (R := RD X) (d := .int (-i)) c1.rel rfl p1⟩
  | _ => exact p1.elim

/-! ### argument lists, displays -/
def aNil : Sl → M (List D) := fun _ => ret []
def aCons (f : Sl → M D) (g : Sl → M (List D)) : Sl → M (List D) := fun sd => bnd (f sd) fun d => bnd (g sd) fun ds => ret (d :: ds)
theorem av_nil : AV X ca W [] aNil := PA.imp pa_nil fun σ H Q ⟨m, sd, h, c, p⟩ => p m H [] (.refl c.rel) rfl
theorem av_cons {e : Expr} {es : List Expr} {f : Sl → M D} {g : Sl → M (List D)} (ha : EV X ca W e f) (hr : AV X ca W es g) (hs : starEach (e :: es) X.env = (false, eval e X.env) :: starEach es X.env := by rfl) : AV X ca W (e :: es) (aCons f g) := by
  refine PA.imp (pa_cons ha hr hs) fun σ H Q ⟨m, sd, h, c, p⟩ => ?_
  obtain ⟨m0, sd0, h0, c0, p0⟩ := tG_bnd (R := RD X) (f := f) (R2 := RDs X) c p
  refine ⟨m0, sd0, h0, c0, p0.imp fun x H1 ⟨d, m1, h1, a1, c1, r1, p1⟩ => ?_⟩
  obtain ⟨m0, sd0, h0, c0, p0⟩ := tG_bnd (R := RDs X) (f := g) (R2 := RDs X) c1 p1
  refine ⟨m0, sd0, h0, c0, p0.imp fun xs H2 ⟨ds, m2, h2, a2, c2, r2, p2⟩ => ?_⟩
  exact p2 m2 H2 (x :: xs) (.refl c2.rel) ⟨x, xs, rfl, a2.d c1.rel r1, r2⟩
def vTup (g : Sl → M (List D)) : Sl → M D := fun sd => bnd (g sd) fun ds => if ds.length ≤ LL then ret (.tup ds) else bad
def newL (ds : List D) : M D := fun h => if ds.length ≤ LL then .ok (.ref h.length) (h ++ [.lst ds]) else .bad
def vLst (g : Sl → M (List D)) : Sl → M D := fun sd => bnd (g sd) newL
/-- a new tuple has come -/
theorem tup_in {ds : List D} {xs : List V} {Q : VK} (rh : RelH (cf X ca) m h H) (r : RelDs X.K m h.length H ds xs) {p : Addr} (np : H p = none) (q : PostG X ca W σ (RD X) h.length m H (.ok (.tup ds) h) Q) : Q (.ref p) (upd H p (.tup xs)) := by
  have to := To.new (c := cf X ca) rh (u := .tup xs) np
  exact q m _ _ to ⟨p, xs, rfl, .of upd_same, to.ds rh r⟩
theorem lst_to {ds : List D} {xs : List V} (rh : RelH (cf X ca) m h H) (r : RelDs X.K m h.length H ds xs) {p : Addr} (np : H p = none) : ∃ m', To (cf X ca) h.length m H m' (h ++ [.lst ds]) (upd H p (.lst xs)) ∧ m' h.length = p :=
  To.push (c := cf X ca) rh np fun m' H' x eH em => ⟨xs, by rw [eH]; exact upd_same, r.ext x rh (Nat.le_succ _)⟩
theorem lst_in {ds : List D} {xs : List V} {Q : VK} (rh : RelH (cf X ca) m h H) (r : RelDs X.K m h.length H ds xs) {p : Addr} (np : H p = none) (q : PostG X ca W σ (RD X) h.length m H (.ok (.ref h.length) (h ++ [.lst ds])) Q) : Q (.ref p) (upd H p (.lst xs)) := by
  obtain ⟨m', to, e⟩ := lst_to (ca := ca) rh r np
  exact q m' _ _ to ⟨by rw [List.length_append]; exact Nat.lt_succ_self _, by rw [e]⟩
theorem newL_ok {ds : List D} {xs : List V} {Q : VK} (rh : RelH (cf X ca) m h H) (r : RelDs X.K m h.length H ds xs) (q : PostG X ca W σ (RD X) h.length m H (newL ds h) Q) : xs.length ≤ sizeLine ∧ ∀ p, H p = none → Q (.ref p) (upd H p (.lst xs)) := by
  unfold newL at q
  by_cases c : ds.length ≤ LL
  · rw [if_pos c] at q
    exact ⟨le_line (by rw [← r.length]; exact c), fun p np => lst_in rh r np q⟩
  · rw [if_neg c] at q
    exact q.elim
theorem ev_tup {es : List Expr} {k} {g : Sl → M (List D)} (ha : AV X ca W es g) : EV X ca W (.Tuple es k pos) (vTup g) := by
  refine PE.imp (pe_tup ha) fun σ H Q ⟨m, sd, h, c, p⟩ => ?_
  obtain ⟨m0, sd0, h0, c0, p0⟩ := tG_bnd (R := RDs X) (f := g) (R2 := RD X) c p
  refine ⟨m0, sd0, h0, c0, p0.imp fun xs H1 ⟨ds, m1, h1, a1, c1, r1, p1⟩ => ?_⟩
  have p' : PostG X ca W σ (RD X) h1.length m1 H1 ((if ds.length ≤ LL then ret (.tup ds) else bad : M D) h1) Q := p1
  by_cases z : ds.length ≤ LL
  · rw [if_pos z] at p'
    exact ⟨le_line (by rw [← r1.length]; exact z), fun q nq => tup_in c1.rel r1 nq p'⟩
  · rw [if_neg z] at p'
    exact p'.elim
theorem ev_lst {es : List Expr} {g : Sl → M (List D)} (ha : AV X ca W es g) : EV X ca W (.List es pos) (vLst g) := by
  refine PE.imp (pe_lst ha) fun σ H Q ⟨m, sd, h, c, p⟩ => ?_
  obtain ⟨m0, sd0, h0, c0, p0⟩ := tG_bnd (R := RDs X) (f := g) (R2 := RD X) c p
  exact ⟨m0, sd0, h0, c0, p0.imp fun xs H1 ⟨ds, m1, h1, a1, c1, r1, p1⟩ => newL_ok c1.rel r1 p1⟩

/-! ### subscripts -/
def atD {α : Type} (xs : List α) (i : Int) : Option α := atI xs i
theorem RelDs.at_ {K : PySem.W.Frag} {n : Nat} {ds : List D} {xs : List V} {i : Int} {d : D} (r : RelDs K m n H ds xs) (e : atI ds i = some d) : ∃ x, atI xs i = some x ∧ RelD K m n H d x := by
  unfold atI at e ⊢
  rw [← r.length]
  cases q : ixN ds.length i with
  | none => rw [q] at e; cases e
  | some j =>
    rw [q] at e
    exact r.get e
def ixD : D → D → M D := fun x y h => match y with
  | .int i => match x with
    | .tup ds => match atI ds i with
      | some d => .ok d h
      | none => .bad
    | .frl ds => match atI ds i with
      | some d => .ok d h
      | none => .bad
    | .str z => if z.length ≤ LL then match atI z.cps.toList i with
      | some c => .ok (.str ⟨#[c]⟩) h
      | none => .bad else .bad
    | .ref a => match lstAt h a with
      | some ds => match atI ds i with
        | some d => .ok d h
        | none => .bad
      | none => .bad
    | _ => .bad
  | _ => .bad
theorem ixD_ok {d1 d2 : D} {x y : V} {Q : VK} (rh : RelH (cf X ca) m h H) (r1 : RelD X.K m h.length H d1 x) (r2 : RelD X.K m h.length H d2 y) (p : PostG X ca W σ (RD X) h.length m H (ixD d1 d2 h) Q) : rIx X.K x y H Q := by
  cases d2 with
  | int i =>
    have e2 : y = .int i := r2
    cases d1 with
    | tup ds =>
      obtain ⟨a, xs, e1, s, t⟩ := r1
      have p' : PostG X ca W σ (RD X) h.length m H (match atI ds i with
        | some d => .ok d h
        | none => .bad) Q := p
      cases q : atI ds i with
      | none => rw [q] at p'; exact p'.elim
      | some d =>
        rw [q] at p'
        obtain ⟨v, ev, rv⟩ := t.at_ q
        exact .inr (.inl ⟨a, xs, i, v, e1, e2, s, ev, PostG.ret (R := RD X) rh rv p'⟩)
    | frl ds =>
      obtain ⟨a, xs, e1, s, t⟩ := r1
      have p' : PostG X ca W σ (RD X) h.length m H (match atI ds i with
        | some d => .ok d h
        | none => .bad) Q := p
      cases q : atI ds i with
      | none => rw [q] at p'; exact p'.elim
      | some d =>
        rw [q] at p'
        obtain ⟨v, ev, rv⟩ := t.at_ q
        exact .inl ⟨a, xs, i, v, e1, e2, s.sq, ev, PostG.ret (R := RD X) rh rv p'⟩
    | str z =>
      have e1 : x = .str z := r1
      have p' : PostG X ca W σ (RD X) h.length m H (if z.length ≤ LL then match atI z.cps.toList i with
        | some c => .ok (.str ⟨#[c]⟩) h
        | none => .bad else .bad) Q := p
      by_cases hz : z.length ≤ LL
      · rw [if_pos hz] at p'
        cases q : atI z.cps.toList i with
        | none => rw [q] at p'; exact p'.elim
        | some d =>
          rw [q] at p'
          exact .inr (.inr ⟨z, i, d, e1, e2, le_line hz, q, PostG.ret (R := RD X) (d := .str ⟨#[d]⟩) rh rfl p'⟩)
      · rw [if_neg hz] at p'
        exact p'.elim
    | ref a =>
      have p' : PostG X ca W σ (RD X) h.length m H (match lstAt h a with
        | some ds => match atI ds i with
          | some d => .ok d h
          | none => .bad
        | none => .bad) Q := p
      cases z : lstAt h a with
      | none => rw [z] at p'; exact p'.elim
      | some ds =>
        rw [z] at p'
        obtain ⟨xs, ex, t⟩ := lstAt_of rh z
        have p2 : PostG X ca W σ (RD X) h.length m H (match atI ds i with
          | some d => .ok d h
          | none => .bad) Q := p'
        cases q : atI ds i with
        | none => rw [q] at p2; exact p2.elim
        | some d =>
          rw [q] at p2
          obtain ⟨v, ev, rv⟩ := t.at_ q
          exact .inl ⟨m a, xs, i, v, r1.2, e2, .of ex, ev, PostG.ret (R := RD X) rh rv p2⟩
    | _ => exact p.elim
  | _ => exact p.elim
theorem ev_ix {a b : Expr} {fa fb : Sl → M D} (ha : EV X ca W a fa) (hb : EV X ca W b fb) (hs : PlainIx b := by exact fun _ _ => rfl) : EV X ca W (.Subscript a b pos) (bin2 ixD fa fb) :=
  PE.imp (pe_ix ix_seq ha hb hs) fun σ H Q t => t_bin (g := ixD) (fun σ m h H d1 d2 x y Q rh r1 r2 p => ixD_ok rh r1 r2 p) t
/-- d[k] -/
def getDic : D → D → M D := fun x y h => match x with
  | .ref a => match dicAt h a with
    | some ps => match keyOf y with
      | some k => match lookK k ps with
        | some d => .ok d h
        | none => .bad
      | none => .bad
    | none => .bad
  | _ => .bad
theorem ev_dget {a b : Expr} {fa fb : Sl → M D} (hu : X.A.units + 1 < cLine) (ha : EV X ca W a fa) (hb : EV X ca W b fb) (hs : NoSl b := by exact fun _ _ => rfl) : EV X ca W (.Subscript a b pos) (bin2 getDic fa fb) := by
  refine PE.imp (pe_dget hu ha hb hs) fun σ H Q t => ?_
  refine t_bin (g := getDic) (r := fun x y H Q => ∃ a v, x = .ref a ∧ DGet H a y (some v) ∧ Q v H) (fun σ m h H d1 d2 x y Q rh r1 r2 p => ?_) t
  cases d1 with
  | ref i =>
    have p1 : PostG X ca W σ (RD X) h.length m H (match dicAt h i with
      | some ps => match keyOf d2 with
        | some k => match lookK k ps with
          | some d => .ok d h
          | none => .bad
        | none => .bad
      | none => .bad) Q := p
    cases e1 : dicAt h i with
    | none => rw [e1] at p1; exact p1.elim
    | some ps =>
      rw [e1] at p1
      cases e2 : keyOf d2 with
      | none => rw [e2] at p1; exact p1.elim
      | some k =>
        rw [e2] at p1
        obtain ⟨xs, ex, rk⟩ := dicAt_of rh e1
        have p1 : PostG X ca W σ (RD X) h.length m H (match lookK k ps with
          | some d => .ok d h
          | none => .bad) Q := p1
        rcases rk.val k with ⟨d, v, a, b, rv⟩ | ⟨a, b⟩
        · rw [a] at p1
          refine ⟨m i, v, r1.2, ?_, PostG.ret (R := RD X) rh rv p1⟩
          rw [keyOf_rel e2 r2, ← b]
          exact DGet.k ex
        · rw [a] at p1
          exact p1.elim
  | _ => exact p.elim
/-! ### slices -/
def oNone : Sl → M (Option Int) := fun _ => ret none
def oSome (f : Sl → M D) : Sl → M (Option Int) := fun sd => bnd (f sd) fun d => match d with
  | .int i => ret (some i)
  | _ => bad
theorem ov_none : OV X ca W none oNone := PO.imp po_none fun σ H Q ⟨m, sd, h, c, p⟩ => p m H none (.refl c.rel) rfl
theorem ov_some {e : Expr} {f : Sl → M D} (he : EV X ca W e f) : OV X ca W (some e) (oSome f) := by
  refine PO.imp (po_some he) fun σ H Q ⟨m, sd, h, c, p⟩ => ?_
  obtain ⟨m0, sd0, h0, c0, p0⟩ := tG_bnd (R := RD X) (f := f) (R2 := ROI) c p
  refine ⟨m0, sd0, h0, c0, p0.imp fun x H1 ⟨d, m1, h1, a1, c1, r1, p1⟩ => ?_⟩
  cases d with
  | int i => exact ⟨i, r1, p1 m1 H1 (some i) (.refl c1.rel) rfl⟩
  | _ => exact p1.elim
def cutD {α : Type} (xs : List α) (lo hi : Option Int) : List α := (xs.drop (HT.sIx xs.length 0 lo)).take (HT.sIx xs.length xs.length hi - HT.sIx xs.length 0 lo)
theorem cut_rel {K : PySem.W.Frag} {n : Nat} {ds : List D} {xs : List V} {lo hi : Option Int} (r : RelDs K m n H ds xs) : RelDs K m n H (cutD ds lo hi) (cutV xs lo hi) := by
  unfold cutD cutV
  rw [← r.length]
  exact (r.drop _).take _
def slD (x : D) (lo hi : Option Int) : M D := fun h => match x with
  | .ref a => match lstAt h a with
    | some ds => .ok (.ref h.length) (h ++ [.lst (cutD ds lo hi)])
    | none => .bad
  | .str z => if z.length ≤ LL then .ok (.str (cutS z lo hi)) h else .bad
  | _ => .bad
def vSl (f : Sl → M D) (l u : Sl → M (Option Int)) : Sl → M D := fun sd => bnd (f sd) fun x => bnd (l sd) fun lo => bnd (u sd) fun hi => slD x lo hi
theorem slD_ok {d : D} {x : V} {lo hi : Option Int} {Q : VK} (rh : RelH (cf X ca) m h H) (r1 : RelD X.K m h.length H d x) (p : PostG X ca W σ (RD X) h.length m H (slD d lo hi h) Q) : rSlL X.K x lo hi H Q ∨ rSlS x lo hi H Q := by
  cases d with
  | ref a =>
    have p' : PostG X ca W σ (RD X) h.length m H (match lstAt h a with
      | some ds => .ok (.ref h.length) (h ++ [.lst (cutD ds lo hi)])
      | none => .bad) Q := p
    cases z : lstAt h a with
    | none => rw [z] at p'; exact p'.elim
    | some ds =>
      rw [z] at p'
      obtain ⟨xs, ex, t⟩ := lstAt_of rh z
      exact .inl ⟨m a, xs, r1.2, .of ex, fun q nq => lst_in rh (cut_rel t) nq p'⟩
  | str z =>
    have e1 : x = .str z := r1
    have p' : PostG X ca W σ (RD X) h.length m H (if z.length ≤ LL then .ok (.str (cutS z lo hi)) h else .bad) Q := p
    by_cases hz : z.length ≤ LL
    · rw [if_pos hz] at p'
      exact .inr ⟨z, e1, le_line hz, PostG.ret (R := RD X) (d := .str (cutS z lo hi)) rh rfl p'⟩
    · rw [if_neg hz] at p'
      exact p'.elim
  | _ => exact p.elim
theorem ev_slice {e : Expr} {lo hi : Option Expr} {f : Sl → M D} {l u : Sl → M (Option Int)} {p2 : Pos} (he : EV X ca W e f) (hl : OV X ca W lo l) (hu : OV X ca W hi u) : EV X ca W (.Subscript e (.Slice lo hi none p2) pos) (vSl f l u) := by
  refine PE.imp (pe_slice (sl_list.or sl_str) he hl hu) fun σ H Q ⟨m, sd, h, c, p⟩ => ?_
  obtain ⟨m0, sd0, h0, c0, p0⟩ := tG_bnd (R := RD X) (f := f) (R2 := RD X) c p
  refine ⟨m0, sd0, h0, c0, p0.imp fun x H1 ⟨d, m1, h1, a1, c1, r1, p1⟩ => ?_⟩
  obtain ⟨m0, sd0, h0, c0, p0⟩ := tG_bnd (R := ROI) (f := l) (R2 := RD X) c1 p1
  refine ⟨m0, sd0, h0, c0, p0.imp fun lo' H2 ⟨lo, m2, h2, a2, c2, r2, p2⟩ => ?_⟩
  obtain ⟨m0, sd0, h0, c0, p0⟩ := tG_bnd (R := ROI) (f := u) (R2 := RD X) c2 p2
  refine ⟨m0, sd0, h0, c0, p0.imp fun hi' H3 ⟨hi, m3, h3, a3, c3, r3, p3⟩ => ?_⟩
  have e2 : lo' = lo := r2
  have e3 : hi' = hi := r3
  subst e2 e3
  exact slD_ok c3.rel (a3.d c2.rel (a2.d c1.rel r1)) p3
end
end Ev
set_option Elab.async false
set_option linter.all false
set_option maxRecDepth 100000
set_option maxHeartbeats 2000000
namespace Ev
open PySem PySem.Spec L2
open PyProof.Rows hiding St

section
variable {X : Cx} {ca : Str → Addr} {m m' : Nat → Addr} {h h' : Hh} {H H' : Hp} {sd : Sl} {σ : St} {W : WX} {pos : Pos}

/-! ### built-in functions by values -/
def CallE (X : Cx) (ca : Str → Addr) (W : WX) (f : Value) (g : List D → M D) : Prop :=
  ∃ r : List V → Hp → VK → Prop, CallR X f r ∧ ∀ (σ : St) (m : Nat → Addr) (h : Hh) (H : Hp) (ds : List D) (xs : List V) (Q : VK), RelH (cf X ca) m h H → RelDs X.K m h.length H ds xs → PostG X ca W σ (RD X) h.length m H (g ds h) Q → r xs H Q
def vCall (g : List D → M D) (f : Sl → M (List D)) : Sl → M D := fun sd => bnd (f sd) g
theorem ev_callB {f : Sl → M (List D)} {g : List D → M D} {id : String} {x : Str} {p : Pos} {e : Expr} {es : List Expr} (hc : CallE X ca W (.builtin id) g) (hg : Gl X x) (hm : X.mg x = none) (hv : bootBuiltins x = some (.builtin id)) (ha : AV X ca W (e :: es) f)
    (hn : x ≠ "__name__" := by decide) (hdb : (x == ("__debug__" : Str)) = false := by decide)
    (he : starEach (e :: es) X.env = (false, eval e X.env) :: starEach es X.env := by rfl) (hpl : (backTo pos (starEach es X.env)).any (·.1) = false := by rfl) : EV X ca W (.Call (.Name x p) (e :: es) [] pos) (vCall g f) := by
  obtain ⟨r, hr, hq⟩ := hc
  refine PE.imp (pe_callB hr hg hm hv ha hn hdb he hpl) fun σ H Q ⟨m, sd, h, c, p⟩ => ?_
  obtain ⟨m0, sd0, h0, c0, p0⟩ := tG_bnd (R := RDs X) (f := f) (R2 := RD X) c p
  exact ⟨m0, sd0, h0, c0, p0.imp fun xs H1 ⟨ds, m1, h1, a1, c1, r1, p1⟩ => hq σ m1 h1 H1 ds xs Q c1.rel r1 p1⟩
theorem ev_callTy {f : Sl → M (List D)} {g : List D → M D} {T : String} {x : Str} {p : Pos} {e : Expr} {es : List Expr} (hc : CallE X ca W (.type T) g) (hg : Gl X x) (hm : X.mg x = none) (hv : bootBuiltins x = some (.type T)) (ha : AV X ca W (e :: es) f)
    (hn : x ≠ "__name__" := by decide) (hdb : (x == ("__debug__" : Str)) = false := by decide)
    (he : starEach (e :: es) X.env = (false, eval e X.env) :: starEach es X.env := by rfl) (hpl : (backTo pos (starEach es X.env)).any (·.1) = false := by rfl) : EV X ca W (.Call (.Name x p) (e :: es) [] pos) (vCall g f) := by
  obtain ⟨r, hr, hq⟩ := hc
  refine PE.imp (pe_callTy hr hg hm hv ha hn hdb he hpl) fun σ H Q ⟨m, sd, h, c, p⟩ => ?_
  obtain ⟨m0, sd0, h0, c0, p0⟩ := tG_bnd (R := RDs X) (f := f) (R2 := RD X) c p
  exact ⟨m0, sd0, h0, c0, p0.imp fun xs H1 ⟨ds, m1, h1, a1, c1, r1, p1⟩ => hq σ m1 h1 H1 ds xs Q c1.rel r1 p1⟩
theorem RelDs.one_of {K : PySem.W.Frag} {n : Nat} {d : D} {xs : List V} (r : RelDs K m n H [d] xs) : ∃ x, xs = [x] ∧ RelD K m n H d x := by
  obtain ⟨x, ys, rfl, r1, r2⟩ := r
  have e : ys = [] := r2
  exact ⟨x, by rw [e], r1⟩
theorem RelDs.two_of {K : PySem.W.Frag} {n : Nat} {d e : D} {xs : List V} (r : RelDs K m n H [d, e] xs) : ∃ x y, xs = [x, y] ∧ RelD K m n H d x ∧ RelD K m n H e y := by
  obtain ⟨x, ys, rfl, r1, r2⟩ := r
  obtain ⟨y, rfl, r3⟩ := r2.one_of
  exact ⟨x, y, rfl, r1, r3⟩
/-- one argument -/
def f1 (g : D → M D) : List D → M D := fun ds => match ds with
  | [d] => g d
  | _ => bad
def f2 (g : D → D → M D) : List D → M D := fun ds => match ds with
  | [d, e] => g d e
  | _ => bad
theorem callE1 {f : Value} {g : D → M D} {r : V → Hp → VK → Prop} (hr : CallR X f (fun xs H Q => ∃ x, xs = [x] ∧ r x H Q))
    (hq : ∀ (σ : St) (m : Nat → Addr) (h : Hh) (H : Hp) (d : D) (x : V) (Q : VK), RelH (cf X ca) m h H → RelD X.K m h.length H d x → PostG X ca W σ (RD X) h.length m H (g d h) Q → r x H Q) : CallE X ca W f (f1 g) := by
  refine ⟨_, hr, fun σ m h H ds xs Q rh rd p => ?_⟩
  match ds, rd, p with
  | [d], rd, p =>
    obtain ⟨x, rfl, r1⟩ := rd.one_of
    exact ⟨x, rfl, hq σ m h H d x Q rh r1 p⟩
  | [], _, p => exact p.elim
  | _ :: _ :: _, _, p => exact p.elim
theorem callE2 {f : Value} {g : D → D → M D} {r : V → V → Hp → VK → Prop} (hr : CallR X f (fun xs H Q => ∃ x y, xs = [x, y] ∧ r x y H Q))
    (hq : ∀ (σ : St) (m : Nat → Addr) (h : Hh) (H : Hp) (d e : D) (x y : V) (Q : VK), RelH (cf X ca) m h H → RelD X.K m h.length H d x → RelD X.K m h.length H e y → PostG X ca W σ (RD X) h.length m H (g d e h) Q → r x y H Q) : CallE X ca W f (f2 g) := by
  refine ⟨_, hr, fun σ m h H ds xs Q rh rd p => ?_⟩
  match ds, rd, p with
  | [d, e], rd, p =>
    obtain ⟨x, y, rfl, r1, r2⟩ := rd.two_of
    exact ⟨x, y, rfl, hq σ m h H d e x y Q rh r1 r2 p⟩
  | [], _, p => exact p.elim
  | [_], _, p => exact p.elim
  | _ :: _ :: _ :: _, _, p => exact p.elim
theorem callImp {f : Value} {r r' : List V → Hp → VK → Prop} (h : CallR X f r) (i : ∀ xs H Q, r' xs H Q → r xs H Q) : CallR X f r' := fun pins s σ H xs us Q I rx q => h pins s σ H xs us Q I rx (i xs H Q q)
theorem CallR.orI {f : Value} {r r' : List V → Hp → VK → Prop} (h : CallR X f r) (h' : CallR X f r') : CallR X f (fun xs H Q => r xs H Q ∨ r' xs H Q) := h.or h'
/-- len -/
def dLen (d : D) : M D := fun h => match d with
  | .str y => if y.length ≤ LL then .ok (.int y.length) h else .bad
  | .tup ds => .ok (.int ds.length) h
  | .frl ds => .ok (.int ds.length) h
  | .ref i => match h[i]? with
    | some (.lst ds) => .ok (.int ds.length) h
    | some (.dic ps) => .ok (.int ps.length) h
    | _ => .bad
  | _ => .bad
theorem RelKs.length : ∀ {ps : List (Key × D)} {xs : List (Key × V)} {n : Nat} {K : PySem.W.Frag}, RelKs K m n H ps xs → ps.length = xs.length
  | [], xs, _, _, r => by
    have e : xs = [] := r
    rw [e]; rfl
  | p :: ps, _, _, _, r => by
    obtain ⟨x, xs, rfl, _, r2⟩ := r
    rw [List.length_cons, List.length_cons, RelKs.length r2]
theorem c_len : CallE X ca W (.builtin "len") (f1 dLen) := by
  refine callE1 (r := fun x H Q => (∃ n, LenV X.K x H n ∧ Q (.int n) H) ∨ ∃ a kvs, x = .ref a ∧ H a = some (.dK kvs) ∧ Q (.int kvs.length) H) (callImp (call_len.or call_lenD) fun xs H Q q => ?_) fun σ m h H d x Q rh r1 p => ?_
  · obtain ⟨x, rfl, ⟨n, l, q⟩ | ⟨a, kvs, rfl, e, q⟩⟩ := q
    · exact .inl ⟨x, n, rfl, l, q⟩
    · exact .inr ⟨a, kvs, rfl, e, q⟩
  · cases d with
    | str y =>
      have e : x = .str y := r1
      have p' : PostG X ca W σ (RD X) h.length m H (if y.length ≤ LL then .ok (.int y.length) h else .bad) Q := p
      by_cases c : y.length ≤ LL
      · rw [if_pos c] at p'
        subst e
        exact .inl ⟨y.length, ⟨le_line c, rfl⟩, PostG.ret (R := RD X) (d := .int y.length) rh rfl p'⟩
      · rw [if_neg c] at p'
        exact p'.elim
    | tup ds =>
      obtain ⟨a, xs, rfl, s, t⟩ := r1
      exact .inl ⟨ds.length, .inr ⟨xs, s, t.length⟩, PostG.ret (R := RD X) (d := .int ds.length) rh rfl p⟩
    | frl ds =>
      obtain ⟨a, xs, rfl, s, t⟩ := r1
      exact .inl ⟨ds.length, .inl ⟨xs, s.sq, t.length⟩, PostG.ret (R := RD X) (d := .int ds.length) rh rfl p⟩
    | ref i =>
      have p' : PostG X ca W σ (RD X) h.length m H (match h[i]? with
        | some (.lst ds) => .ok (.int ds.length) h
        | some (.dic ps) => .ok (.int ps.length) h
        | _ => .bad) Q := p
      have e : x = .ref (m i) := r1.2
      subst e
      cases z : h[i]? with
      | none => rw [z] at p'; exact p'.elim
      | some o =>
        rw [z] at p'
        cases o with
        | lst ds =>
          obtain ⟨xs, ex, t⟩ := rh.ob i _ z
          exact .inl ⟨ds.length, .inl ⟨xs, .of ex, t.length⟩, PostG.ret (R := RD X) (d := .int ds.length) rh rfl p'⟩
        | dic ps =>
          obtain ⟨xs, ex, t⟩ := rh.ob i _ z
          refine .inr ⟨m i, xs, rfl, ex, ?_⟩
          rw [← t.length]
          exact PostG.ret (R := RD X) (d := .int ps.length) rh rfl p'
        | _ => exact p'.elim
    | _ => exact p.elim
/-- int(x) of an int, a truth value -/
def dInt (d : D) : M D := match d with
  | .int i => ret (.int i)
  | .bl b => ret (.int (if b then 1 else 0))
  | _ => bad
theorem c_int : CallE X ca W (.type "int") (f1 dInt) := by
  refine callE1 (r := fun x H Q => (∃ i, x = .int i ∧ Q (.int i) H) ∨ ∃ k, x = .bl k ∧ Q (.int (if k then 1 else 0)) H) (callImp call_int1 fun xs H Q q => ?_) fun σ m h H d x Q rh r1 p => ?_
  · obtain ⟨x, rfl, ⟨i, rfl, q⟩ | ⟨k, rfl, q⟩⟩ := q
    · exact .inl ⟨i, rfl, q⟩
    · exact .inr ⟨k, rfl, q⟩
  · cases d with
    | int i => exact .inl ⟨i, r1, PostG.ret (R := RD X) (d := .int i) rh rfl p⟩
    | bl b => exact .inr ⟨b, r1, PostG.ret (R := RD X) (d := .int (if b then 1 else 0)) rh rfl p⟩
    | _ => exact p.elim
/-- int(text), where it is a number -/
def dIntS (d : D) : M D := match d with
  | .str x => match PySem.intText? x with
    | some n => if x.length ≤ 640 then ret (.int n) else bad
    | none => bad
  | _ => bad
theorem c_intS : CallE X ca W (.type "int") (f1 dIntS) := by
  refine callE1 (r := fun x H Q => ∃ a n, x = .str a ∧ PySem.intText? a = some n ∧ a.length ≤ 640 ∧ Q (.int n) H) (callImp call_int_str fun xs H Q q => ?_) fun σ m h H d x Q rh r1 p => ?_
  · obtain ⟨x, rfl, a, n, rfl, q⟩ := q
    exact ⟨a, n, rfl, q⟩
  · cases d with
    | str a =>
      have p' : PostG X ca W σ (RD X) h.length m H ((match PySem.intText? a with
        | some n => if a.length ≤ 640 then ret (.int n) else bad
        | none => bad : M D) h) Q := p
      cases e : PySem.intText? a with
      | none => rw [e] at p'; exact p'.elim
      | some n =>
        rw [e] at p'
        have p2 : PostG X ca W σ (RD X) h.length m H ((if a.length ≤ 640 then ret (.int n) else bad : M D) h) Q := p'
        by_cases c : a.length ≤ 640
        · rw [if_pos c] at p2
          exact ⟨a, n, r1, e, c, PostG.ret (R := RD X) (d := .int n) rh rfl p2⟩
        · rw [if_neg c] at p2
          exact p2.elim
    | _ => exact p.elim
/-- str(n) -/
def dStr (d : D) : M D := match d with
  | .int i => if i.natAbs.log2 < 1920 then ret (.str (toString i)) else bad
  | _ => bad
theorem c_str : CallE X ca W (.type "str") (f1 dStr) := by
  refine callE1 (r := fun x H Q => ∃ i, x = .int i ∧ i.natAbs.log2 < 1920 ∧ Q (.str (toString i)) H) (callImp call_str_int fun xs H Q q => ?_) fun σ m h H d x Q rh r1 p => ?_
  · obtain ⟨x, rfl, i, rfl, q⟩ := q
    exact ⟨i, rfl, q⟩
  · cases d with
    | int i =>
      have p' : PostG X ca W σ (RD X) h.length m H ((if i.natAbs.log2 < 1920 then ret (.str (toString i)) else bad : M D) h) Q := p
      by_cases c : i.natAbs.log2 < 1920
      · rw [if_pos c] at p'
        exact ⟨i, r1, c, PostG.ret (R := RD X) (d := .str (toString i)) rh rfl p'⟩
      · rw [if_neg c] at p'
        exact p'.elim
    | _ => exact p.elim
/-- max(a, b), min(a, b) of ints -/
def dMax2 (d e : D) : M D := match d, e with
  | .int i, .int j => ret (.int (if j > i then j else i))
  | _, _ => bad
def dMin2 (d e : D) : M D := match d, e with
  | .int i, .int j => ret (.int (if j < i then j else i))
  | _, _ => bad
theorem c_max2 (hc : X.calm = true) : CallE X ca W (.builtin "max") (f2 dMax2) := by
  refine callE2 (r := fun x y H Q => ∃ i j, x = .int i ∧ y = .int j ∧ Q (.int (if j > i then j else i)) H) (callImp (call_max2 hc) fun xs H Q q => ?_) fun σ m h H d e x y Q rh r1 r2 p => ?_
  · obtain ⟨x, y, rfl, i, j, rfl, rfl, q⟩ := q
    exact ⟨i, j, rfl, q⟩
  · cases d with
    | int i =>
      cases e with
      | int j => exact ⟨i, j, r1, r2, PostG.ret (R := RD X) (d := .int (if j > i then j else i)) rh rfl p⟩
      | _ => exact p.elim
    | _ => exact p.elim
theorem c_min2 (hc : X.calm = true) : CallE X ca W (.builtin "min") (f2 dMin2) := by
  refine callE2 (r := fun x y H Q => ∃ i j, x = .int i ∧ y = .int j ∧ Q (.int (if j < i then j else i)) H) (callImp (call_min2 hc) fun xs H Q q => ?_) fun σ m h H d e x y Q rh r1 r2 p => ?_
  · obtain ⟨x, y, rfl, i, j, rfl, rfl, q⟩ := q
    exact ⟨i, j, rfl, q⟩
  · cases d with
    | int i =>
      cases e with
      | int j => exact ⟨i, j, r1, r2, PostG.ret (R := RD X) (d := .int (if j < i then j else i)) rh rfl p⟩
      | _ => exact p.elim
    | _ => exact p.elim
/-- the items of a list or a tuple -/
def seqOf (h : Hh) : D → Option (List D)
  | .tup ds => some ds
  | .frl ds => some ds
  | .ref i => lstAt h i
  | _ => none
theorem seqOf_ok {d : D} {x : V} {ds : List D} (rh : RelH (cf X ca) m h H) (r : RelD X.K m h.length H d x) (e : seqOf h d = some ds) : ∃ a xs, x = .ref a ∧ (SqL X.K H a xs ∨ SqT X.K H a xs) ∧ RelDs X.K m h.length H ds xs := by
  cases d with
  | tup es => cases e; obtain ⟨a, xs, rfl, s, t⟩ := r; exact ⟨a, xs, rfl, .inr s, t⟩
  | frl es => cases e; obtain ⟨a, xs, rfl, s, t⟩ := r; exact ⟨a, xs, rfl, .inl s.sq, t⟩
  | ref i =>
    obtain ⟨xs, ex, t⟩ := lstAt_of rh (show lstAt h i = some ds from e)
    exact ⟨m i, xs, r.2, .inl (.of ex), t⟩
  | _ => cases e
/-- list(x): a new list of its items (a dict's: its keys) -/
def keyD : Key → D
  | .inl i => .int i
  | .inr x => .str x
theorem keyD_rel {K : PySem.W.Frag} {n : Nat} (k : Key) : RelD K m n H (keyD k) (kV k) := by
  cases k with
  | inl i => rfl
  | inr x => rfl
theorem keys_rel {K : PySem.W.Frag} {n : Nat} : ∀ {ps : List (Key × D)} {xs : List (Key × V)}, RelKs K m n H ps xs → RelDs K m n H (ps.map fun p => keyD p.1) (xs.map fun kv => kV kv.1)
  | [], xs, r => by
    have e : xs = [] := r
    rw [e]; rfl
  | p :: ps, _, r => by
    obtain ⟨x, xs, rfl, _, r2⟩ := r
    exact ⟨_, _, rfl, keyD_rel p.1, keys_rel r2⟩
def dList (d : D) : M D := fun h => match seqOf h d with
  | some ds => .ok (.ref h.length) (h ++ [.lst ds])
  | none => match d with
    | .ref i => match dicAt h i with
      | some ps => .ok (.ref h.length) (h ++ [.lst (ps.map fun p => keyD p.1)])
      | none => .bad
    | _ => .bad
theorem c_list (hc : X.calm = true) : CallE X ca W (.type "list") (f1 dList) := by
  refine callE1 (r := fun x H Q => (∃ p ys, x = .ref p ∧ (SqL X.K H p ys ∨ SqT X.K H p ys) ∧ ∀ l, H l = none → Q (.ref l) (upd H l (.lst ys))) ∨ ∃ p kvs, x = .ref p ∧ H p = some (.dK kvs) ∧ ∀ q, H q = none → Q (.ref q) (upd H q (.lst (kvs.map fun kv => kV kv.1))))
    (callImp (call_list_of.or (call_list_dK hc)) fun xs H Q q => ?_) fun σ m h H d x Q rh r1 p => ?_
  · obtain ⟨x, rfl, ⟨p, ys, rfl, q⟩ | ⟨p, ys, rfl, q⟩⟩ := q
    · exact .inl ⟨p, ys, rfl, q⟩
    · exact .inr ⟨p, ys, rfl, q⟩
  · unfold dList at p
    cases e : seqOf h d with
    | some ds =>
      rw [e] at p
      obtain ⟨a, xs, rfl, s, t⟩ := seqOf_ok rh r1 e
      exact .inl ⟨a, xs, rfl, s, fun l nl => lst_in rh t nl p⟩
    | none =>
      rw [e] at p
      cases d with
      | ref i =>
        have p' : PostG X ca W σ (RD X) h.length m H (match dicAt h i with
          | some ps => .ok (.ref h.length) (h ++ [.lst (ps.map fun p => keyD p.1)])
          | none => .bad) Q := p
        cases z : dicAt h i with
        | none => rw [z] at p'; exact p'.elim
        | some ps =>
          rw [z] at p'
          obtain ⟨xs, ex, t⟩ := dicAt_of rh z
          exact .inr ⟨m i, xs, r1.2, ex, fun l nl => lst_in rh (keys_rel t) nl p'⟩
      | _ => exact p.elim
def dTuple (d : D) : M D := fun h => match seqOf h d with
  | some ds => .ok (.tup ds) h
  | none => .bad
theorem c_tuple : CallE X ca W (.type "tuple") (f1 dTuple) := by
  refine callE1 (r := fun x H Q => ∃ p ys, x = .ref p ∧ ((SqL X.K H p ys ∧ ∀ l, H l = none → Q (.ref l) (upd H l (.tup ys))) ∨ (SqT X.K H p ys ∧ Q (.ref p) H))) (callImp call_tuple_of fun xs H Q q => ?_) fun σ m h H d x Q rh r1 p => ?_
  · obtain ⟨x, rfl, p, ys, rfl, q⟩ := q
    exact ⟨p, ys, rfl, q⟩
  · unfold dTuple at p
    cases e : seqOf h d with
    | none => rw [e] at p; exact p.elim
    | some ds =>
      rw [e] at p
      cases d with
      | tup es =>
        cases e
        obtain ⟨a, xs, rfl, s, t⟩ := r1
        exact ⟨a, xs, rfl, .inr ⟨s, PostG.ret (R := RD X) (d := .tup ds) rh ⟨a, xs, rfl, s, t⟩ p⟩⟩
      | frl es =>
        cases e
        obtain ⟨a, xs, rfl, s, t⟩ := r1
        exact ⟨a, xs, rfl, .inl ⟨s.sq, fun l nl => tup_in rh t nl p⟩⟩
      | ref i =>
        obtain ⟨xs, ex, t⟩ := lstAt_of rh (show lstAt h i = some ds from e)
        exact ⟨m i, xs, r1.2, .inl ⟨.of ex, fun l nl => tup_in rh t nl p⟩⟩
      | _ => cases e
/-- truth values, ints of a list -/
def boolsOf : List D → Option (List Bool) := mapO fun d => match d with
  | .bl b => some b
  | _ => none
def intsOf : List D → Option (List Int) := mapO fun d => match d with
  | .int b => some b
  | _ => none
theorem bools_rel {K : PySem.W.Frag} {n : Nat} : ∀ {ds : List D} {xs : List V} {bs : List Bool}, RelDs K m n H ds xs → boolsOf ds = some bs → xs = bs.map V.bl
  | [], xs, bs, r, e => by
    have e1 : xs = [] := r
    cases e
    rw [e1]; rfl
  | d :: ds, _, bs, r, e => by
    obtain ⟨x, ys, rfl, r1, r2⟩ := r
    obtain ⟨y, zs, rfl, e1, e2⟩ := mapO_cons e
    rw [bools_rel r2 e2]
    cases d with
    | bl b' =>
      have e3 : x = .bl b' := r1
      have e4 : some b' = some y := e1
      rw [e3, Option.some.inj e4]
      rfl
    | _ => cases e1
theorem ints_rel {K : PySem.W.Frag} {n : Nat} : ∀ {ds : List D} {xs : List V} {bs : List Int}, RelDs K m n H ds xs → intsOf ds = some bs → xs = bs.map V.int
  | [], xs, bs, r, e => by
    have e1 : xs = [] := r
    cases e
    rw [e1]; rfl
  | d :: ds, _, bs, r, e => by
    obtain ⟨x, ys, rfl, r1, r2⟩ := r
    obtain ⟨y, zs, rfl, e1, e2⟩ := mapO_cons e
    rw [ints_rel r2 e2]
    cases d with
    | int b' =>
      have e3 : x = .int b' := r1
      have e4 : some b' = some y := e1
      rw [e3, Option.some.inj e4]
      rfl
    | _ => cases e1
def lBools (h : Hh) (d : D) : Option (List Bool) := match d with
  | .ref i => match lstAt h i with
    | some ds => boolsOf ds
    | none => none
  | _ => none
theorem lBools_ok {d : D} {x : V} {bs : List Bool} (rh : RelH (cf X ca) m h H) (r : RelD X.K m h.length H d x) (e : lBools h d = some bs) : ∃ a, x = .ref a ∧ SqL X.K H a (bs.map V.bl) := by
  cases d with
  | ref i =>
    have e' : (match lstAt h i with
      | some ds => boolsOf ds
      | none => none) = some bs := e
    cases z : lstAt h i with
    | none => rw [z] at e'; cases e'
    | some ds =>
      rw [z] at e'
      obtain ⟨xs, ex, t⟩ := lstAt_of rh z
      rw [bools_rel t e'] at ex
      exact ⟨m i, r.2, .of ex⟩
  | _ => cases e
def dAll (d : D) : M D := fun h => match lBools h d with
  | some bs => .ok (.bl (bs.all id)) h
  | none => .bad
def dAny (d : D) : M D := fun h => match lBools h d with
  | some bs => .ok (.bl (bs.any id)) h
  | none => .bad
theorem c_all (hc : X.calm = true) : CallE X ca W (.builtin "all") (f1 dAll) := by
  refine callE1 (r := fun x H Q => ∃ (a : Addr) (bs : List Bool), x = V.ref a ∧ SqL X.K H a (bs.map V.bl) ∧ Q (.bl (bs.all id)) H) (callImp (cr_all hc) fun xs H Q q => ?_) fun σ m h H d x Q rh r1 p => ?_
  · obtain ⟨x, rfl, a, bs, rfl, q⟩ := q
    exact ⟨a, bs, rfl, q⟩
  · unfold dAll at p
    cases e : lBools h d with
    | none => rw [e] at p; exact p.elim
    | some bs =>
      rw [e] at p
      obtain ⟨a, e1, s⟩ := lBools_ok rh r1 e
      exact ⟨a, bs, e1, s, PostG.ret (R := RD X) (d := .bl (bs.all id)) rh rfl p⟩
theorem c_any (hc : X.calm = true) : CallE X ca W (.builtin "any") (f1 dAny) := by
  refine callE1 (r := fun x H Q => ∃ (a : Addr) (bs : List Bool), x = V.ref a ∧ SqL X.K H a (bs.map V.bl) ∧ Q (.bl (bs.any id)) H) (callImp (cr_any hc) fun xs H Q q => ?_) fun σ m h H d x Q rh r1 p => ?_
  · obtain ⟨x, rfl, a, bs, rfl, q⟩ := q
    exact ⟨a, bs, rfl, q⟩
  · unfold dAny at p
    cases e : lBools h d with
    | none => rw [e] at p; exact p.elim
    | some bs =>
      rw [e] at p
      obtain ⟨a, e1, s⟩ := lBools_ok rh r1 e
      exact ⟨a, bs, e1, s, PostG.ret (R := RD X) (d := .bl (bs.any id)) rh rfl p⟩
end
end Ev
set_option Elab.async false
set_option linter.all false
set_option maxRecDepth 100000
set_option maxHeartbeats 2000000
namespace Ev
open PySem PySem.Spec L2
open PyProof.Rows hiding St

/-! ### statements -/
inductive RS where
  | nx (sd : Sl) (h : Hh) | rt (d : D) (h : Hh) | bk (sd : Sl) (h : Hh) | ct (sd : Sl) (h : Hh) | ex (k : Str) (ns : List Str) (vs : List D) (sd : Sl) (h : Hh) | bad
abbrev SF := Sl → Hh → RS
def eS {α : Type} (f : Sl → M α) (k : α → SF) : SF := fun sd h => match f sd h with
  | .ok d h' => k d sd h'
  | .exn e ns vs h' => .ex e ns vs sd h'
  | .bad => .bad
def sNx : SF := .nx
def sBad : SF := fun _ _ => .bad
def sSeq (f g : SF) : SF := fun sd h => match f sd h with
  | .nx sd' h' => g sd' h'
  | r => r
def sSet (i : Nat) (f : Sl → M D) : SF := eS f fun d sd h => .nx (sd.set i (some d)) h
def sExpr (f : Sl → M D) : SF := eS f fun _ sd h => .nx sd h
def sRet (f : Sl → M D) : SF := eS f fun d _ h => .rt d h
def sRetN : SF := fun _ h => .rt .non h
def sIf (t : Sl → M Bool) (f g : SF) : SF := eS t fun b sd h => if b then f sd h else g sd h
def sPass : SF := .nx
def sBrk : SF := .bk
def sCnt : SF := .ct

section
variable {X : Cx} {ca : Str → Addr} {m m' : Nat → Addr} {h h' : Hh} {H H' : Hp} {sd : Sl} {σ : St} {W : WX} {pos : Pos}
def PostS (X : Cx) (ca : Str → Addr) (W : WX) (n : Nat) (m : Nat → Addr) (H : Hp) (r : RS) (E : Ends) : Prop := match r with
  | .nx sd h' => ∀ m' H' σ', To (cf X ca) n m H m' h' H' → RelSl X ca m' h'.length H' sd σ' → E.nx σ' H'
  | .bk sd h' => ∀ m' H' σ', To (cf X ca) n m H m' h' H' → RelSl X ca m' h'.length H' sd σ' → E.bk σ' H'
  | .ct sd h' => ∀ m' H' σ', To (cf X ca) n m H m' h' H' → RelSl X ca m' h'.length H' sd σ' → E.ct σ' H'
  | .rt d h' => ∀ m' H' v, To (cf X ca) n m H m' h' H' → RelD X.K m' h'.length H' d v → E.rt v H'
  | .ex k ns vs sd h' => ∀ m' H' dx σ', To (cf X ca) n m H m' h' H' → RelSl X ca m' h'.length H' sd σ' → RelX X.K m' h'.length H' ns vs dx → W (.ref (ca k)) dx σ' H'
  | .bad => False
theorem PostS.to {n : Nat} {r : RS} {E : Ends} (p : PostS X ca W n m H r E) (a : To (cf X ca) n m H m' h' H') : PostS X ca W h'.length m' H' r E := by
  cases r with
  | nx sd h' => exact fun m2 H2 v b c => p m2 H2 v (a.trans b) c
  | bk sd h' => exact fun m2 H2 v b c => p m2 H2 v (a.trans b) c
  | ct sd h' => exact fun m2 H2 v b c => p m2 H2 v (a.trans b) c
  | rt sd h' => exact fun m2 H2 v b c => p m2 H2 v (a.trans b) c
  | ex k ns vs sd h' => exact fun m2 H2 v σ' b c e => p m2 H2 v σ' (a.trans b) c e
  | bad => exact p
def tS (X : Cx) (ca : Str → Addr) (W : WX) (g : SF) : TS := fun E σ H => ∃ m sd h, Cu X ca m h H sd σ ∧ PostS X ca W h.length m H (g sd h) E
abbrev SV (X : Cx) (ca : Str → Addr) (W : WX) (s : Stmt) (g : SF) : Prop := PS X s (tS X ca W g)
abbrev BV (X : Cx) (ca : Str → Addr) (W : WX) (s : List Stmt) (g : SF) : Prop := PSs X s (tS X ca W g)
theorem PS.imp {s : Stmt} {t t' : TS} (p : PS X s t) (i : ∀ E σ H, t' E σ H → t E σ H) : PS X s t' := ⟨fun pins s σ H E I h => p.run pins s σ H E I (i E σ H h)⟩
theorem PSs.imp {s : List Stmt} {t t' : TS} (p : PSs X s t) (i : ∀ E σ H, t' E σ H → t E σ H) : PSs X s t' := ⟨fun pins s σ H E I h => p.run pins s σ H E I (i E σ H h)⟩
theorem eS_t {α β : Type} {R : (Nat → Addr) → Nat → Hp → α → β → Prop} {f : Sl → M α} {k : α → SF} {E : Ends} (c : Cu X ca m h H sd σ) (p : PostS X ca W h.length m H (eS f k sd h) E) :
    tG X ca W R f σ H (fun x H1 => ∃ d m1 h1, To (cf X ca) h.length m H m1 h1 H1 ∧ Cu X ca m1 h1 H1 sd σ ∧ R m1 h1.length H1 d x ∧ PostS X ca W h1.length m1 H1 (k d sd h1) E) := by
  refine ⟨m, sd, h, c, ?_⟩
  unfold eS at p
  cases e : f sd h with
  | ok d h1 =>
    rw [e] at p
    exact fun m1 H1 v a r => ⟨d, m1, h1, a, c.to a, r, p.to a⟩
  | exn k ns vs h1 =>
    rw [e] at p
    exact fun m1 H1 dx a r => p m1 H1 dx σ a (c.to a).sl r
  | bad =>
    rw [e] at p
    exact p
theorem bv_nil : BV X ca W [] sNx := PSs.imp pss_nil fun E σ H ⟨m, sd, h, c, p⟩ => p m H σ (.refl c.rel) c.sl
theorem bv_cons {s : Stmt} {ss : List Stmt} {f g : SF} (h1 : SV X ca W s f) (h2 : BV X ca W ss g) : BV X ca W (s :: ss) (sSeq f g) := by
  refine PSs.imp (pss_cons h1 h2) fun E σ H ⟨m, sd, h, c, p⟩ => ⟨m, sd, h, c, ?_⟩
  have p' : PostS X ca W h.length m H (match f sd h with
    | .nx sd' h' => g sd' h'
    | r => r) E := p
  cases e : f sd h with
  | nx sd1 h1 =>
    rw [e] at p'
    exact fun m1 H1 σ1 a r => ⟨m1, sd1, h1, ⟨a.rel, r⟩, p'.to a⟩
  | bk _ _ => rw [e] at p'; exact p'
  | ct _ _ => rw [e] at p'; exact p'
  | rt _ _ => rw [e] at p'; exact p'
  | ex _ _ _ _ _ => rw [e] at p'; exact p'
  | bad => rw [e] at p'; exact p'
theorem bv_one {s : Stmt} {f : SF} (h1 : SV X ca W s f) : BV X ca W [s] f := pss_one h1
theorem sv_set (i : Nat) {x : Str} {e : Expr} {f : Sl → M D} {pos' : Pos} (hN : X.N.Nodup) (he : EV X ca W e f) (hi : X.N[i]? = some x := by rfl) (hx : Loc X.env.scope x := by first | exact Or.inl rfl | exact Or.inr rfl) (hs : swapsWith e (some (.Name x pos')) pos.line X.env = pure false := by rfl)
    (hf : X.fn x = true ∨ X.env.scope.names.lookup x = some .local := by first | exact .inl rfl | exact .inr rfl | assumption) : SV X ca W (.Assign [.Name x pos'] e pos) (sSet i f) := by
  refine PS.imp (ps_set hN hi hx he hs hf) fun E σ H ⟨m, sd, h, c, p⟩ => ?_
  obtain ⟨m0, sd0, h0, c0, p0⟩ := eS_t (R := RD X) (f := f) c p
  exact ⟨m0, sd0, h0, c0, p0.imp fun x H1 ⟨d, m1, h1, a1, c1, r1, p1⟩ => p1 m1 H1 _ (.refl c1.rel) (c1.sl.set i (.inl r1))⟩
theorem sv_expr {e : Expr} {f : Sl → M D} (he : EV X ca W e f) (hs : swapsWith e none pos.line X.env = pure false := by rfl) : SV X ca W (.Expr e pos) (sExpr f) := by
  refine PS.imp (ps_expr he hs) fun E σ H ⟨m, sd, h, c, p⟩ => ?_
  obtain ⟨m0, sd0, h0, c0, p0⟩ := eS_t (R := RD X) (f := f) c p
  exact ⟨m0, sd0, h0, c0, p0.imp fun x H1 ⟨d, m1, h1, a1, c1, r1, p1⟩ => p1 m1 H1 _ (.refl c1.rel) c1.sl⟩
theorem sv_ret {e : Expr} {f : Sl → M D} (he : EV X ca W e f) : SV X ca W (.Return (some e) pos) (sRet f) := by
  refine PS.imp (ps_ret he) fun E σ H ⟨m, sd, h, c, p⟩ => ?_
  obtain ⟨m0, sd0, h0, c0, p0⟩ := eS_t (R := RD X) (f := f) c p
  exact ⟨m0, sd0, h0, c0, p0.imp fun x H1 ⟨d, m1, h1, a1, c1, r1, p1⟩ => p1 m1 H1 _ (.refl c1.rel) r1⟩
theorem sv_retN : SV X ca W (.Return none pos) sRetN := PS.imp ps_retN fun E σ H ⟨m, sd, h, c, p⟩ => p m H .non (.refl c.rel) rfl
theorem sv_pass : SV X ca W (.Pass pos) sPass := PS.imp ps_pass fun E σ H ⟨m, sd, h, c, p⟩ => p m H σ (.refl c.rel) c.sl
theorem sv_break : SV X ca W (.Break pos) sBrk := PS.imp ps_break fun E σ H ⟨m, sd, h, c, p⟩ => p m H σ (.refl c.rel) c.sl
theorem sv_cont : SV X ca W (.Continue pos) sCnt := PS.imp ps_continue fun E σ H ⟨m, sd, h, c, p⟩ => p m H σ (.refl c.rel) c.sl
theorem sv_never {s : Stmt} : SV X ca W s sBad := PS.imp ps_never fun E σ H ⟨m, sd, h, c, p⟩ => p
theorem bv_never {s : List Stmt} : BV X ca W s sBad := PSs.imp pss_never fun E σ H ⟨m, sd, h, c, p⟩ => p
theorem sv_if {t : Expr} {a b : List Stmt} {f : Sl → M Bool} {g k : SF} (ht : TV X ca W t f) (ha : BV X ca W a g) (hb : BV X ca W b k) : SV X ca W (.If t a b pos) (sIf f g k) := by
  refine PS.imp (ps_if ht ha hb) fun E σ H ⟨m, sd, h, c, p⟩ => ?_
  obtain ⟨m0, sd0, h0, c0, p0⟩ := eS_t (R := RB) (f := f) c p
  refine ⟨m0, sd0, h0, c0, p0.imp fun x H1 ⟨d, m1, h1, a1, c1, r1, p1⟩ => ?_⟩
  have e : x = d := r1
  subst e
  cases x with
  | true => exact ⟨m1, sd, h1, c1, p1⟩
  | false => exact ⟨m1, sd, h1, c1, p1⟩

/-! ### targets -/
structure Tg where
  fn : D → Sl → Option Sl
  ix : List Nat
def tgN (i : Nat) : Tg := ⟨fun d sd => some (sd.set i (some d)), [i]⟩
def tgAll : List Tg → List D → Sl → Option Sl
  | [], [], sd => some sd
  | t :: ts, d :: ds, sd => match t.fn d sd with
    | some sd' => tgAll ts ds sd'
    | none => none
  | _, _, _ => none
def tgIx : List Tg → List Nat
  | [] => []
  | t :: ts => t.ix ++ tgIx ts
def tgT (ts : List Tg) : Tg := ⟨fun d sd => match d with
  | .tup ds => tgAll ts ds sd
  | _ => none, tgIx ts⟩
/-- but for some slots alike -/
def SameSl (ix : List Nat) (σ σ' : St) : Prop := σ'.length = σ.length ∧ ∀ j, j ∉ ix → σ'[j]? = σ[j]?
def tGt (X : Cx) (ca : Str → Addr) (t : Tg) : TG := fun v σ H Q => ∃ m sd h d sd', Cu X ca m h H sd σ ∧ RelD X.K m h.length H d v ∧ t.fn d sd = some sd' ∧ ∀ σ', RelSl X ca m h.length H sd' σ' → SameSl t.ix σ σ' → Q σ' H
def tGs (X : Cx) (ca : Str → Addr) (ts : List Tg) : TGs := fun vs σ H Q => ∃ m sd h ds sd', Cu X ca m h H sd σ ∧ RelDs X.K m h.length H ds vs ∧ tgAll ts ds sd = some sd' ∧ ∀ σ', RelSl X ca m h.length H sd' σ' → SameSl (tgIx ts) σ σ' → Q σ' H
abbrev GV (X : Cx) (ca : Str → Addr) (tg : Expr) (t : Tg) : Prop := PG X tg (tGt X ca t)
abbrev GsV (X : Cx) (ca : Str → Addr) (tg : List Expr) (ts : List Tg) : Prop := PGs X tg (tGs X ca ts)
theorem PG.imp {e : Expr} {t t' : TG} (p : PG X e t) (i : ∀ v σ H Q, t' v σ H Q → t v σ H Q) : PG X e t' := ⟨fun pins s σ H v u Q I r h => p.run pins s σ H v u Q I r (i v σ H Q h)⟩
theorem PGs.imp {e : List Expr} {t t' : TGs} (p : PGs X e t) (i : ∀ v σ H Q, t' v σ H Q → t v σ H Q) : PGs X e t' := ⟨fun pins s σ H v u Q I r h => p.run pins s σ H v u Q I r (i v σ H Q h)⟩
theorem gv_name (i : Nat) {x : Str} (hN : X.N.Nodup) (hi : X.N[i]? = some x := by rfl) (hx : Loc X.env.scope x := by first | exact Or.inl rfl | exact Or.inr rfl) (hf : X.fn x = true ∨ X.env.scope.names.lookup x = some .local := by first | exact .inl rfl | exact .inr rfl | assumption) : GV X ca (.Name x pos) (tgN i) := by
  refine PG.imp (pg_name hN hi hx hf) fun v σ H Q ⟨m, sd, h, d, sd', c, r, e, q⟩ => ?_
  have e' : some (sd.set i (some d)) = some sd' := e
  cases e'
  exact q _ (c.sl.set i (.inl r)) ⟨List.length_set, fun j hj => List.getElem?_set_ne fun z => hj (by rw [z]; exact List.mem_singleton.mpr rfl)⟩
theorem gsv_nil : GsV X ca [] [] := by
  refine PGs.imp pgs_nil fun v σ H Q ⟨m, sd, h, ds, sd', c, r, e, q⟩ => ?_
  cases ds with
  | nil =>
    cases e
    exact ⟨r, q _ c.sl ⟨rfl, fun _ _ => rfl⟩⟩
  | cons _ _ => cases e
theorem gsv_cons {e : Expr} {es : List Expr} {t : Tg} {ts : List Tg} (h1 : GV X ca e t) (h2 : GsV X ca es ts)
    (hs : (assignEach (e :: es) X.env).map (·.2) = assign e X.env :: (assignEach es X.env).map (·.2) := by rfl) : GsV X ca (e :: es) (t :: ts) := by
  refine PGs.imp (pgs_cons h1 h2 hs) fun v σ H Q ⟨m, sd, h, ds, sd', c, r, e, q⟩ => ?_
  cases ds with
  | nil => cases e
  | cons d ds =>
    obtain ⟨x, xs, rfl, r1, r2⟩ := r
    have e' : (match t.fn d sd with
      | some sd' => tgAll ts ds sd'
      | none => none) = some sd' := e
    cases z : t.fn d sd with
    | none => rw [z] at e'; cases e'
    | some sd1 =>
      rw [z] at e'
      exact ⟨x, xs, rfl, m, sd, h, d, sd1, c, r1, z, fun σ1 rs s1 => ⟨m, sd1, h, ds, sd', ⟨c.rel, rs⟩, r2, e', fun σ2 rs2 s2 => q σ2 rs2 ⟨s2.1.trans s1.1, fun j hj =>
        (s2.2 j fun z => hj (List.mem_append_right _ z)).trans (s1.2 j fun z => hj (List.mem_append_left _ z))⟩⟩⟩
theorem gv_tup {es : List Expr} {k : Nat} {ts : List Tg} (hc : X.calm = true) (h : GsV X ca es ts) (hl : es.length = ts.length := by rfl) (hn : (assignEach es X.env).length = ts.length := by rfl) (hst : (assignEach es X.env).findIdx? (·.1) = none := by rfl) : GV X ca (.Tuple es k pos) (tgT ts) := by
  refine PG.imp (pg_tup (n := ts.length) hc h hn hst) fun v σ H Q ⟨m, sd, h, d, sd', c, r, e, q⟩ => ?_
  cases d with
  | tup ds =>
    obtain ⟨a, xs, rfl, s, t⟩ := r
    have e' : tgAll ts ds sd = some sd' := e
    have hlen : ∀ (ts : List Tg) (ds : List D) (sd sd' : Sl), tgAll ts ds sd = some sd' → ds.length = ts.length := by
      intro ts
      induction ts with
      | nil =>
        intro ds sd sd' e
        cases ds with
        | nil => rfl
        | cons _ _ => cases e
      | cons t ts ih =>
        intro ds sd sd' e
        cases ds with
        | nil => cases e
        | cons d ds =>
          have e' : (match t.fn d sd with
            | some sd' => tgAll ts ds sd'
            | none => none) = some sd' := e
          cases z : t.fn d sd with
          | none => rw [z] at e'; cases e'
          | some sd1 =>
            rw [z] at e'
            rw [List.length_cons, List.length_cons, ih ds sd1 sd' e']
    exact ⟨a, xs, rfl, s, by rw [← t.length]; exact hlen ts ds sd sd' e', m, sd, h, ds, sd', c, t, e', q⟩
  | _ => cases e
/-- target = value -/
def sAsg (t : Tg) (f : Sl → M D) : SF := eS f fun d sd h => match t.fn d sd with
  | some sd' => .nx sd' h
  | none => .bad
theorem sv_asg {tg e : Expr} {f : Sl → M D} {t : Tg} (he : EV X ca W e f) (hg : GV X ca tg t) (hs : swapsWithSole [tg] e pos.line X.env = pure false := by rfl) (hw : swappedStores [tg] e X.env = pure none := by rfl)
    (h1 : (assignEach [tg] X.env).map (·.2) = [assign tg X.env] := by rfl) : SV X ca W (.Assign [tg] e pos) (sAsg t f) := by
  refine PS.imp (ps_asg he hg hs hw h1) fun E σ H ⟨m, sd, h, c, p⟩ => ?_
  obtain ⟨m0, sd0, h0, c0, p0⟩ := eS_t (R := RD X) (f := f) c p
  refine ⟨m0, sd0, h0, c0, p0.imp fun x H1 ⟨d, m1, h1, a1, c1, r1, p1⟩ => ?_⟩
  have p' : PostS X ca W h1.length m1 H1 (match t.fn d sd with
    | some sd' => .nx sd' h1
    | none => .bad) E := p1
  cases z : t.fn d sd with
  | none => rw [z] at p'; exact p'.elim
  | some sd' =>
    rw [z] at p'
    exact ⟨m1, sd, h1, d, sd', c1, r1, z, fun σ' rs _ => p' m1 H1 σ' (.refl c1.rel) rs⟩

/-! ### what a loop walks -/
structure Src where
  items : List D
  pin : Hh → Bool
mutual
def beqD : D → D → Bool
  | .non, .non => true
  | .bl a, .bl b => a == b
  | .int a, .int b => a == b
  | .str a, .str b => decide (a = b)
  | .tup a, .tup b => beqDs a b
  | .frl a, .frl b => beqDs a b
  | .ref a, .ref b => a == b
  | _, _ => false
def beqDs : List D → List D → Bool
  | [], [] => true
  | a :: as, b :: bs => beqD a b && beqDs as bs
  | _, _ => false
end
mutual
theorem beqD_eq : ∀ {a b : D}, beqD a b = true → a = b
  | .non, b, e => by cases b <;> first | rfl | cases e
  | .bl a, b, e => by
    cases b with
    | bl b => rw [eq_of_beq (show (a == b) = true from e)]
    | _ => cases e
  | .int a, b, e => by
    cases b with
    | int b => rw [eq_of_beq (show (a == b) = true from e)]
    | _ => cases e
  | .str a, b, e => by
    cases b with
    | str b => rw [of_decide_eq_true (show decide (a = b) = true from e)]
    | _ => cases e
  | .tup a, b, e => by
    cases b with
    | tup b => rw [beqDs_eq (show beqDs a b = true from e)]
    | _ => cases e
  | .frl a, b, e => by
    cases b with
    | frl b => rw [beqDs_eq (show beqDs a b = true from e)]
    | _ => cases e
  | .ref a, b, e => by
    cases b with
    | ref b => rw [eq_of_beq (show (a == b) = true from e)]
    | _ => cases e
  | .exc _ _ _, b, e => by cases b <;> cases e
theorem beqDs_eq : ∀ {a b : List D}, beqDs a b = true → a = b
  | [], b, e => by cases b <;> first | rfl | cases e
  | a :: as, b, e => by
    cases b with
    | nil => cases e
    | cons b bs =>
      have e' : (beqD a b && beqDs as bs) = true := e
      rw [Bool.and_eq_true] at e'
      rw [beqD_eq e'.1, beqDs_eq e'.2]
end
def pinL (i : Nat) (ds : List D) (h : Hh) : Bool := match lstAt h i with
  | some es => beqDs es ds
  | none => false
theorem pinL_eq {i : Nat} {ds : List D} {h : Hh} (e : pinL i ds h = true) : lstAt h i = some ds := by
  unfold pinL at e
  cases z : lstAt h i with
  | none => rw [z] at e; cases e
  | some es => rw [z] at e; rw [beqDs_eq e]
/-- the iterator gives just these items -/
structure IsIt (X : Cx) (ca : Str → Addr) (m0 : Nat → Addr) (h0 : Hh) (H0 : Hp) (s : Src) (J : It) : Prop where
  go : ∀ (k : Nat) (d : D) (m : Nat → Addr) (h : Hh) (H : Hp), To (cf X ca) h0.length m0 H0 m h H → s.pin h = true → s.items[k]? = some d → J.go k H ∧ ∀ x H', J.yld k H x H' → To (cf X ca) h.length m H m h H' ∧ RelD X.K m h.length H' d x
  stop : ∀ (k : Nat) (m : Nat → Addr) (h : Hh) (H : Hp), To (cf X ca) h0.length m0 H0 m h H → s.pin h = true → s.items.length ≤ k → J.stop k H
def tIt (X : Cx) (ca : Str → Addr) (W : WX) (f : Sl → M Src) : TI := fun σ H R => tG X ca W (β := It) (fun m n H s J => ∃ h : Hh, h.length = n ∧ IsIt X ca m h H s J) f σ H R
abbrev IV (X : Cx) (ca : Str → Addr) (W : WX) (tg e : Expr) (f : Sl → M Src) : Prop := PI X tg e (tIt X ca W f)
theorem PI.imp {tg e : Expr} {t t' : TI} (p : PI X tg e t) (i : ∀ σ H R, t' σ H R → t σ H R) : PI X tg e t' := ⟨fun pins s σ H R I h => p.run pins s σ H R I (i σ H R h)⟩
/-- the turns -/
def loopF (t : Tg) (pin : Hh → Bool) (body : SF) : List D → SF
  | [], sd, h => if pin h = true then .nx sd h else .bad
  | d :: ds, sd, h => if pin h = true then match t.fn d sd with
    | none => .bad
    | some sd1 => match body sd1 h with
      | .nx sd2 h2 => loopF t pin body ds sd2 h2
      | .ct sd2 h2 => loopF t pin body ds sd2 h2
      | .bk sd2 h2 => .nx sd2 h2
      | .rt d h2 => .rt d h2
      | .ex k ns vs sd2 h2 => .ex k ns vs sd2 h2
      | .bad => .bad
    else .bad
def sFor (s : Sl → M Src) (t : Tg) (body : SF) : SF := eS s fun s sd h => loopF t s.pin body s.items sd h
theorem sv_for {tg iter : Expr} {body : List Stmt} {f : Sl → M Src} {t : Tg} {g : SF} (hp : PassesOwn (model X.prog X.w) X.A X.env X.xe) (hc : X.calm = true) (hi : IV X ca W tg iter f) (hg : GV X ca tg t) (hb : BV X ca W body g)
    (hs : ∀ x, foldedSetIterable iter X.env x = pure x := by intro _; rfl) : SV X ca W (.For tg iter body [] pos) (sFor f t g) := by
  refine PS.imp (ps_for hp hc hi hg hb hs) fun E σ H ⟨m, sd, h, c, p⟩ => ?_
  obtain ⟨m0, sd0, h0, c0, p0⟩ := eS_t (R := fun m n H s J => ∃ h : Hh, h.length = n ∧ IsIt X ca m h H s J) (f := f) c p
  refine ⟨m0, sd0, h0, c0, p0.imp fun J H1 ⟨s, m1, h1, a1, c1, ⟨h1', e1, r1⟩, p1⟩ => ?_⟩
  obtain ⟨items, pin⟩ := s
  refine ⟨fun i mm σ H => mm = items.length - i ∧ i ≤ items.length ∧ ∃ m sd h, To (cf X ca) h1.length m1 H1 m h H ∧ RelSl X ca m h.length H sd σ ∧ PostS X ca W h.length m H (loopF t pin g (items.drop i) sd h) E,
    ⟨items.length, by simp, Nat.zero_le _, m1, sd, h1, .refl c1.rel, c1.sl, p1⟩, ?_⟩
  rintro i mm σ2 H2 ⟨rfl, hi, m2, sd2, h2, a2, s2, p2⟩
  have a2' : To (cf X ca) h1'.length m1 H1 m2 h2 H2 := by rw [e1]; exact a2
  by_cases hlt : i < items.length
  · right
    rw [List.drop_eq_getElem_cons hlt] at p2
    have p3 : PostS X ca W h2.length m2 H2 (if pin h2 = true then match t.fn items[i] sd2 with
      | none => .bad
      | some sd1 => match g sd1 h2 with
        | .nx sd2 h2 => loopF t pin g (items.drop (i + 1)) sd2 h2
        | .ct sd2 h2 => loopF t pin g (items.drop (i + 1)) sd2 h2
        | .bk sd2 h2 => .nx sd2 h2
        | .rt d h2 => .rt d h2
        | .ex k ns vs sd2 h2 => .ex k ns vs sd2 h2
        | .bad => .bad
      else .bad) E := p2
    by_cases hpin : pin h2 = true
    · rw [if_pos hpin] at p3
      obtain ⟨g1, g2⟩ := r1.go i items[i] m2 h2 H2 a2' hpin (List.getElem?_eq_getElem hlt)
      refine ⟨g1, fun σ' H' => ∃ m sd h, To (cf X ca) h1.length m1 H1 m h H' ∧ RelSl X ca m h.length H' sd σ' ∧ PostS X ca W h.length m H' (loopF t pin g (items.drop (i + 1)) sd h) E, fun σ' H' q => ⟨items.length - (i + 1), by omega, rfl, hlt, q⟩, fun x H3 y => ?_⟩
      obtain ⟨a3, r3⟩ := g2 x H3 y
      have p3 : PostS X ca W h2.length m2 H2 (match t.fn items[i] sd2 with
        | none => .bad
        | some sd1 => match g sd1 h2 with
          | .nx sd2 h2 => loopF t pin g (items.drop (i + 1)) sd2 h2
          | .ct sd2 h2 => loopF t pin g (items.drop (i + 1)) sd2 h2
          | .bk sd2 h2 => .nx sd2 h2
          | .rt d h2 => .rt d h2
          | .ex k ns vs sd2 h2 => .ex k ns vs sd2 h2
          | .bad => .bad) E := p3
      have c3 : Cu X ca m2 h2 H3 sd2 σ2 := Cu.to ⟨a2.rel, s2⟩ a3
      cases z : t.fn items[i] sd2 with
      | none => rw [z] at p3; exact p3.elim
      | some sd4 =>
        rw [z] at p3
        have p4 : PostS X ca W h2.length m2 H2 (match g sd4 h2 with
          | .nx sd2 h2 => loopF t pin g (items.drop (i + 1)) sd2 h2
          | .ct sd2 h2 => loopF t pin g (items.drop (i + 1)) sd2 h2
          | .bk sd2 h2 => .nx sd2 h2
          | .rt d h2 => .rt d h2
          | .ex k ns vs sd2 h2 => .ex k ns vs sd2 h2
          | .bad => .bad) E := p3
        refine ⟨m2, sd2, h2, items[i], sd4, c3, r3, z, fun σ4 s4 _ => ⟨m2, sd4, h2, ⟨c3.rel, s4⟩, ?_⟩⟩
        have base : To (cf X ca) h1.length m1 H1 m2 h2 H3 := a2.trans a3
        cases e : g sd4 h2 with
        | nx sd5 h5 =>
          rw [e] at p4
          exact fun m5 H5 σ5 a5 s5 => ⟨m5, sd5, h5, base.trans a5, s5, p4.to (a3.trans a5)⟩
        | ct sd5 h5 =>
          rw [e] at p4
          exact fun m5 H5 σ5 a5 s5 => ⟨m5, sd5, h5, base.trans a5, s5, p4.to (a3.trans a5)⟩
        | bk sd5 h5 => rw [e] at p4; exact fun m5 H5 σ5 a5 s5 => p4 m5 H5 σ5 (a3.trans a5) s5
        | rt d h5 => rw [e] at p4; exact fun m5 H5 σ5 a5 s5 => p4 m5 H5 σ5 (a3.trans a5) s5
        | ex k ns vs sd5 h5 => rw [e] at p4; exact fun m5 H5 dx σ5 a5 s5 => p4 m5 H5 dx σ5 (a3.trans a5) s5
        | bad => rw [e] at p4; exact p4.elim
    · rw [if_neg hpin] at p3
      exact p3.elim
  · left
    have e : i = items.length := by omega
    subst e
    rw [List.drop_length] at p2
    have p3 : PostS X ca W h2.length m2 H2 (if pin h2 = true then .nx sd2 h2 else .bad) E := p2
    by_cases hpin : pin h2 = true
    · rw [if_pos hpin] at p3
      exact ⟨r1.stop _ m2 h2 H2 a2' hpin (Nat.le_refl _), p3 m2 H2 σ2 (.refl a2.rel) s2⟩
    · rw [if_neg hpin] at p3
      exact p3.elim
/-- while -/
def whileF (t : Sl → M Bool) (body : SF) : Nat → SF
  | 0, _, _ => .bad
  | k + 1, sd, h => match t sd h with
    | .ok true h1 => match body sd h1 with
      | .nx sd2 h2 => whileF t body k sd2 h2
      | .ct sd2 h2 => whileF t body k sd2 h2
      | .bk sd2 h2 => .nx sd2 h2
      | .rt d h2 => .rt d h2
      | .ex k ns vs sd2 h2 => .ex k ns vs sd2 h2
      | .bad => .bad
    | .ok false h1 => .nx sd h1
    | .exn k ns vs h1 => .ex k ns vs sd h1
    | .bad => .bad
theorem sv_while (fuel : Nat) {e : Expr} {body : List Stmt} {f : Sl → M Bool} {g : SF} (hp : PassesOwn (model X.prog X.w) X.A X.env X.xe) (he : TV X ca W e f) (hb : BV X ca W body g) : SV X ca W (.While e body [] pos) (whileF f g fuel) := by
  refine PS.imp (ps_while hp he hb) fun E σ H ⟨m, sd, h, c, p⟩ => ?_
  refine ⟨fun k σ H => ∃ m sd h, Cu X ca m h H sd σ ∧ PostS X ca W h.length m H (whileF f g k sd h) E, ⟨fuel, m, sd, h, c, p⟩, ?_⟩
  rintro k σ1 H1 ⟨m1, sd1, h1, c1, p1⟩
  cases k with
  | zero => exact p1.elim
  | succ k =>
    refine ⟨m1, sd1, h1, c1, ?_⟩
    have p2 : PostS X ca W h1.length m1 H1 (match f sd1 h1 with
      | .ok true h1 => match g sd1 h1 with
        | .nx sd2 h2 => whileF f g k sd2 h2
        | .ct sd2 h2 => whileF f g k sd2 h2
        | .bk sd2 h2 => .nx sd2 h2
        | .rt d h2 => .rt d h2
        | .ex k ns vs sd2 h2 => .ex k ns vs sd2 h2
        | .bad => .bad
      | .ok false h1 => .nx sd1 h1
      | .exn k ns vs h1 => .ex k ns vs sd1 h1
      | .bad => .bad) E := p1
    cases e1 : f sd1 h1 with
    | bad => rw [e1] at p2; exact p2.elim
    | exn k ns vs h2 => rw [e1] at p2; exact fun m2 H2 dx a r => p2 m2 H2 dx σ1 a (c1.to a).sl r
    | ok b h2 =>
      rw [e1] at p2
      intro m2 H2 v a2 r2
      have ev : v = b := r2
      subst ev
      have c2 := c1.to a2
      cases v with
      | false => exact p2 m2 H2 σ1 a2 c2.sl
      | true =>
        refine ⟨fun σ' H' => ∃ m sd h, Cu X ca m h H' sd σ' ∧ PostS X ca W h.length m H' (whileF f g k sd h) E, fun σ' H' q => ⟨k, Nat.lt_succ_self _, q⟩, m2, sd1, h2, c2, ?_⟩
        have p3 : PostS X ca W h1.length m1 H1 (match g sd1 h2 with
          | .nx sd2 h2 => whileF f g k sd2 h2
          | .ct sd2 h2 => whileF f g k sd2 h2
          | .bk sd2 h2 => .nx sd2 h2
          | .rt d h2 => .rt d h2
          | .ex k ns vs sd2 h2 => .ex k ns vs sd2 h2
          | .bad => .bad) E := p2
        cases e : g sd1 h2 with
        | nx sd5 h5 => rw [e] at p3; exact fun m5 H5 σ5 a5 s5 => ⟨m5, sd5, h5, ⟨a5.rel, s5⟩, p3.to (a2.trans a5)⟩
        | ct sd5 h5 => rw [e] at p3; exact fun m5 H5 σ5 a5 s5 => ⟨m5, sd5, h5, ⟨a5.rel, s5⟩, p3.to (a2.trans a5)⟩
        | bk sd5 h5 => rw [e] at p3; exact fun m5 H5 σ5 a5 s5 => p3 m5 H5 σ5 (a2.trans a5) s5
        | rt d h5 => rw [e] at p3; exact fun m5 H5 σ5 a5 s5 => p3 m5 H5 σ5 (a2.trans a5) s5
        | ex k ns vs sd5 h5 => rw [e] at p3; exact fun m5 H5 dx σ5 a5 s5 => p3 m5 H5 dx σ5 (a2.trans a5) s5
        | bad => rw [e] at p3; exact p3.elim
end
end Ev
set_option Elab.async false
set_option linter.all false
set_option maxRecDepth 100000
set_option maxHeartbeats 2000000
namespace PySem
open Sem (wp)
open AutoSeq1 (wpAny_loadPart')
theorem ev_meets_enumerate_newT (l : Addr) (items : Array Value) (n : Nat) (dct : Option Addr) (sl : Array (Option Value)) :
    Meets (Builtin.«enumerate.__new__» ⟨[.type "enumerate", .ref l], []⟩) (fun _ R s => s.heap.get? l = some { cls := .type "tuple", dict := dct, data := .seq items n, slots := sl } ∧
      R (.ok (.ret (.ref (s.heap.push { cls := .type "tuple_iterator", data := .fields #[.ref l, .int 0 0] }).objs.size)))
        { s with heap := (s.heap.push { cls := .type "tuple_iterator", data := .fields #[.ref l, .int 0 0] }).push { cls := .type "enumerate", data := .fields #[.none, .bool false, .ref s.heap.objs.size, rawInt 0, .none, .none] } }) :=
  .of_wp fun prog w A R s h => by
    obtain ⟨hp, g, d, tk, os⟩ := s; obtain ⟨hl, h⟩ := h
    have hsub := sub_enumerate
    have hL : Heap.IsTuple (Shared.heap ⟨hp, g, d, tk, os⟩) l items := ⟨_, hl, rfl, n, rfl⟩
    wp_walk using wpAny_loadPart' hl
    refine wpAny_stack_any fun st => wpAny_pure ?_
    split
    · rename_i c _ _ _ _ _
      cases (c == Value.type "enumerate")
      · wp_walk using wpAny_loadPart' hl, wpAny_pyIter_tuple hL
        exact ⟨_, rfl, h⟩
      · wp_walk using wpAny_loadPart' hl, wpAny_pyIter_tuple hL
        exact ⟨_, rfl, h⟩
    · wp_walk using wpAny_loadPart' hl, wpAny_pyIter_tuple hL
      exact ⟨_, rfl, h⟩
section
variable {prog : Program} {w : World} {A : Around} {E : Value → Shared → Prop} {s : Shared}
theorem ev_call_enumerate_tuple {l : Addr} {items : Array Value} {Q : Value → Shared → Prop} (hL : s.heap.IsTuple l items)
    (h : ∀ h', IsEnum h' (s.heap.objs.size + 1) s.heap.objs.size 0 .none → h'.IsTupleIter s.heap.objs.size l 0 → h'.objs.size = s.heap.objs.size + 2 →
      (∀ b o, s.heap.get? b = some o → h'.get? b = some o) → Q (.ref (s.heap.objs.size + 1)) { s with heap := h' }) :
    wpAny (model prog w) A (call (.type "enumerate") [.ref l]) Q E s := by
  obtain ⟨⟨c, dct, dt, sl⟩, hl, hc, n, hd⟩ := hL
  replace hc : c = .type "tuple" := hc
  replace hd : dt = .seq items n := hd
  subst hc hd
  refine callType_new F.called_enumerate (by decide) (F.typeCall_enumerate_1 _) (F.newCall_enumerate_1 _) (fun obj => F.args_object_init_2 obj _) F.entry_enumerate_new
    (ev_meets_enumerate_newT l items n dct sl) ⟨hl, ?_⟩
  have hz : (s.heap.push { cls := .type "tuple_iterator", data := .fields #[.ref l, .int 0 0] }).objs.size = s.heap.objs.size + 1 := Heap.size_push ..
  show _ ∧ _
  rw [hz]
  have he : IsEnum ((s.heap.push { cls := .type "tuple_iterator", data := .fields #[.ref l, .int 0 0] }).push
      { cls := .type "enumerate", data := .fields #[.none, .bool false, .ref s.heap.objs.size, rawInt 0, .none, .none] }) (s.heap.objs.size + 1) s.heap.objs.size 0 .none := by
    have := Heap.get?_push_size (s.heap.push { cls := .type "tuple_iterator", data := .fields #[.ref l, .int 0 0] })
      (o := { cls := .type "enumerate", data := .fields #[.none, .bool false, .ref s.heap.objs.size, rawInt 0, .none, .none] }) rfl
    rw [hz] at this; exact this
  refine ⟨⟨_, he, rfl⟩, h _ he ⟨_, Heap.get?_push_of_some _ (Heap.get?_push_size _ rfl), rfl, rfl⟩ (by rw [Heap.size_push, hz]) fun b o x => Heap.get?_push_of_some _ (Heap.get?_push_of_some _ x)⟩
end
end PySem
namespace L2
open PySem PySem.Spec
open PyProof.Rows hiding St
/-- enumerate over a tuple, over a text -/
def IteT (K : PySem.W.Frag) (a : Addr) : It :=
  ⟨fun i H => ∃ (xs : List V) (x : V), SqT K H a xs ∧ xs[i]? = some x, fun i H v H' => ∃ T x, v = .ref T ∧ H T = none ∧ H' = upd H T (.tup [.int (i : Nat), x]) ∧ ∀ xs, SqT K H a xs → xs[i]? = some x, fun i H => ∃ xs : List V, SqT K H a xs ∧ xs.length ≤ i⟩
theorem turn_enumT {P : Program} {w : World} {K : PySem.W.Frag} {elts : List Expr} {kk : Nat} {tpos : Pos} (a e it : Addr) :
    Turn P w K (.Tuple elts kk tpos) (IteT K a) [e, it] e (fun i h => (∃ old, IsEnum h e it ((i : Nat) : Int) old) ∧ h.IsTupleIter it a i ∧ e ≠ it) where
  mem := by simp
  obj := fun i h st b hb => by
    obtain ⟨⟨old, he⟩, ⟨o, ho, hc, hd⟩, _⟩ := st
    have e' : b = e ∨ b = it := by simpa using hb
    rcases e' with z | z
    · rw [z]; exact ⟨_, he, fun v q => nomatch q⟩
    · rw [z]; exact ⟨o, ho, fun v q => by rw [hd] at q; cases q⟩
  keep := fun i h h' st k => let ⟨⟨old, he⟩, hi, hne⟩ := st; ⟨⟨old, k e (by simp) _ he⟩, hi.at fun o q => k it (by simp) o q, hne⟩
  item := by
    intro X hP hw hK hc i pins s σ H E I hf st hg
    subst hP hw hK
    obtain ⟨⟨old, he⟩, hit, hne⟩ := st
    obtain ⟨xs, x, hq, hx⟩ := hg
    obtain ⟨its, rv, p, hz⟩ := I.tuple hq
    obtain ⟨u, hu, ru⟩ := rv.get hx
    have hel : e < s.heap.objs.size := Heap.lt_size he
    have hil : it < s.heap.objs.size := by obtain ⟨_, q, _⟩ := hit; exact Heap.lt_size q
    have hea : a ≠ e := fun z => by
      obtain ⟨o, q, c, _⟩ := p
      have he' : s.heap.get? e = some _ := he
      rw [z, he'] at q; cases q
      have c' : Value.type "enumerate" = Value.type "tuple" := c
      exact absurd c' (by decide)
    have hai : a ≠ it := fun z => by
      obtain ⟨o, q, c, _⟩ := p
      obtain ⟨o2, q2, c2, _⟩ := hit
      rw [z, q2] at q; cases q; rw [c2] at c
      exact absurd c (by decide)
    have hh : (X.A.in1).handled = none := I.ok.hd hc
    refine wpAny_pyNext_enum_itemD (Draws.tuple hh it a hai its.toArray) he ⟨hit, show s.heap.IsTuple a its.toArray from p⟩ (by rw [List.size_toArray]; exact (List.getElem?_eq_some_iff.mp hu).1) hne (by simp [hne, Ne.symm hea]) fun y h' tk hy ho hit' hT hsz hk => ?_
    have ey : y = u := by
      have hy' : its.toArray[i]? = some y := hy
      rw [List.getElem?_toArray, hu] at hy'
      exact (Option.some.inj hy').symm
    subst ey
    refine ⟨_, rfl, wpAny_letOwnedTupleGo_enum (s := { s with heap := h', toks := tk + 1 }) ho fun h'' he' sb => ?_⟩
    have hT2 : h''.get? s.heap.objs.size = some { cls := .type "tuple", data := .seq #[.int i tk, y] } := (sb.2 _ (Nat.ne_of_gt hel)).trans hT
    have new : ObjOk X.prog X.w (upd H s.heap.objs.size (.tup [.int (i : Nat), x])) h'' s.heap.objs.size (.tup [.int (i : Nat), x]) :=
      ⟨by show 2 ≤ sizeLine; decide, [.int i tk, y], .cons ⟨_, rfl⟩ (.cons ru .nil), ⟨_, hT2, rfl, _, rfl⟩⟩
    have I1 : Inv X pins σ (upd H s.heap.objs.size (.tup [.int (i : Nat), x])) { s with heap := h'', toks := tk + 1 } :=
      I.turnedNew (ch := [e, it]) (fun b ob hb q => (sb.2 b (fun z => hb (by simp [z]))).trans (hk b ob (fun z => hb (by simp [z])) (fun z => hb (by simp [z])) q)) hf (Nat.le_refl _) new
    refine ⟨.ref s.heap.objs.size, _, I1, rfl, ⟨_, x, rfl, I.hok.fresh (Nat.le_refl _), rfl, fun ys hy => by rw [I.tuple_inj hy hq]; exact hx⟩, ⟨⟨y, ?_⟩, hit'.1.at fun o q => (sb.2 it (Ne.symm hne)).trans q, hne⟩, fun b hb => ?_⟩
    · have e1 : ((i + 1 : Nat) : Int) = (i : Int) + 1 := by omega
      rw [e1]; exact he'
    · have hb' : b < s.heap.objs.size := by
        have e' : b = e ∨ b = it := by simpa using hb
        rcases e' with z | z
        · rw [z]; exact hel
        · rw [z]; exact hil
      rw [upd_ne (Nat.ne_of_lt hb')]
      exact (hf b hb).1
  done := by
    intro X hP hw hK hc i pins s σ H E I hf st hg
    subst hP hw hK
    obtain ⟨⟨old, he⟩, hit, hne⟩ := st
    obtain ⟨xs, hq, hx⟩ := hg
    obtain ⟨its, rv, p, hz⟩ := I.tuple hq
    obtain ⟨f0, f1, f2, f3, f4, f5⟩ := hf it (by simp)
    have hai : a ≠ it := fun z => by
      obtain ⟨o, q, c, _⟩ := p
      obtain ⟨o2, q2, c2, _⟩ := hit
      rw [z, q2] at q; cases q; rw [c2] at c
      exact absurd c (by decide)
    have hh : (X.A.in1).handled = none := I.ok.hd hc
    have hl := rv.length
    have hx' : its.toArray[i]? = none := by
      rw [List.getElem?_toArray]
      exact List.getElem?_eq_none (by omega)
    have hT : s.TypeIs (.ref e) "enumerate" := ⟨_, he, rfl⟩
    unfold pyNext
    refine wpAny_bind (wpAny_attempt (wpAny_callSpecial?_slot (name := Str.ofString "__next__") hT F.slot_enumerate_next
      (wpAny_call_entry F.slot_enumerate_next hT F.entry_enumerate_next ?_ (F.args_enumerate_next_1 _))))
    show wpAny _ _ (field (.ref e) 2 >>= _) _ _ _
    refine wpAny_bind (wpAny_field he rfl (x := .ref it) rfl ?_)
    refine wpAny_bind (wpAny_nextOf_tuple_end hh hit (show s.heap.IsTuple a its.toArray from p) hx' fun h' x he' hx' => ?_)
    obtain ⟨o, ho, hc⟩ := hx'
    refine wpAny_bind (wpAny_isInstance (T := "StopIteration") (b := true) ⟨o, ho, hc⟩ isSubtype_stop ?_)
    exact wpAny_pure ⟨rfl, I.turned (t' := s.toks) (fun b o hb q => he' b o hb q) f0 f1 f3 f4 f5⟩
  self := fun A i s Q E st h => let ⟨⟨_, he⟩, _⟩ := st; wpAny_pyIter_enum he h

/-- .. over a text -/
def IteS (z : Str) : It := ⟨fun i _ => i < z.cps.size, fun i H v H' => ∃ T c, v = .ref T ∧ H T = none ∧ z.cps[i]? = some c ∧ H' = upd H T (.tup [.int (i : Nat), .str ⟨#[c]⟩]), fun i _ => z.cps.size ≤ i⟩
theorem turn_enumS {P : Program} {w : World} {K : PySem.W.Frag} {elts : List Expr} {kk : Nat} {tpos : Pos} (z : Str) (t : Tok) (e it : Addr) :
    Turn P w K (.Tuple elts kk tpos) (IteS z) [e, it] e (fun i h => i ≤ z.cps.size ∧ (∃ old, IsEnum h e it ((i : Nat) : Int) old) ∧ h.IsStrIter it (strIterType z) z t i ∧ e ≠ it) where
  mem := by simp
  obj := fun i h st b hb => by
    obtain ⟨_, ⟨old, he⟩, ⟨o, ho, hc, hd⟩, _⟩ := st
    have e' : b = e ∨ b = it := by simpa using hb
    rcases e' with z | z
    · rw [z]; exact ⟨_, he, fun v q => nomatch q⟩
    · rw [z]; exact ⟨o, ho, fun v q => by rw [hd] at q; cases q⟩
  keep := fun i h h' st k => let ⟨hle, ⟨old, he⟩, hi, hne⟩ := st; ⟨hle, ⟨old, k e (by simp) _ he⟩, (let ⟨o, ho, r⟩ := hi; ⟨o, k it (by simp) o ho, r⟩), hne⟩
  item := by
    intro X hP hw hK hc i pins s σ H E I hf st hg
    subst hP hw hK
    obtain ⟨hle, ⟨old, he⟩, hit, hne⟩ := st
    have hlt : i < z.cps.size := hg
    have hel : e < s.heap.objs.size := Heap.lt_size he
    have hil : it < s.heap.objs.size := by obtain ⟨_, q, _⟩ := hit; exact Heap.lt_size q
    have hh : (X.A.in1).handled = none := I.ok.hd hc
    refine wpAny_pyNext_enum_itemD (Draws.text hh it z t) he hit hlt hne (by simp [hne]) fun y h' tk hy ho hit' hT hsz hk => ?_
    obtain ⟨c, u, hc1, rfl⟩ := hy
    refine ⟨_, rfl, wpAny_letOwnedTupleGo_enum (s := { s with heap := h', toks := tk + 1 }) ho fun h'' he' sb => ?_⟩
    have hT2 : h''.get? s.heap.objs.size = some { cls := .type "tuple", data := .seq #[.int i tk, .str ⟨#[c]⟩ u] } := (sb.2 _ (Nat.ne_of_gt hel)).trans hT
    have new : ObjOk X.prog X.w (upd H s.heap.objs.size (.tup [.int (i : Nat), .str ⟨#[c]⟩])) h'' s.heap.objs.size (.tup [.int (i : Nat), .str ⟨#[c]⟩]) :=
      ⟨by show 2 ≤ sizeLine; decide, [.int i tk, .str ⟨#[c]⟩ u], .cons ⟨_, rfl⟩ (.cons ⟨_, rfl⟩ .nil), ⟨_, hT2, rfl, _, rfl⟩⟩
    have I1 : Inv X pins σ (upd H s.heap.objs.size (.tup [.int (i : Nat), .str ⟨#[c]⟩])) { s with heap := h'', toks := tk + 1 } :=
      I.turnedNew (ch := [e, it]) (fun b ob hb q => (sb.2 b (fun z => hb (by simp [z]))).trans (hk b ob (fun z => hb (by simp [z])) (fun z => hb (by simp [z])) q)) hf (Nat.le_refl _) new
    refine ⟨.ref s.heap.objs.size, _, I1, rfl, ⟨_, c, rfl, I.hok.fresh (Nat.le_refl _), hc1, rfl⟩, ⟨hlt, ⟨.str ⟨#[c]⟩ u, ?_⟩, (let ⟨o, ho, r⟩ := hit'; ⟨o, (sb.2 it (Ne.symm hne)).trans ho, r⟩), hne⟩, fun b hb => ?_⟩
    · have e1 : ((i + 1 : Nat) : Int) = (i : Int) + 1 := by omega
      rw [e1]; exact he'
    · have hb' : b < s.heap.objs.size := by
        have e' : b = e ∨ b = it := by simpa using hb
        rcases e' with z | z
        · rw [z]; exact hel
        · rw [z]; exact hil
      rw [upd_ne (Nat.ne_of_lt hb')]
      exact (hf b hb).1
  done := by
    intro X hP hw hK hc i pins s σ H E I hf st hg
    subst hP hw hK
    obtain ⟨hle, ⟨old, he⟩, hit, hne⟩ := st
    have hge : z.cps.size ≤ i := hg
    have e0 : i = z.cps.size := by omega
    subst e0
    obtain ⟨f0, f1, f2, f3, f4, f5⟩ := hf it (by simp)
    have hh : (X.A.in1).handled = none := I.ok.hd hc
    exact wpAny_pyNext_enum_endD (Draws.text hh it z t) he hit fun h' he' => ⟨rfl, I.turned (t' := s.toks) (fun b o hb q => he' b o hb q) f0 f1 f3 f4 f5⟩
  self := fun A i s Q E st h => let ⟨_, ⟨_, he⟩, _⟩ := st; wpAny_pyIter_enum he h
def iEnumA (K : PySem.W.Frag) (ta : TE) : TI := fun σ H R => ta σ H fun x H1 => (∃ a xs, x = .ref a ∧ SqL K H1 a xs ∧ R (Ite K a) H1) ∨ (∃ a xs, x = .ref a ∧ SqT K H1 a xs ∧ R (IteT K a) H1) ∨ ∃ z, x = .str z ∧ R (IteS z) H1
theorem pi_enumA {X : Cx} {e : Expr} {ta : TE} {p pos tpos : Pos} {elts : List Expr} {kk : Nat} (hg : Gl X "enumerate") (hm : X.mg "enumerate" = none) (ha : PE X e ta) (hs : starEach [e] X.env = [(false, eval e X.env)] := by rfl) (hs2 : starEach (e :: []) X.env = (false, eval e X.env) :: starEach [] X.env := by rfl) :
    PI X (.Tuple elts kk tpos) (.Call (.Name "enumerate" p) [e] [] pos) (iEnumA X.K ta) := by
  refine ⟨fun pins s σ H R I h => ?_⟩
  have hA : PA X [e] (tCons ta tNil) := pa_cons ha pa_nil hs2
  refine Call_ (ld_blt I hg hm boot_enumerate (PyProof.Rows.callWith_type1 (thn (hA.run pos pins s σ H (fun vs H1 => ∃ x, vs = [x] ∧ ((∃ a xs, x = .ref a ∧ SqL X.K H1 a xs ∧ R (Ite X.K a) H1) ∨ (∃ a xs, x = .ref a ∧ SqT X.K H1 a xs ∧ R (IteT X.K a) H1) ∨ ∃ z, x = .str z ∧ R (IteS z) H1)) I ?_) fun us s1 ⟨vs, H1, I1, r1, q1⟩ => ?_) hs rfl))
  · show ta σ H _
    exact (show ta σ H (fun x H1 => ∃ x', [x] = [x'] ∧ _) from by
      have : (fun (x : V) (H1 : Hp) => ∃ x', [x] = [x'] ∧ ((∃ a xs, x' = .ref a ∧ SqL X.K H1 a xs ∧ R (Ite X.K a) H1) ∨ (∃ a xs, x' = .ref a ∧ SqT X.K H1 a xs ∧ R (IteT X.K a) H1) ∨ ∃ z, x' = .str z ∧ R (IteS z) H1)) = (fun x H1 => (∃ a xs, x = .ref a ∧ SqL X.K H1 a xs ∧ R (Ite X.K a) H1) ∨ (∃ a xs, x = .ref a ∧ SqT X.K H1 a xs ∧ R (IteT X.K a) H1) ∨ ∃ z, x = .str z ∧ R (IteS z) H1) := by
        funext x H1
        apply propext
        constructor
        · rintro ⟨x', e, q⟩
          cases e
          exact q
        · intro q
          exact ⟨x, rfl, q⟩
      rw [this]
      exact h)
  obtain ⟨x, rfl, q1⟩ := q1
  have fp : ∀ b, b ∈ [s1.heap.objs.size + 1, s1.heap.objs.size] → FpOk X pins H1 b := fun b hb => by
    have e' : b = s1.heap.objs.size + 1 ∨ b = s1.heap.objs.size := by simpa using hb
    have hle : s1.heap.objs.size ≤ b := by
      rcases e' with z | z
      · rw [z]; exact Nat.le_add_right _ _
      · rw [z]; exact Nat.le_refl _
    exact I1.fpOk hle (I1.hok.fresh hle)
  cases r1 with
  | cons r rr =>
    cases rr
    rcases q1 with ⟨a, xs, rfl, hq, q⟩ | ⟨a, xs, rfl, hq, q⟩ | ⟨z, rfl, q⟩
    · cases r
      obtain ⟨its, rv, p', hz⟩ := I1.list hq
      refine call_enumerate_list p'.isList fun h' he hit hsz hk => wpAny_pyIter_enum he ?_
      have I2 : Inv X pins σ H1 { s1 with heap := h' } := I1.kept (t' := s1.toks) hk
      exact ⟨s1.heap.objs.size + 1, [s1.heap.objs.size + 1, s1.heap.objs.size], _, _, H1, rfl, I2, turn_enum a (s1.heap.objs.size + 1) s1.heap.objs.size, ⟨⟨.none, he⟩, hit, Nat.succ_ne_self _⟩, fp, q⟩
    · cases r
      obtain ⟨its, rv, p', hz⟩ := I1.tuple hq
      refine ev_call_enumerate_tuple (show s1.heap.IsTuple a its.toArray from p') fun h' he hit hsz hk => wpAny_pyIter_enum he ?_
      have I2 : Inv X pins σ H1 { s1 with heap := h' } := I1.kept (t' := s1.toks) hk
      exact ⟨s1.heap.objs.size + 1, [s1.heap.objs.size + 1, s1.heap.objs.size], _, _, H1, rfl, I2, turn_enumT a (s1.heap.objs.size + 1) s1.heap.objs.size, ⟨⟨.none, he⟩, hit, Nat.succ_ne_self _⟩, fp, q⟩
    · obtain ⟨t, rfl⟩ := r
      refine call_enumerate_str fun h' he hit hsz hk => wpAny_pyIter_enum he ?_
      have I2 : Inv X pins σ H1 { s1 with heap := h' } := I1.kept (t' := s1.toks) hk
      exact ⟨s1.heap.objs.size + 1, [s1.heap.objs.size + 1, s1.heap.objs.size], _, _, H1, rfl, I2, turn_enumS z t (s1.heap.objs.size + 1) s1.heap.objs.size, ⟨Nat.zero_le _, ⟨.none, he⟩, hit, Nat.succ_ne_self _⟩, fp, q⟩
/-- what stands in a for's head, whatever sequence it is -/
def iAny (K : PySem.W.Frag) (te : TE) : TI := fun σ H R => te σ H fun x H1 => (∃ a xs, x = .ref a ∧ SqL K H1 a xs ∧ R (Itl K a) H1) ∨ (∃ a xs, x = .ref a ∧ SqT K H1 a xs ∧ R (Itt K a) H1) ∨ ∃ z, x = .str z ∧ R (Its z) H1
theorem pi_any {X : Cx} {tg e : Expr} {te : TE} (he : PE X e te) : PI X tg e (iAny X.K te) := by
  refine ⟨fun pins s σ H R I h => ?_⟩
  refine thn (he.run pins s σ H _ I h) fun v s1 ⟨x, H1, I1, r1, q1⟩ => ?_
  rcases q1 with ⟨a, xs, rfl, hq, q⟩ | ⟨a, xs, rfl, hq, q⟩ | ⟨z, rfl, q⟩
  · cases r1
    obtain ⟨its, rv, p, hz⟩ := I1.list hq
    refine wpAny_pyIter_list p.isList ?_
    refine ⟨s1.heap.objs.size, [s1.heap.objs.size], _, _, H1, rfl, I1.kept (t' := s1.toks) fun b o e => Heap.get?_push_of_some _ e, turn_list a _, ⟨_, Heap.get?_push_size _ rfl, rfl, rfl⟩, fun b hb => ?_, q⟩
    have e : b = s1.heap.objs.size := by simpa using hb
    subst e
    exact I1.fpOk (Nat.le_refl _) (I1.hok.fresh (Nat.le_refl _))
  · cases r1
    obtain ⟨its, rv, p, hz⟩ := I1.tuple hq
    refine wpAny_pyIter_tuple (show s1.heap.IsTuple a its.toArray from p) ?_
    refine ⟨s1.heap.objs.size, [s1.heap.objs.size], _, _, H1, rfl, I1.kept (t' := s1.toks) fun b o e => Heap.get?_push_of_some _ e, turn_tuple a _, ⟨_, Heap.get?_push_size _ rfl, rfl, rfl⟩, fun b hb => ?_, q⟩
    have e : b = s1.heap.objs.size := by simpa using hb
    subst e
    exact I1.fpOk (Nat.le_refl _) (I1.hok.fresh (Nat.le_refl _))
  · obtain ⟨t, rfl⟩ := r1
    cases ha : z.cps.all (· < 128)
    · exact wpAny_pyIter_wide ha (pi_one (tk := s1.toks) I1 _ (turn_str _ z t "str_iterator" (.inr rfl)) ⟨_, Heap.get?_push_size _ rfl, rfl, rfl⟩ q)
    · exact wpAny_pyIter_ascii ha (pi_one (tk := s1.toks) I1 _ (turn_str _ z t "str_ascii_iterator" (.inl rfl)) ⟨_, Heap.get?_push_size _ rfl, rfl, rfl⟩ q)
end L2
set_option Elab.async false
set_option linter.all false
set_option maxRecDepth 100000
set_option maxHeartbeats 2000000
namespace Ev
open PySem PySem.Spec L2
open PyProof.Rows hiding St

section
variable {X : Cx} {ca : Str → Addr} {m m' : Nat → Addr} {h h' : Hh} {H H' : Hp} {sd : Sl} {σ : St} {W : WX} {pos : Pos} {tg : Expr}

/-! ### what is walked -/
abbrev RIt (X : Cx) (ca : Str → Addr) : (Nat → Addr) → Nat → Hp → Src → It → Prop := fun m n H s J => ∃ h : Hh, h.length = n ∧ IsIt X ca m h H s J
theorem PostG.it {s : Src} {J : It} {Q : It → Hp → Prop} (r : RelH (cf X ca) m h H) (i : IsIt X ca m h H s J) (p : PostG X ca W σ (RIt X ca) h.length m H (.ok s h) Q) : Q J H := p m H J (.refl r) ⟨h, rfl, i⟩
def fixS (ds : List D) : Src := ⟨ds, fun _ => true⟩
def signsD (z : Str) : List D := z.cps.toList.map fun c => .str ⟨#[c]⟩
def srcAny (d : D) : M Src := fun h => match d with
  | .tup ds => .ok (fixS ds) h
  | .frl ds => .ok (fixS ds) h
  | .str z => .ok (fixS (signsD z)) h
  | .ref i => match lstAt h i with
    | some ds => .ok ⟨ds, pinL i ds⟩ h
    | none => .bad
  | _ => .bad
theorem isIt_tup {ds : List D} {a : Addr} {xs : List V} (rh : RelH (cf X ca) m h H) (s : SqT X.K H a xs) (t : RelDs X.K m h.length H ds xs) : IsIt X ca m h H (fixS ds) (Itt X.K a) := by
  refine ⟨fun k d m2 h2 H2 to _ e => ?_, fun k m2 h2 H2 to _ e => ?_⟩
  · have s2 := to.ext.sqT rh s
    obtain ⟨x, ex, rx⟩ := (to.ds rh t).get e
    refine ⟨⟨xs, x, s2, ex⟩, fun y H3 ⟨e3, q⟩ => ?_⟩
    subst e3
    refine ⟨.refl to.rel, ?_⟩
    have := (q xs s2).symm.trans ex
    rw [Option.some.inj this]
    exact rx
  · exact ⟨xs, to.ext.sqT rh s, by rw [← t.length]; exact e⟩
theorem isIt_frl {ds : List D} {a : Addr} {xs : List V} (rh : RelH (cf X ca) m h H) (s : FrL X.K H a xs) (t : RelDs X.K m h.length H ds xs) : IsIt X ca m h H (fixS ds) (Itl X.K a) := by
  refine ⟨fun k d m2 h2 H2 to _ e => ?_, fun k m2 h2 H2 to _ e => ?_⟩
  · have s2 := (to.ext.frL rh s).sq
    obtain ⟨x, ex, rx⟩ := (to.ds rh t).get e
    refine ⟨⟨xs, x, s2, ex⟩, fun y H3 ⟨e3, q⟩ => ?_⟩
    subst e3
    refine ⟨.refl to.rel, ?_⟩
    have := (q xs s2).symm.trans ex
    rw [Option.some.inj this]
    exact rx
  · exact ⟨xs, (to.ext.frL rh s).sq, by rw [← t.length]; exact e⟩
theorem isIt_lst {ds : List D} {i : Nat} (rh : RelH (cf X ca) m h H) (e : lstAt h i = some ds) : IsIt X ca m h H ⟨ds, pinL i ds⟩ (Itl X.K (m i)) := by
  have hi : i < h.length := (List.getElem?_eq_some_iff.mp (lstAt_eq e)).1
  refine ⟨fun k d m2 h2 H2 to pin e => ?_, fun k m2 h2 H2 to pin e => ?_⟩
  · obtain ⟨xs, ex, t⟩ := lstAt_of to.rel (pinL_eq pin)
    have ex' : H2 (m i) = some (.lst xs) := by rw [← to.ext.ag i hi]; exact ex
    obtain ⟨x, ex2, rx⟩ := t.get e
    refine ⟨⟨xs, x, .of ex', ex2⟩, fun y H3 ⟨e3, q⟩ => ?_⟩
    subst e3
    refine ⟨.refl to.rel, ?_⟩
    have := (q xs (.of ex')).symm.trans ex2
    rw [Option.some.inj this]
    exact rx
  · obtain ⟨xs, ex, t⟩ := lstAt_of to.rel (pinL_eq pin)
    have ex' : H2 (m i) = some (.lst xs) := by rw [← to.ext.ag i hi]; exact ex
    exact ⟨xs, .of ex', by rw [← t.length]; exact e⟩
theorem isIt_str (z : Str) : IsIt X ca m h H (fixS (signsD z)) (Its z) := by
  refine ⟨fun k d m2 h2 H2 to _ e => ?_, fun k m2 h2 H2 to _ e => ?_⟩
  · have e' : (z.cps.toList.map fun c => D.str ⟨#[c]⟩)[k]? = some d := e
    rw [List.getElem?_map] at e'
    cases q : z.cps.toList[k]? with
    | none => rw [q] at e'; cases e'
    | some c =>
      rw [q] at e'
      have e2 : D.str ⟨#[c]⟩ = d := Option.some.inj e'
      have hk : k < z.cps.size := by
        have := (List.getElem?_eq_some_iff.mp q).1
        rwa [Array.length_toList] at this
      refine ⟨hk, fun y H3 ⟨e3, c', ec, ey⟩ => ?_⟩
      subst e3
      refine ⟨.refl to.rel, ?_⟩
      have : c' = c := by
        rw [← Array.getElem?_toList, q] at ec
        exact (Option.some.inj ec).symm
      rw [ey, this, ← e2]
      rfl
  · have e' : (z.cps.toList.map fun c => D.str ⟨#[c]⟩).length ≤ k := e
    rw [List.length_map, Array.length_toList] at e'
    exact e'
theorem iv_any {e : Expr} {f : Sl → M D} (he : EV X ca W e f) : IV X ca W tg e (fun sd => bnd (f sd) srcAny) := by
  refine PI.imp (pi_any he) fun σ H R ⟨m, sd, h, c, p⟩ => ?_
  obtain ⟨m0, sd0, h0, c0, p0⟩ := tG_bnd (R := RD X) (f := f) (R2 := RIt X ca) c p
  refine ⟨m0, sd0, h0, c0, p0.imp fun x H1 ⟨d, m1, h1, a1, c1, r1, p1⟩ => ?_⟩
  cases d with
  | tup ds =>
    obtain ⟨a, xs, e, s, t⟩ := r1
    exact .inr (.inl ⟨a, xs, e, s, PostG.it c1.rel (isIt_tup c1.rel s t) p1⟩)
  | frl ds =>
    obtain ⟨a, xs, e, s, t⟩ := r1
    exact .inl ⟨a, xs, e, s.sq, PostG.it c1.rel (isIt_frl c1.rel s t) p1⟩
  | str z => exact .inr (.inr ⟨z, r1, PostG.it c1.rel (isIt_str z) p1⟩)
  | ref i =>
    have p2 : PostG X ca W σ (RIt X ca) h1.length m1 H1 (match lstAt h1 i with
      | some ds => .ok ⟨ds, pinL i ds⟩ h1
      | none => .bad) R := p1
    cases z : lstAt h1 i with
    | none => rw [z] at p2; exact p2.elim
    | some ds =>
      rw [z] at p2
      obtain ⟨xs, ex, t⟩ := lstAt_of c1.rel z
      exact .inl ⟨m1 i, xs, r1.2, .of ex, PostG.it c1.rel (isIt_lst c1.rel z) p2⟩
  | _ => exact p1.elim
/-- ranges -/
def rangeD (lo : Int) (n : Nat) : List D := (List.range n).map fun (i : Nat) => .int (lo + i)
theorem isIt_range (lo : Int) (n : Nat) : IsIt X ca m h H (fixS (rangeD lo n)) (Itr lo n) := by
  have hl : (rangeD lo n).length = n := by unfold rangeD; rw [List.length_map, List.length_range]
  refine ⟨fun k d m2 h2 H2 to _ e => ?_, fun k m2 h2 H2 to _ e => ?_⟩
  · have e' : (rangeD lo n)[k]? = some d := e
    have hk : k < n := by rw [← hl]; exact (List.getElem?_eq_some_iff.mp e').1
    refine ⟨hk, fun y H3 ⟨e3, ey⟩ => ?_⟩
    subst e3
    refine ⟨.refl to.rel, ?_⟩
    unfold rangeD at e'
    rw [List.getElem?_map, List.getElem?_range hk] at e'
    have e2 : D.int (lo + k) = d := Option.some.inj e'
    rw [ey, ← e2]
    rfl
  · have e' : (rangeD lo n).length ≤ k := e
    rw [hl] at e'
    exact e'
def okI (i : Int) : Bool := decide (-(2 ^ 62) ≤ i ∧ i < 2 ^ 62)
def srcR1 : List D → M Src := fun ds => match ds with
  | [.int j] => if okI j then ret (fixS (rangeD 0 j.toNat)) else bad
  | _ => bad
def srcR2 : List D → M Src := fun ds => match ds with
  | [.int i, .int j] => if okI i && okI j then ret (fixS (rangeD i (j - i).toNat)) else bad
  | _ => bad
theorem iv_range1 {a : Expr} {f : Sl → M (List D)} {p : Pos} (hg : Gl X "range") (hm : X.mg "range" = none) (ha : AV X ca W [a] f) (hs : starEach [a] X.env = [(false, eval a X.env)] := by rfl) : IV X ca W tg (.Call (.Name "range" p) [a] [] pos) (fun sd => bnd (f sd) srcR1) := by
  refine PI.imp (pi_range1 hg hm ha hs) fun σ H R ⟨m, sd, h, c, p⟩ => ?_
  obtain ⟨m0, sd0, h0, c0, p0⟩ := tG_bnd (R := RDs X) (f := f) (R2 := RIt X ca) c p
  refine ⟨m0, sd0, h0, c0, p0.imp fun xs H1 ⟨ds, m1, h1, a1, c1, r1, p1⟩ => ?_⟩
  match ds, r1, p1 with
  | [.int j], r1, p1 =>
    obtain ⟨x, rfl, e⟩ := r1.one_of
    have e' : x = .int j := e
    subst e'
    have p2 : PostG X ca W σ (RIt X ca) h1.length m1 H1 ((if okI j then ret (fixS (rangeD 0 j.toNat)) else bad : M Src) h1) R := p1
    by_cases z : okI j = true
    · rw [if_pos z] at p2
      obtain ⟨z1, z2⟩ := of_decide_eq_true z
      exact ⟨j, rfl, z1, z2, PostG.it c1.rel (isIt_range 0 j.toNat) p2⟩
    · rw [if_neg z] at p2
      exact p2.elim
  | [], _, p1 => exact p1.elim
  | .int _ :: _ :: _, _, p1 => exact p1.elim
  | .non :: _, _, p1 => exact p1.elim
  | .bl _ :: _, _, p1 => exact p1.elim
  | .str _ :: _, _, p1 => exact p1.elim
  | .tup _ :: _, _, p1 => exact p1.elim
  | .frl _ :: _, _, p1 => exact p1.elim
  | .ref _ :: _, _, p1 => exact p1.elim
  | .exc _ _ _ :: _, _, p1 => exact p1.elim
theorem iv_range2 {a b : Expr} {f : Sl → M (List D)} {p : Pos} (hg : Gl X "range") (hm : X.mg "range" = none) (ha : AV X ca W [a, b] f) (hs : starEach [a, b] X.env = [(false, eval a X.env), (false, eval b X.env)] := by rfl) (hs2 : starEach [b] X.env = [(false, eval b X.env)] := by rfl) :
    IV X ca W tg (.Call (.Name "range" p) [a, b] [] pos) (fun sd => bnd (f sd) srcR2) := by
  refine PI.imp (pi_range2 hg hm ha hs hs2) fun σ H R ⟨m, sd, h, c, p⟩ => ?_
  obtain ⟨m0, sd0, h0, c0, p0⟩ := tG_bnd (R := RDs X) (f := f) (R2 := RIt X ca) c p
  refine ⟨m0, sd0, h0, c0, p0.imp fun xs H1 ⟨ds, m1, h1, a1, c1, r1, p1⟩ => ?_⟩
  have key : ∀ i j, ds = [.int i, .int j] → ∃ i j : Int, xs = [.int i, .int j] ∧ (-(2 ^ 62) ≤ i ∧ i < 2 ^ 62 ∧ -(2 ^ 62) ≤ j ∧ j < 2 ^ 62) ∧ R (Itr i (j - i).toNat) H1 := fun i j e => by
    subst e
    obtain ⟨x, y, rfl, e1, e2⟩ := r1.two_of
    have e1' : x = .int i := e1
    have e2' : y = .int j := e2
    subst e1' e2'
    have p2 : PostG X ca W σ (RIt X ca) h1.length m1 H1 ((if okI i && okI j then ret (fixS (rangeD i (j - i).toNat)) else bad : M Src) h1) R := p1
    by_cases z : (okI i && okI j) = true
    · rw [if_pos z] at p2
      rw [Bool.and_eq_true] at z
      obtain ⟨z1, z2⟩ := of_decide_eq_true z.1
      obtain ⟨z3, z4⟩ := of_decide_eq_true z.2
      exact ⟨i, j, rfl, ⟨z1, z2, z3, z4⟩, PostG.it c1.rel (isIt_range i (j - i).toNat) p2⟩
    · rw [if_neg z] at p2
      exact p2.elim
  unfold srcR2 at p1
  split at p1
  · exact key _ _ rfl
  · exact p1.elim
/-- enumerate -/
def enumD : Nat → List D → List D
  | _, [] => []
  | k, d :: ds => .tup [.int k, d] :: enumD (k + 1) ds
theorem enumD_get : ∀ (ds : List D) (k j : Nat), (enumD k ds)[j]? = (ds[j]?).map fun d => .tup [.int ((k + j : Nat) : Int), d]
  | [], _, _ => by simp [enumD]
  | d :: ds, k, 0 => by simp [enumD]
  | d :: ds, k, j + 1 => by
    show (enumD (k + 1) ds)[j]? = _
    rw [enumD_get ds (k + 1) j, show k + 1 + j = k + (j + 1) by omega]
    rfl
theorem enumD_length : ∀ (ds : List D) (k : Nat), (enumD k ds).length = ds.length
  | [], _ => rfl
  | d :: ds, k => by
    show (enumD (k + 1) ds).length + 1 = ds.length + 1
    rw [enumD_length ds (k + 1)]
def srcEn (d : D) : M Src := fun h => match d with
  | .tup ds => .ok (fixS (enumD 0 ds)) h
  | .frl ds => .ok (fixS (enumD 0 ds)) h
  | .str z => .ok (fixS (enumD 0 (signsD z))) h
  | .ref i => match lstAt h i with
    | some ds => .ok ⟨enumD 0 ds, pinL i ds⟩ h
    | none => .bad
  | _ => .bad
/-- a new pair -/
theorem pair_new {x y : V} {d e : D} {T : Addr} (rh : RelH (cf X ca) m h H) (nT : H T = none) (r1 : RelD X.K m h.length H d x) (r2 : RelD X.K m h.length H e y) :
    To (cf X ca) h.length m H m h (upd H T (.tup [x, y])) ∧ RelD X.K m h.length (upd H T (.tup [x, y])) (.tup [d, e]) (.ref T) := by
  have to := To.new (c := cf X ca) rh (u := .tup [x, y]) nT
  exact ⟨to, T, [x, y], rfl, .of upd_same, x, [y], rfl, to.d rh r1, y, [], rfl, to.d rh r2, rfl⟩
theorem isIt_enT {ds : List D} {a : Addr} {xs : List V} (rh : RelH (cf X ca) m h H) (s : SqT X.K H a xs) (t : RelDs X.K m h.length H ds xs) : IsIt X ca m h H (fixS (enumD 0 ds)) (IteT X.K a) := by
  refine ⟨fun k d m2 h2 H2 to _ e => ?_, fun k m2 h2 H2 to _ e => ?_⟩
  · have e' : (enumD 0 ds)[k]? = some d := e
    rw [enumD_get] at e'
    cases q : ds[k]? with
    | none => rw [q] at e'; cases e'
    | some d0 =>
      rw [q] at e'
      have ed : D.tup [.int ((0 + k : Nat) : Int), d0] = d := Option.some.inj e'
      rw [Nat.zero_add] at ed
      have s2 := to.ext.sqT rh s
      obtain ⟨x, ex, rx⟩ := (to.ds rh t).get q
      refine ⟨⟨xs, x, s2, ex⟩, fun y H3 ⟨T, x', ey, nT, e3, q3⟩ => ?_⟩
      have : x' = x := Option.some.inj ((q3 xs s2).symm.trans ex)
      subst this e3 ey ed
      exact pair_new to.rel nT rfl rx
  · have e' : (enumD 0 ds).length ≤ k := e
    rw [enumD_length] at e'
    exact ⟨xs, to.ext.sqT rh s, by rw [← t.length]; exact e'⟩
theorem isIt_enF {ds : List D} {a : Addr} {xs : List V} (rh : RelH (cf X ca) m h H) (s : FrL X.K H a xs) (t : RelDs X.K m h.length H ds xs) : IsIt X ca m h H (fixS (enumD 0 ds)) (Ite X.K a) := by
  refine ⟨fun k d m2 h2 H2 to _ e => ?_, fun k m2 h2 H2 to _ e => ?_⟩
  · have e' : (enumD 0 ds)[k]? = some d := e
    rw [enumD_get] at e'
    cases q : ds[k]? with
    | none => rw [q] at e'; cases e'
    | some d0 =>
      rw [q] at e'
      have ed : D.tup [.int ((0 + k : Nat) : Int), d0] = d := Option.some.inj e'
      rw [Nat.zero_add] at ed
      have s2 := (to.ext.frL rh s).sq
      obtain ⟨x, ex, rx⟩ := (to.ds rh t).get q
      refine ⟨⟨xs, x, s2, ex⟩, fun y H3 ⟨T, x', ey, nT, e3, q3⟩ => ?_⟩
      have : x' = x := Option.some.inj ((q3 xs s2).symm.trans ex)
      subst this e3 ey ed
      exact pair_new to.rel nT rfl rx
  · have e' : (enumD 0 ds).length ≤ k := e
    rw [enumD_length] at e'
    exact ⟨xs, (to.ext.frL rh s).sq, by rw [← t.length]; exact e'⟩
theorem isIt_enL {ds : List D} {i : Nat} (rh : RelH (cf X ca) m h H) (e : lstAt h i = some ds) : IsIt X ca m h H ⟨enumD 0 ds, pinL i ds⟩ (Ite X.K (m i)) := by
  have hi : i < h.length := (List.getElem?_eq_some_iff.mp (lstAt_eq e)).1
  refine ⟨fun k d m2 h2 H2 to pin e => ?_, fun k m2 h2 H2 to pin e => ?_⟩
  · have e' : (enumD 0 ds)[k]? = some d := e
    rw [enumD_get] at e'
    cases q : ds[k]? with
    | none => rw [q] at e'; cases e'
    | some d0 =>
      rw [q] at e'
      have ed : D.tup [.int ((0 + k : Nat) : Int), d0] = d := Option.some.inj e'
      rw [Nat.zero_add] at ed
      obtain ⟨xs, ex, t⟩ := lstAt_of to.rel (pinL_eq pin)
      have s2 : SqL X.K H2 (m i) xs := .of (by rw [← to.ext.ag i hi]; exact ex)
      obtain ⟨x, ex2, rx⟩ := t.get q
      refine ⟨⟨xs, x, s2, ex2⟩, fun y H3 ⟨T, x', ey, nT, e3, q3⟩ => ?_⟩
      have : x' = x := Option.some.inj ((q3 xs s2).symm.trans ex2)
      subst this e3 ey ed
      exact pair_new to.rel nT rfl rx
  · have e' : (enumD 0 ds).length ≤ k := e
    rw [enumD_length] at e'
    obtain ⟨xs, ex, t⟩ := lstAt_of to.rel (pinL_eq pin)
    exact ⟨xs, .of (by rw [← to.ext.ag i hi]; exact ex), by rw [← t.length]; exact e'⟩
theorem isIt_enS (z : Str) : IsIt X ca m h H (fixS (enumD 0 (signsD z))) (IteS z) := by
  refine ⟨fun k d m2 h2 H2 to _ e => ?_, fun k m2 h2 H2 to _ e => ?_⟩
  · have e' : (enumD 0 (signsD z))[k]? = some d := e
    rw [enumD_get] at e'
    unfold signsD at e'
    rw [List.getElem?_map] at e'
    cases q : z.cps.toList[k]? with
    | none => rw [q] at e'; cases e'
    | some c =>
      rw [q] at e'
      have ed : D.tup [.int ((0 + k : Nat) : Int), .str ⟨#[c]⟩] = d := Option.some.inj e'
      rw [Nat.zero_add] at ed
      have hk : k < z.cps.size := by
        have := (List.getElem?_eq_some_iff.mp q).1
        rwa [Array.length_toList] at this
      refine ⟨hk, fun y H3 ⟨T, c', ey, nT, ec, e3⟩ => ?_⟩
      have : c' = c := by
        rw [← Array.getElem?_toList, q] at ec
        exact (Option.some.inj ec).symm
      subst this e3 ey ed
      exact pair_new to.rel nT rfl rfl
  · have e' : (enumD 0 (signsD z)).length ≤ k := e
    rw [enumD_length] at e'
    unfold signsD at e'
    rw [List.length_map, Array.length_toList] at e'
    exact e'
theorem iv_enum {e : Expr} {elts : List Expr} {kk : Nat} {tpos p : Pos} {f : Sl → M D} (hg : Gl X "enumerate") (hm : X.mg "enumerate" = none) (he : EV X ca W e f) (hs : starEach [e] X.env = [(false, eval e X.env)] := by rfl) (hs2 : starEach (e :: []) X.env = (false, eval e X.env) :: starEach [] X.env := by rfl) :
    IV X ca W (.Tuple elts kk tpos) (.Call (.Name "enumerate" p) [e] [] pos) (fun sd => bnd (f sd) srcEn) := by
  refine PI.imp (pi_enumA hg hm he hs hs2) fun σ H R ⟨m, sd, h, c, p⟩ => ?_
  obtain ⟨m0, sd0, h0, c0, p0⟩ := tG_bnd (R := RD X) (f := f) (R2 := RIt X ca) c p
  refine ⟨m0, sd0, h0, c0, p0.imp fun x H1 ⟨d, m1, h1, a1, c1, r1, p1⟩ => ?_⟩
  cases d with
  | tup ds =>
    obtain ⟨a, xs, e, s, t⟩ := r1
    exact .inr (.inl ⟨a, xs, e, s, PostG.it c1.rel (isIt_enT c1.rel s t) p1⟩)
  | frl ds =>
    obtain ⟨a, xs, e, s, t⟩ := r1
    exact .inl ⟨a, xs, e, s.sq, PostG.it c1.rel (isIt_enF c1.rel s t) p1⟩
  | str z => exact .inr (.inr ⟨z, r1, PostG.it c1.rel (isIt_enS z) p1⟩)
  | ref i =>
    have p2 : PostG X ca W σ (RIt X ca) h1.length m1 H1 (match lstAt h1 i with
      | some ds => .ok ⟨enumD 0 ds, pinL i ds⟩ h1
      | none => .bad) R := p1
    cases z : lstAt h1 i with
    | none => rw [z] at p2; exact p2.elim
    | some ds =>
      rw [z] at p2
      obtain ⟨xs, ex, t⟩ := lstAt_of c1.rel z
      exact .inl ⟨m1 i, xs, r1.2, .of ex, PostG.it c1.rel (isIt_enL c1.rel z) p2⟩
  | _ => exact p1.elim

/-! ### comprehensions -/
def wipeD (sd : Sl) : List Nat → Sl
  | [] => sd
  | v :: vs => (wipeD sd vs).set v none
def condT : Sl → M Bool := fun _ => ret true
/-- [elt for t in .. if cond]: its items -/
def compF (t : Tg) (pin : Hh → Bool) (cond : Sl → M Bool) (elt : Sl → M D) (sd : Sl) : List D → List D → M (List D)
  | [], acc => fun h => if pin h = true then .ok acc h else .bad
  | d :: ds, acc => fun h => if pin h = true then match t.fn d sd with
    | none => .bad
    | some sd1 => match cond sd1 h with
      | .ok true h1 => match elt sd1 h1 with
        | .ok y h2 => if acc.length < LL then compF t pin cond elt sd ds (acc ++ [y]) h2 else .bad
        | _ => .bad
      | .ok false h1 => compF t pin cond elt sd ds acc h1
      | _ => .bad
    else .bad
def compS (s : Sl → M Src) (t : Tg) (vs : List Nat) (cond : Sl → M Bool) (elt : Sl → M D) : Sl → M (List D) := fun sd => bnd (s sd) fun s => compF t s.pin cond elt (wipeD sd vs) s.items []
end
end Ev
set_option Elab.async false
set_option linter.all false
set_option maxRecDepth 100000
set_option maxHeartbeats 2000000
namespace Ev
open PySem PySem.Spec L2
open PyProof.Rows hiding St

section
variable {K : PySem.W.Frag} {m m' : Nat → Addr} {n n' : Nat} {H H' : Hp}
mutual
theorem RelD.imm (ht : ∀ a xs, H a = some (.tup xs) → H' a = some (.tup xs)) (hf : ∀ a o u, H a = some (.frz o u) → H' a = some (.frz o u)) : ∀ {d : D} {v : V}, RelD K m n H d v → RelD K m n H' d v
  | .non, _, q => q
  | .bl _, _, q => q
  | .int _, _, q => q
  | .str _, _, q => q
  | .tup ds, _, q => by
    obtain ⟨a, xs, e, s, t⟩ := q
    refine ⟨a, xs, e, ?_, RelDs.imm ht hf t⟩
    rcases s with (s | ⟨o, s⟩) | s
    · exact .inl (.inl (ht _ _ s))
    · exact .inl (.inr ⟨o, hf _ _ _ s⟩)
    · exact .inr s
  | .frl ds, _, q => by
    obtain ⟨a, xs, e, s, t⟩ := q
    refine ⟨a, xs, e, ?_, RelDs.imm ht hf t⟩
    rcases s with ⟨o, s⟩ | s
    · exact .inl ⟨o, hf _ _ _ s⟩
    · exact .inr s
  | .ref i, _, q => q
  | .exc _ _ _, _, q => q.elim
theorem RelDs.imm (ht : ∀ a xs, H a = some (.tup xs) → H' a = some (.tup xs)) (hf : ∀ a o u, H a = some (.frz o u) → H' a = some (.frz o u)) : ∀ {ds : List D} {vs : List V}, RelDs K m n H ds vs → RelDs K m n H' ds vs
  | [], _, q => q
  | d :: ds, _, q => by
    obtain ⟨x, xs, e, q1, q2⟩ := q
    exact ⟨x, xs, e, RelD.imm ht hf q1, RelDs.imm ht hf q2⟩
end
theorem RelFs.imm (ht : ∀ a xs, H a = some (.tup xs) → H' a = some (.tup xs)) (hf : ∀ a o u, H a = some (.frz o u) → H' a = some (.frz o u)) : ∀ {ds : List (Str × D)} {vs : List (Str × V)}, RelFs K m n H ds vs → RelFs K m n H' ds vs
  | [], _, q => q
  | d :: ds, _, q => by
    obtain ⟨x, xs, e, q1, q2⟩ := q
    exact ⟨x, xs, e, q1.imm ht hf, RelFs.imm ht hf q2⟩
theorem RelKs.imm (ht : ∀ a xs, H a = some (.tup xs) → H' a = some (.tup xs)) (hf : ∀ a o u, H a = some (.frz o u) → H' a = some (.frz o u)) : ∀ {ds : List (Key × D)} {vs : List (Key × V)}, RelKs K m n H ds vs → RelKs K m n H' ds vs
  | [], _, q => q
  | d :: ds, _, q => by
    obtain ⟨x, xs, e, q1, q2⟩ := q
    exact ⟨x, xs, e, q1.imm ht hf, RelKs.imm ht hf q2⟩
theorem RelNs.imm (ht : ∀ a xs, H a = some (.tup xs) → H' a = some (.tup xs)) (hf : ∀ a o u, H a = some (.frz o u) → H' a = some (.frz o u)) : ∀ {ds : List (D × D)} {vs : List (NestedKey × Addr × Value)}, RelNs K m n H ds vs → RelNs K m n H' ds vs
  | [], _, q => q
  | d :: ds, _, q => by
    obtain ⟨k, b, u, v, zs, e, q1, q2, q3, q4, q5⟩ := q
    exact ⟨k, b, u, v, zs, e, q1, q2.imm ht hf, q3.imm ht hf, q4, RelNs.imm ht hf q5⟩
end
section
variable {X : Cx} {ca : Str → Addr} {m m' : Nat → Addr} {h h' : Hh} {H H' : Hp} {sd : Sl} {σ : St} {W : WX} {pos : Pos} {tg : Expr} {c : Cf}
/-- an address that the pure heap does not know -/
def Out (m : Nat → Addr) (n : Nat) (p : Addr) : Prop := ∀ i, i < n → m i ≠ p
theorem upd_imm' {p : Addr} {u0 u : HO} (e : H p = some u0) (t0 : Trk u0) : (∀ a ys, H a = some (.tup ys) → upd H p u a = some (.tup ys)) ∧ ∀ a o v, H a = some (.frz o v) → upd H p u a = some (.frz o v) :=
  ⟨fun a ys q => by rw [upd_ne fun z => by rw [z, e] at q; cases q; exact t0]; exact q, fun a o v q => by rw [upd_ne fun z => by rw [z, e] at q; cases q; exact t0]; exact q⟩
theorem upd_imm {p : Addr} {xs : List V} {u : HO} (e : H p = some (.lst xs)) : (∀ a ys, H a = some (.tup ys) → upd H p u a = some (.tup ys)) ∧ ∀ a o v, H a = some (.frz o v) → upd H p u a = some (.frz o v) := upd_imm' e trivial
theorem RelH.side' (r : RelH c m h H) {p : Addr} {u0 u : HO} (e : H p = some u0) (t0 : Trk u0) (o : Out m h.length p) : RelH c m h (upd H p u) := by
  obtain ⟨ht, hf⟩ := upd_imm' (u := u) e t0
  refine ⟨fun i ob q => ?_, r.inj⟩
  have hi : i < h.length := (List.getElem?_eq_some_iff.mp q).1
  have s : upd H p u (m i) = H (m i) := upd_ne (o i hi)
  have q2 := r.ob i ob q
  cases ob with
  | lst ds => obtain ⟨xs, e, t⟩ := q2; exact ⟨xs, s.trans e, t.imm ht hf⟩
  | dic ds => obtain ⟨xs, e, t⟩ := q2; exact ⟨xs, s.trans e, t.imm ht hf⟩
  | dik ds => obtain ⟨xs, e, t⟩ := q2; exact ⟨xs, s.trans e, t.imm ht hf⟩
  | ins k fs => obtain ⟨dx, xs, e, t⟩ := q2; exact ⟨dx, xs, s.trans e, t.imm ht hf⟩
theorem RelH.side (r : RelH c m h H) {p : Addr} {xs : List V} {u : HO} (e : H p = some (.lst xs)) (o : Out m h.length p) : RelH c m h (upd H p u) := r.side' e trivial o
/-- an object of ours that is not of the pure heap is changed -/
theorem To.side' {n : Nat} (a : To c n m H m' h' H') {p : Addr} {u0 u : HO} (n0 : H p = none) (e : H' p = some u0) (t0 : Trk u0) (o : Out m' h'.length p) : To c n m H m' h' (upd H' p u) :=
  ⟨⟨a.ext.ag, a.ext.nw, fun x ob q z => by rw [upd_ne (ne_of_none q n0)]; exact a.ext.fr x ob q z⟩, a.le, a.rel.side' e t0 o⟩
theorem To.side {n : Nat} (a : To c n m H m' h' H') {p : Addr} {xs : List V} {u : HO} (n0 : H p = none) (e : H' p = some (.lst xs)) (o : Out m' h'.length p) : To c n m H m' h' (upd H' p u) := a.side' n0 e trivial o
theorem To.none_of (a : To c h.length m H m' h' H') {p : Addr} (q : H' p = none) : H p = none := by
  cases e : H p with
  | none => rfl
  | some o =>
    by_cases z : ∃ i, i < h.length ∧ m i = p
    · obtain ⟨i, hi, rfl⟩ := z
      obtain ⟨u, eu⟩ := a.rel.tr i (Nat.lt_of_lt_of_le hi a.le)
      rw [a.ext.ag i hi, q] at eu
      cases eu
    · rw [a.ext.fr p o e fun i hi ei => z ⟨i, hi, ei⟩] at q
      cases q
/-- it stays so over a step -/
theorem To.out (a : To c h.length m H m' h' H') {p : Addr} {u : HO} (e : H p = some u) (o : Out m h.length p) : H' p = some u ∧ Out m' h'.length p := by
  refine ⟨a.ext.fr p u e o, fun i hi z => ?_⟩
  by_cases hn : i < h.length
  · rw [a.ext.ag i hn] at z
    exact o i hn z
  · have q := a.ext.nw i (Nat.le_of_not_lt hn) hi
    rw [z, e] at q
    cases q
theorem out_new (r : RelH c m h H) {p : Addr} (n0 : H p = none) : Out m h.length p := fun i hi z => by
  obtain ⟨u, eu⟩ := r.tr i hi
  rw [z, n0] at eu
  cases eu
theorem RelSl.wipe {n : Nat} (q : RelSl X ca m n H sd σ) : ∀ vs : List Nat, RelSl X ca m n H (wipeD sd vs) (wipe σ vs)
  | [] => q
  | v :: vs => (RelSl.wipe q vs).clear v
theorem wipe_get (σ : St) (j : Nat) : ∀ vs : List Nat, (wipe σ vs)[j]? = if j ∈ vs then (if j < σ.length then some none else none) else σ[j]?
  | [] => by simp [wipe]
  | v :: vs => by
    unfold wipe
    by_cases e : v = j
    · subst e
      by_cases hl : v < σ.length
      · rw [List.getElem?_set_self (by rw [wipe_length]; exact hl)]
        simp [hl]
      · rw [List.getElem?_eq_none (by rw [List.length_set, wipe_length]; omega)]
        simp [hl]
    · rw [List.getElem?_set_ne e, wipe_get σ j vs]
      simp [Ne.symm e]
theorem wipe_same {σ σ' : St} {vs ix : List Nat} (s : SameSl ix (wipe σ vs) σ') (hx : ∀ j, j ∈ ix → j ∈ vs) : wipe σ' vs = wipe σ vs := by
  have hl : σ'.length = σ.length := by rw [s.1, wipe_length]
  apply List.ext_getElem?
  intro j
  rw [wipe_get, wipe_get, hl]
  by_cases hj : j ∈ vs
  · rw [if_pos hj, if_pos hj]
  · rw [if_neg hj, if_neg hj]
    have := s.2 j fun z => hj (hx j z)
    rw [this, wipe_get, if_neg hj]
theorem RelSl.cx {Y : Cx} {n : Nat} (hK : Y.K = X.K) (hc : X.calm = true) (q : RelSl X ca m n H sd σ) : RelSl Y ca m n H sd σ :=
  ⟨q.len, fun i d e => by
    obtain ⟨v, e1, e2⟩ := q.at_ i d e
    refine ⟨v, e1, .inl ?_⟩
    rw [hK]
    rcases e2 with e2 | e2
    · exact e2
    · cases d with
      | exc k ns vs =>
        have z : X.calm = false := e2.1
        rw [hc] at z
        cases z
      | _ => exact e2.elim⟩
abbrev W0 : WX := fun _ _ _ _ => False
/-- a new list, not of the pure heap, of such items -/
def RFl (X : Cx) (H0 : Hp) : (Nat → Addr) → Nat → Hp → List D → V → Prop := fun m n H ds v => ∃ p xs, v = .ref p ∧ H0 p = none ∧ H p = some (.lst xs) ∧ Out m n p ∧ RelDs X.K m n H ds xs
def tCV (X : Cx) (ca : Str → Addr) (W : WX) (f : Sl → M (List D)) : TE := fun σ H Q => tG X ca W (RFl X H) f σ H Q
abbrev CV (X : Cx) (ca : Str → Addr) (W : WX) (e : Expr) (f : Sl → M (List D)) : Prop := PE X e (tCV X ca W f)
abbrev NV (X : Cx) (ca : Str → Addr) (ifs : List Expr) (f : Sl → M Bool) : Prop := PTs X ifs (tG X ca W0 RB f)
theorem nv_nil : NV X ca [] condT := ⟨fun pins s σ H Q I ⟨m, sd, h, c, p⟩ => pts_nil.run pins s σ H Q I (p m H true (.refl c.rel) rfl)⟩
theorem nv_one {e : Expr} {f : Sl → M Bool} (he : TV X ca W0 e f) : NV X ca [e] f := pts_one he
theorem cv_lc {elt iter : Expr} {ifs : List Expr} {scope : Scope} {own : List (Str × Nat)} {f : Sl → M Src} {t : Tg} {cond : Sl → M Bool} {g : Sl → M D} (hc : X.calm = true) (hN : X.N.Nodup) (hi : IV X ca W tg iter f) (ok : BlkOk X.N X.env.scope scope own)
    (hg : ∀ (s : Shared) (H : Hp) (C : Addr) (cl : List (Str × Addr)) (fp : List Addr), GV (X.blk s H scope (compEnvC scope cl C X.env) fp) ca tg t)
    (ht : ∀ (s : Shared) (H : Hp) (C : Addr) (cl : List (Str × Addr)) (fp : List Addr), NV (X.blk s H scope (compEnvC scope cl C X.env) fp) ca ifs cond)
    (he : ∀ (s : Shared) (H : Hp) (C : Addr) (cl : List (Str × Addr)) (fp : List Addr), EV (X.blk s H scope (compEnvC scope cl C X.env) fp) ca W0 elt g)
    (hix : ∀ j, j ∈ t.ix → j ∈ own.map (·.2) := by decide) (hs : ∀ x, foldedSetIterable iter X.env x = pure x := by intro _; rfl) : CV X ca W (.ListComp elt [⟨tg, iter, ifs, 0⟩] scope pos) (compS f t (own.map (·.2)) cond g) := by
  have cxb : ∀ {s : Shared} {H0 : Hp} {C : Addr} {cl : List (Str × Addr)} {fp : List Addr} {m : Nat → Addr} {h : Hh} {H : Hp} {sd : Sl} {σ : St}, Cu X ca m h H sd σ → Cu (X.blk s H0 scope (compEnvC scope cl C X.env) fp) ca m h H sd σ := fun {s H0 C cl fp m h H sd σ} c => ⟨c.rel, RelSl.cx (X := X) (Y := X.blk s H0 scope (compEnvC scope cl C X.env) fp) rfl hc c.sl⟩
  have cxb' : ∀ {s : Shared} {H0 : Hp} {C : Addr} {cl : List (Str × Addr)} {fp : List Addr} {m : Nat → Addr} {n : Nat} {H : Hp} {sd : Sl} {σ : St}, RelSl (X.blk s H0 scope (compEnvC scope cl C X.env) fp) ca m n H sd σ → RelSl X ca m n H sd σ := fun {s H0 C cl fp m n H sd σ} c => RelSl.cx (X := X.blk s H0 scope (compEnvC scope cl C X.env) fp) (Y := X) rfl hc c
  refine PE.imp (pe_lc (wi := tIt X ca W f) (g := tGt X ca t) (tt := tG X ca W0 RB cond) (te := tG X ca W0 (RD X) g) hc hN hi ok
    (fun s H C cl fp => PG.imp (hg s H C cl fp) fun v σ H Q ⟨m, sd, h, d, sd', c, r, e, q⟩ => ⟨m, sd, h, d, sd', cxb c, r, e, fun σ' rs ss => q σ' (cxb' rs) ss⟩)
    (fun s H C cl fp => ⟨fun pins s' σ H' Q I ⟨m, sd, h, c, p⟩ => (ht s H C cl fp).run pins s' σ H' Q I ⟨m, sd, h, cxb c, p⟩⟩)
    (fun s H C cl fp => PE.imp (he s H C cl fp) fun σ H Q ⟨m, sd, h, c, p⟩ => ⟨m, sd, h, cxb c, p⟩) hs) fun σ H Q ⟨m, sd, h, c, p⟩ => ?_
  obtain ⟨m0, sd0, h0, c0, p0⟩ := tG_bnd (R := RIt X ca) (f := f) (R2 := RFl X H) c p
  refine ⟨m0, sd0, h0, c0, p0.imp fun J H1 ⟨s, m1, h1, a1, c1, ⟨h1', e1, r1⟩, p1⟩ => ?_⟩
  obtain ⟨items, pin⟩ := s
  intro D nD
  have nD0 : H D = none := a1.none_of nD
  have b0 : To (cf X ca) h1.length m1 H1 m1 h1 (upd H1 D (.lst [])) := .new c1.rel nD
  refine ⟨fun i mm H2 => mm = items.length - i ∧ i ≤ items.length ∧ ∃ m2 h2 acc xs, To (cf X ca) h1.length m1 H1 m2 h2 H2 ∧ H2 D = some (.lst xs) ∧ Out m2 h2.length D ∧ RelDs X.K m2 h2.length H2 acc xs ∧
    PostG X ca W σ (RFl X H) h1.length m1 H1 (compF t pin cond g (wipeD sd (own.map (·.2))) (items.drop i) acc h2) Q,
    ⟨items.length, by simp, Nat.zero_le _, m1, h1, [], [], b0, upd_same, out_new c1.rel nD, rfl, p1⟩, ?_⟩
  rintro i mm H2 ⟨rfl, hi', m2, h2, acc, xs, a2, eD, oD, rA, p2⟩
  have a2' : To (cf X ca) h1'.length m1 H1 m2 h2 H2 := by rw [e1]; exact a2
  by_cases hlt : i < items.length
  · right
    rw [List.drop_eq_getElem_cons hlt] at p2
    have p3 : PostG X ca W σ (RFl X H) h1.length m1 H1 (if pin h2 = true then match t.fn items[i] (wipeD sd (own.map (·.2))) with
      | none => .bad
      | some sd1 => match cond sd1 h2 with
        | .ok true h1 => match g sd1 h1 with
          | .ok y h2 => if acc.length < LL then compF t pin cond g (wipeD sd (own.map (·.2))) (items.drop (i + 1)) (acc ++ [y]) h2 else .bad
          | _ => .bad
        | .ok false h1 => compF t pin cond g (wipeD sd (own.map (·.2))) (items.drop (i + 1)) acc h1
        | _ => .bad
      else .bad) Q := p2
    by_cases hpin : pin h2 = true
    · rw [if_pos hpin] at p3
      obtain ⟨g1, g2⟩ := r1.go i items[i] m2 h2 H2 a2' hpin (List.getElem?_eq_getElem hlt)
      refine ⟨g1, fun H' => ∃ m2 h2 acc xs, To (cf X ca) h1.length m1 H1 m2 h2 H' ∧ H' D = some (.lst xs) ∧ Out m2 h2.length D ∧ RelDs X.K m2 h2.length H' acc xs ∧
        PostG X ca W σ (RFl X H) h1.length m1 H1 (compF t pin cond g (wipeD sd (own.map (·.2))) (items.drop (i + 1)) acc h2) Q, fun H' q => ⟨items.length - (i + 1), by omega, rfl, hlt, q⟩, fun x H3 y => ?_⟩
      obtain ⟨a3, r3⟩ := g2 x H3 y
      have c3 : Cu X ca m2 h2 H3 (wipeD sd (own.map (·.2))) (wipe σ (own.map (·.2))) := by
        have c2 : Cu X ca m2 h2 H2 sd σ := c1.to a2
        have c3 := c2.to a3
        exact ⟨c3.rel, c3.sl.wipe _⟩
      obtain ⟨eD3, oD3⟩ := a3.out eD oD
      have rA3 := a3.ds a2.rel rA
      have p3 : PostG X ca W σ (RFl X H) h1.length m1 H1 (match t.fn items[i] (wipeD sd (own.map (·.2))) with
        | none => .bad
        | some sd1 => match cond sd1 h2 with
          | .ok true h1 => match g sd1 h1 with
            | .ok y h2 => if acc.length < LL then compF t pin cond g (wipeD sd (own.map (·.2))) (items.drop (i + 1)) (acc ++ [y]) h2 else .bad
            | _ => .bad
          | .ok false h1 => compF t pin cond g (wipeD sd (own.map (·.2))) (items.drop (i + 1)) acc h1
          | _ => .bad) Q := p3
      cases z : t.fn items[i] (wipeD sd (own.map (·.2))) with
      | none => rw [z] at p3; exact p3.elim
      | some sd1 =>
        rw [z] at p3
        refine ⟨m2, _, h2, items[i], sd1, c3, r3, z, fun σ4 s4 ss => ⟨wipe_same ss hix, m2, sd1, h2, ⟨c3.rel, s4⟩, ?_⟩⟩
        have c4 : Cu X ca m2 h2 H3 sd1 σ4 := ⟨c3.rel, s4⟩
        have p4 : PostG X ca W σ (RFl X H) h1.length m1 H1 (match cond sd1 h2 with
          | .ok true h1 => match g sd1 h1 with
            | .ok y h2 => if acc.length < LL then compF t pin cond g (wipeD sd (own.map (·.2))) (items.drop (i + 1)) (acc ++ [y]) h2 else .bad
            | _ => .bad
          | .ok false h1 => compF t pin cond g (wipeD sd (own.map (·.2))) (items.drop (i + 1)) acc h1
          | _ => .bad) Q := p3
        cases e4 : cond sd1 h2 with
        | bad => rw [e4] at p4; exact p4.elim
        | exn _ _ _ _ => rw [e4] at p4; exact p4.elim
        | ok b h3 =>
          rw [e4] at p4
          intro m4 H4 v a4 ev
          have ev' : v = b := ev
          subst ev'
          obtain ⟨eD4, oD4⟩ := a4.out eD3 oD3
          have rA4 := a4.ds a3.rel rA3
          have base4 : To (cf X ca) h1.length m1 H1 m4 h3 H4 := (a2.trans a3).trans a4
          cases v with
          | false => exact ⟨m4, h3, acc, xs, base4, eD4, oD4, rA4, p4⟩
          | true =>
            refine ⟨m4, sd1, h3, c4.to a4, ?_⟩
            have p5 : PostG X ca W σ (RFl X H) h1.length m1 H1 (match g sd1 h3 with
              | .ok y h2 => if acc.length < LL then compF t pin cond g (wipeD sd (own.map (·.2))) (items.drop (i + 1)) (acc ++ [y]) h2 else .bad
              | _ => .bad) Q := p4
            cases e5 : g sd1 h3 with
            | bad => rw [e5] at p5; exact p5.elim
            | exn _ _ _ _ => rw [e5] at p5; exact p5.elim
            | ok y h5 =>
              rw [e5] at p5
              intro m5 H5 v5 a5 r5
              obtain ⟨eD5, oD5⟩ := a5.out eD4 oD4
              have rA5 := a5.ds a4.rel rA4
              have base5 := base4.trans a5
              have p6 : PostG X ca W σ (RFl X H) h1.length m1 H1 (if acc.length < LL then compF t pin cond g (wipeD sd (own.map (·.2))) (items.drop (i + 1)) (acc ++ [y]) h5 else .bad) Q := p5
              by_cases hz : acc.length < LL
              · rw [if_pos hz] at p6
                obtain ⟨it, ifz⟩ := upd_imm (u := .lst (xs ++ [v5])) eD5
                exact ⟨xs, eD5, by rw [sizeLine_eq, ← rA5.length]; exact hz, m5, h5, acc ++ [y], xs ++ [v5], base5.side nD eD5 oD5, upd_same, oD5, (rA5.append (.one r5)).imm it ifz, p6⟩
              · rw [if_neg hz] at p6
                exact p6.elim
    · rw [if_neg hpin] at p3
      exact p3.elim
  · left
    have e : i = items.length := by omega
    subst e
    rw [List.drop_length] at p2
    have p3 : PostG X ca W σ (RFl X H) h1.length m1 H1 (if pin h2 = true then .ok acc h2 else .bad) Q := p2
    by_cases hpin : pin h2 = true
    · rw [if_pos hpin] at p3
      exact ⟨r1.stop _ m2 h2 H2 a2' hpin (Nat.le_refl _), p3 m2 H2 (.ref D) a2 ⟨D, xs, rfl, nD0, eD, oD, rA⟩⟩
    · rw [if_neg hpin] at p3
      exact p3.elim
mutual
theorem RelD.grow {K : PySem.W.Frag} {n n' : Nat} (ag : ∀ i, i < n → m' i = m i) (le : n ≤ n') : ∀ {d : D} {v : V}, RelD K m n H d v → RelD K m' n' H d v
  | .non, _, q => q
  | .bl _, _, q => q
  | .int _, _, q => q
  | .str _, _, q => q
  | .tup ds, _, q => by
    obtain ⟨a, xs, e, s, t⟩ := q
    exact ⟨a, xs, e, s, RelDs.grow ag le t⟩
  | .frl ds, _, q => by
    obtain ⟨a, xs, e, s, t⟩ := q
    exact ⟨a, xs, e, s, RelDs.grow ag le t⟩
  | .ref i, _, q => ⟨Nat.lt_of_lt_of_le q.1 le, by rw [ag i q.1]; exact q.2⟩
  | .exc _ _ _, _, q => q.elim
theorem RelDs.grow {K : PySem.W.Frag} {n n' : Nat} (ag : ∀ i, i < n → m' i = m i) (le : n ≤ n') : ∀ {ds : List D} {vs : List V}, RelDs K m n H ds vs → RelDs K m' n' H ds vs
  | [], _, q => q
  | d :: ds, _, q => by
    obtain ⟨x, xs, e, q1, q2⟩ := q
    exact ⟨x, xs, e, RelD.grow ag le q1, RelDs.grow ag le q2⟩
end
theorem RelFs.grow {K : PySem.W.Frag} {n n' : Nat} (ag : ∀ i, i < n → m' i = m i) (le : n ≤ n') : ∀ {ds : List (Str × D)} {vs : List (Str × V)}, RelFs K m n H ds vs → RelFs K m' n' H ds vs
  | [], _, q => q
  | d :: ds, _, q => by
    obtain ⟨x, xs, e, q1, q2⟩ := q
    exact ⟨x, xs, e, q1.grow ag le, RelFs.grow ag le q2⟩
theorem RelKs.grow {K : PySem.W.Frag} {n n' : Nat} (ag : ∀ i, i < n → m' i = m i) (le : n ≤ n') : ∀ {ds : List (Key × D)} {vs : List (Key × V)}, RelKs K m n H ds vs → RelKs K m' n' H ds vs
  | [], _, q => q
  | d :: ds, _, q => by
    obtain ⟨x, xs, e, q1, q2⟩ := q
    exact ⟨x, xs, e, q1.grow ag le, RelKs.grow ag le q2⟩
theorem RelNs.grow {K : PySem.W.Frag} {n n' : Nat} (ag : ∀ i, i < n → m' i = m i) (le : n ≤ n') : ∀ {ds : List (D × D)} {vs : List (NestedKey × Addr × Value)}, RelNs K m n H ds vs → RelNs K m' n' H ds vs
  | [], _, q => q
  | d :: ds, _, q => by
    obtain ⟨k, b, u, v, zs, e, q1, q2, q3, q4, q5⟩ := q
    exact ⟨k, b, u, v, zs, e, q1, q2.grow ag le, q3.grow ag le, q4, RelNs.grow ag le q5⟩
theorem RelO.grow {n n' : Nat} {a : Addr} (ag : ∀ i, i < n → m' i = m i) (le : n ≤ n') {o : O} (q : RelO c m n H a o) : RelO c m' n' H a o := by
  cases o with
  | lst ds => obtain ⟨xs, e, t⟩ := q; exact ⟨xs, e, t.grow ag le⟩
  | dic ds => obtain ⟨xs, e, t⟩ := q; exact ⟨xs, e, t.grow ag le⟩
  | dik ds => obtain ⟨xs, e, t⟩ := q; exact ⟨xs, e, t.grow ag le⟩
  | ins k fs => obtain ⟨dx, xs, e, t⟩ := q; exact ⟨dx, xs, e, t.grow ag le⟩
/-- an object that stands already comes to the pure heap -/
theorem To.adopt {n : Nat} (a : To c n m H m' h' H') {p : Addr} {o : O} (n0 : H p = none) (ot : Out m' h'.length p) (r : RelO c m' h'.length H' p o) :
    ∃ m2, To c n m H m2 (h' ++ [o]) H' ∧ m2 h'.length = p ∧ ∀ i, i < h'.length → m2 i = m' i := by
  refine ⟨fun i => if i = h'.length then p else m' i, ?_, if_pos rfl, fun i hi => if_neg (Nat.ne_of_lt hi)⟩
  have ag : ∀ i, i < h'.length → (if i = h'.length then p else m' i) = m' i := fun i hi => if_neg (Nat.ne_of_lt hi)
  have hlen : (h' ++ [o]).length = h'.length + 1 := by rw [List.length_append]; rfl
  refine ⟨⟨fun i hi => (ag i (Nat.lt_of_lt_of_le hi a.le)).trans (a.ext.ag i hi), fun i h1 h2 => ?_, a.ext.fr⟩, by rw [hlen]; exact Nat.le_succ_of_le a.le, fun i ob e => ?_, fun i j hi hj e => ?_⟩
  · rw [hlen] at h2
    by_cases hi : i < h'.length
    · show H (if i = h'.length then p else m' i) = none
      rw [ag i hi]
      exact a.ext.nw i h1 hi
    · have : i = h'.length := by omega
      show H (if i = h'.length then p else m' i) = none
      rw [if_pos this]
      exact n0
  · rw [hlen]
    by_cases hi : i < h'.length
    · rw [List.getElem?_append_left hi] at e
      show RelO c _ _ _ (if i = h'.length then p else m' i) ob
      rw [ag i hi]
      exact (a.rel.ob i ob e).grow ag (Nat.le_succ _)
    · have e1 : i = h'.length := by
        have := (List.getElem?_eq_some_iff.mp e).1
        rw [hlen] at this
        omega
      subst e1
      rw [List.getElem?_append_right (Nat.le_refl _), Nat.sub_self] at e
      have e2 : o = ob := Option.some.inj e
      subst e2
      show RelO c _ _ _ (if h'.length = h'.length then p else m' h'.length) o
      rw [if_pos rfl]
      exact r.grow ag (Nat.le_succ _)
  · rw [hlen] at hi hj
    have e : (if i = h'.length then p else m' i) = (if j = h'.length then p else m' j) := e
    by_cases h1 : i = h'.length
    · by_cases h2 : j = h'.length
      · omega
      · rw [if_pos h1, if_neg h2] at e
        exact absurd e.symm (ot j (by omega))
    · by_cases h2 : j = h'.length
      · rw [if_neg h1, if_pos h2] at e
        exact absurd e (ot i (by omega))
      · rw [if_neg h1, if_neg h2] at e
        exact a.rel.inj i j (by omega) (by omega) e
/-- a comprehension as a value: its list comes to the pure heap -/
def cLst (f : Sl → M (List D)) : Sl → M D := fun sd => bnd (f sd) fun ds h => .ok (.ref h.length) (h ++ [.lst ds])
theorem ev_cv {e : Expr} {f : Sl → M (List D)} (he : CV X ca W e f) : EV X ca W e (cLst f) := by
  refine PE.imp he fun σ H Q ⟨m, sd, h, c, p⟩ => ⟨m, sd, h, c, ?_⟩
  have p' := p
  unfold cLst bnd at p'
  cases e : f sd h with
  | bad => rw [e] at p'; exact p'.elim
  | exn k ns vs h1 => rw [e] at p'; exact p'
  | ok ds h1 =>
    rw [e] at p'
    rintro m1 H1 v a1 ⟨q, xs, rfl, n0, eq, oq, r⟩
    obtain ⟨m2, a2, e2, _⟩ := a1.adopt (o := .lst ds) n0 oq ⟨xs, eq, r⟩
    exact p' m2 H1 _ a2 ⟨by rw [List.length_append]; exact Nat.lt_succ_self _, by rw [e2]⟩
/-- a built-in called with a comprehension (its list is not of the pure heap) -/
def CallC (X : Cx) (ca : Str → Addr) (W : WX) (f : Value) (g : List D → M D) : Prop :=
  ∃ r : List V → Hp → VK → Prop, CallR X f r ∧ ∀ (σ : St) (m : Nat → Addr) (h : Hh) (H : Hp) (ds : List D) (p : Addr) (xs : List V) (Q : VK), RelH (cf X ca) m h H → H p = some (.lst xs) → RelDs X.K m h.length H ds xs → PostG X ca W σ (RD X) h.length m H (g ds h) Q → r [.ref p] H Q
theorem ev_callCB {f : Sl → M (List D)} {g : List D → M D} {id : String} {x : Str} {p : Pos} {e : Expr} (hc : CallC X ca W (.builtin id) g) (hg : Gl X x) (hm : X.mg x = none) (hv : bootBuiltins x = some (.builtin id)) (ha : CV X ca W e f)
    (hn : x ≠ "__name__" := by decide) (hdb : (x == ("__debug__" : Str)) = false := by decide)
    (he : starEach (e :: []) X.env = (false, eval e X.env) :: starEach [] X.env := by rfl) (hpl : (backTo pos (starEach [] X.env)).any (·.1) = false := by rfl) : EV X ca W (.Call (.Name x p) (e :: []) [] pos) (vCall g f) := by
  obtain ⟨r, hr, hq⟩ := hc
  refine PE.imp (pe_callB hr hg hm hv (pa_cons ha pa_nil he) hn hdb he hpl) fun σ H Q ⟨m, sd, h, c, p⟩ => ?_
  obtain ⟨m0, sd0, h0, c0, p0⟩ := tG_bnd (R := RFl X H) (f := f) (R2 := RD X) c p
  refine ⟨m0, sd0, h0, c0, p0.imp fun v H1 ⟨ds, m1, h1, a1, c1, ⟨q, xs, e, n0, eq, oq, rd⟩, p1⟩ => ?_⟩
  subst e
  exact hq σ m1 h1 H1 ds q xs Q c1.rel eq rd p1
theorem ev_callCT {f : Sl → M (List D)} {g : List D → M D} {T : String} {x : Str} {p : Pos} {e : Expr} (hc : CallC X ca W (.type T) g) (hg : Gl X x) (hm : X.mg x = none) (hv : bootBuiltins x = some (.type T)) (ha : CV X ca W e f)
    (hn : x ≠ "__name__" := by decide) (hdb : (x == ("__debug__" : Str)) = false := by decide)
    (he : starEach (e :: []) X.env = (false, eval e X.env) :: starEach [] X.env := by rfl) (hpl : (backTo pos (starEach [] X.env)).any (·.1) = false := by rfl) : EV X ca W (.Call (.Name x p) (e :: []) [] pos) (vCall g f) := by
  obtain ⟨r, hr, hq⟩ := hc
  refine PE.imp (pe_callTy hr hg hm hv (pa_cons ha pa_nil he) hn hdb he hpl) fun σ H Q ⟨m, sd, h, c, p⟩ => ?_
  obtain ⟨m0, sd0, h0, c0, p0⟩ := tG_bnd (R := RFl X H) (f := f) (R2 := RD X) c p
  refine ⟨m0, sd0, h0, c0, p0.imp fun v H1 ⟨ds, m1, h1, a1, c1, ⟨q, xs, e, n0, eq, oq, rd⟩, p1⟩ => ?_⟩
  subst e
  exact hq σ m1 h1 H1 ds q xs Q c1.rel eq rd p1
def lTuple (ds : List D) : M D := ret (.tup ds)
theorem cc_tuple : CallC X ca W (.type "tuple") lTuple := ⟨_, call_tuple_of, fun σ m h H ds p xs Q rh ep rd q => ⟨p, xs, rfl, .inl ⟨.of ep, fun l nl => tup_in rh rd nl q⟩⟩⟩
def lAll (ds : List D) : M D := match boolsOf ds with
  | some bs => ret (.bl (bs.all id))
  | none => bad
theorem cc_all (hc : X.calm = true) : CallC X ca W (.builtin "all") lAll := ⟨_, cr_all hc, fun σ m h H ds p xs Q rh ep rd q => by
  unfold lAll at q
  cases e : boolsOf ds with
  | none => rw [e] at q; exact q.elim
  | some bs =>
    rw [e] at q
    have ex := bools_rel rd e
    subst ex
    exact ⟨p, bs, rfl, .of ep, PostG.ret (R := RD X) (d := .bl (bs.all id)) rh rfl q⟩⟩
def lAny (ds : List D) : M D := match boolsOf ds with
  | some bs => ret (.bl (bs.any id))
  | none => bad
theorem cc_any (hc : X.calm = true) : CallC X ca W (.builtin "any") lAny := ⟨_, cr_any hc, fun σ m h H ds p xs Q rh ep rd q => by
  unfold lAny at q
  cases e : boolsOf ds with
  | none => rw [e] at q; exact q.elim
  | some bs =>
    rw [e] at q
    have ex := bools_rel rd e
    subst ex
    exact ⟨p, bs, rfl, .of ep, PostG.ret (R := RD X) (d := .bl (bs.any id)) rh rfl q⟩⟩
def lLen (ds : List D) : M D := ret (.int ds.length)
theorem cc_len : CallC X ca W (.builtin "len") lLen := ⟨_, call_len, fun σ m h H ds p xs Q rh ep rd q => ⟨.ref p, ds.length, rfl, .inl ⟨xs, .of ep, rd.length⟩, PostG.ret (R := RD X) (d := .int ds.length) rh rfl q⟩⟩
end
end Ev
set_option Elab.async false
set_option linter.all false
set_option maxRecDepth 100000
set_option maxHeartbeats 2000000
namespace Ev
open PySem PySem.Spec L2
open PyProof.Rows hiding St

section
variable {X : Cx} {ca : Str → Addr} {m m' : Nat → Addr} {h h' : Hh} {H H' : Hp} {sd : Sl} {σ : St} {W : WX} {pos : Pos} {tg : Expr} {c : Cf}

/-! ### methods of built-in types -/
/-- one value, then the arguments, then what is done with them -/
def vMeth (ck : D → Hh → Bool) (k : D → List D → M D) (f : Sl → M D) (g : Sl → M (List D)) : Sl → M D := fun sd => bnd (f sd) fun x h => if ck x h = true then bnd (g sd) (fun ds => k x ds) h else .bad
def MtE (X : Cx) (ca : Str → Addr) (W : WX) (T id : String) (ck : D → Hh → Bool) (k : D → List D → M D) : Prop :=
  ∃ r : V → List V → Hp → VK → Prop, MtR X id r ∧
    (∀ (m : Nat → Addr) (h : Hh) (H : Hp) (d : D) (x : V), RelH (cf X ca) m h H → RelD X.K m h.length H d x → ck d h = true → tyV X.K T x H) ∧
    ∀ (σ : St) (m : Nat → Addr) (h : Hh) (H : Hp) (d : D) (x : V) (ds : List D) (xs : List V) (Q : VK), RelH (cf X ca) m h H → RelD X.K m h.length H d x → RelDs X.K m h.length H ds xs → PostG X ca W σ (RD X) h.length m H (k d ds h) Q → r x xs H Q
theorem vMeth_ck {ck : D → Hh → Bool} {α : Type} {a : Res α} {d : D} {R : (Nat → Addr) → Nat → Hp → α → V → Prop} {Q : VK} (p : PostG X ca W σ R h.length m H (if ck d h = true then a else .bad) Q) : ck d h = true ∧ PostG X ca W σ R h.length m H a Q := by
  by_cases z : ck d h = true
  · rw [if_pos z] at p
    exact ⟨z, p⟩
  · rw [if_neg z] at p
    exact p.elim
theorem ev_meth {T id : String} {ck : D → Hh → Bool} {k : D → List D → M D} {o e : Expr} {es : List Expr} {f : Sl → M D} {g : Sl → M (List D)} {name : Str} {apos cpos : Pos} (hm : MtE X ca W T id ck k) (pa : PlainAttrs T) (slot : Slot T name id) (hty : typeOf (.builtin id) = pure (.type "method_descriptor"))
    (ho : EV X ca W o f) (ha : AV X ca W (e :: es) g)
    (hbase : attributeBase o name X.env (eval o X.env) = eval o X.env := by rfl)
    (hfew : ((backTo cpos (starEach (e :: es) X.env)).all (fun x => !x.1) && (backToKw cpos (keywordEach [] X.env)).all (fun x => x.1.isSome)
      && decide ((e :: es).length + ([] : List Keyword).length + (if ([] : List Keyword).isEmpty then 0 else 1) < 30)) = true := by rfl)
    (hline : (apos.endLine == cpos.line) = true := by rfl) (hs : starEach (e :: es) X.env = (false, eval e X.env) :: starEach es X.env := by rfl) (hplain : (backTo cpos (starEach es X.env)).any (·.1) = false := by rfl) :
    EV X ca W (.Call (.Attribute o name apos) (e :: es) [] cpos) (vMeth ck k f g) := by
  obtain ⟨r, hr, ht, hq⟩ := hm
  refine PE.imp (pe_bm pa slot hty hr ho ha hbase hfew hline hs hplain) fun σ H Q ⟨m, sd, h, c, p⟩ => ?_
  obtain ⟨m0, sd0, h0, c0, p0⟩ := tG_bnd (R := RD X) (f := f) (R2 := RD X) c p
  refine ⟨m0, sd0, h0, c0, p0.imp fun x H1 ⟨d, m1, h1, a1, c1, r1, p1⟩ => ?_⟩
  obtain ⟨z, p2⟩ := vMeth_ck p1
  refine ⟨ht m1 h1 H1 d x c1.rel r1 z, ?_⟩
  obtain ⟨m0, sd0, h0, c0, p0⟩ := tG_bnd (R := RDs X) (f := g) (R2 := RD X) c1 p2
  refine ⟨m0, sd0, h0, c0, p0.imp fun xs H2 ⟨ds, m2, h2, a2, c2, r2, p2⟩ => hq σ m2 h2 H2 d x ds xs Q c2.rel (a2.d c1.rel r1) r2 p2⟩
theorem ev_meth0 {T id : String} {ck : D → Hh → Bool} {k : D → List D → M D} {o : Expr} {f : Sl → M D} {name : Str} {apos cpos : Pos} (hm : MtE X ca W T id ck k) (pa : PlainAttrs T) (slot : Slot T name id) (hty : typeOf (.builtin id) = pure (.type "method_descriptor"))
    (ho : EV X ca W o f) (hbase : attributeBase o name X.env (eval o X.env) = eval o X.env := by rfl) (hline : (apos.endLine == cpos.line) = true := by rfl) :
    EV X ca W (.Call (.Attribute o name apos) [] [] cpos) (vMeth ck k f aNil) := by
  obtain ⟨r, hr, ht, hq⟩ := hm
  refine PE.imp (pe_bm0 pa slot hty hr ho hbase hline) fun σ H Q ⟨m, sd, h, c, p⟩ => ?_
  obtain ⟨m0, sd0, h0, c0, p0⟩ := tG_bnd (R := RD X) (f := f) (R2 := RD X) c p
  refine ⟨m0, sd0, h0, c0, p0.imp fun x H1 ⟨d, m1, h1, a1, c1, r1, p1⟩ => ?_⟩
  obtain ⟨z, p2⟩ := vMeth_ck p1
  exact ⟨ht m1 h1 H1 d x c1.rel r1 z, hq σ m1 h1 H1 d x [] [] Q c1.rel r1 rfl p2⟩
/-- a list of the pure heap -/
def ckL (d : D) (h : Hh) : Bool := match d with
  | .ref i => (lstAt h i).isSome
  | _ => false
theorem ckL_ty {d : D} {x : V} (rh : RelH (cf X ca) m h H) (r : RelD X.K m h.length H d x) (e : ckL d h = true) : tyV X.K "list" x H := by
  cases d with
  | ref i =>
    have e' : (lstAt h i).isSome = true := e
    obtain ⟨ds, z⟩ := Option.isSome_iff_exists.mp e'
    obtain ⟨xs, ex, _⟩ := lstAt_of rh z
    have ev : x = .ref (m i) := r.2
    subst ev
    exact .inl ⟨rfl, _, .inl (.inl ex)⟩
  | _ => cases e
/-- a list is changed by what becomes of its items -/
def onL (g : List D → List D → Option (List D × D)) : D → List D → M D := fun d as h => match d with
  | .ref i => match lstAt h i with
    | some ds => match g ds as with
      | some (ds', v) => .ok v (h.set i (.lst ds'))
      | none => .bad
    | none => .bad
  | _ => .bad
theorem onL_ok {g : List D → List D → Option (List D × D)} {d : D} {as : List D} {x : V} {Q : VK} (rh : RelH (cf X ca) m h H) (r : RelD X.K m h.length H d x) (p : PostG X ca W σ (RD X) h.length m H (onL g d as h) Q) :
    ∃ i ds xs ds' v, d = .ref i ∧ x = .ref (m i) ∧ H (m i) = some (.lst xs) ∧ RelDs X.K m h.length H ds xs ∧ g ds as = some (ds', v) ∧
      ∀ xs' u, RelDs X.K m h.length H ds' xs' → RelD X.K m h.length H v u → Q u (upd H (m i) (.lst xs')) := by
  cases d with
  | ref i =>
    have p1 : PostG X ca W σ (RD X) h.length m H (match lstAt h i with
      | some ds => match g ds as with
        | some (ds', v) => .ok v (h.set i (.lst ds'))
        | none => .bad
      | none => .bad) Q := p
    cases z : lstAt h i with
    | none => rw [z] at p1; exact p1.elim
    | some ds =>
      rw [z] at p1
      have p2 : PostG X ca W σ (RD X) h.length m H (match g ds as with
        | some (ds', v) => .ok v (h.set i (.lst ds'))
        | none => .bad) Q := p1
      obtain ⟨xs, ex, t⟩ := lstAt_of rh z
      cases e : g ds as with
      | none => rw [e] at p2; exact p2.elim
      | some q =>
        obtain ⟨ds', v⟩ := q
        rw [e] at p2
        refine ⟨i, ds, xs, ds', v, rfl, r.2, ex, t, e, fun xs' u r1 r2 => ?_⟩
        have to := To.set (c := cf X ca) rh r.1 (u := .lst xs') (o := .lst ds') fun H' x' e' => ⟨xs', by rw [e']; exact upd_same, r1.ext x' rh (Nat.le_refl _)⟩
        have to' := to
        exact p2 m _ u to (to.d rh r2)
  | _ => exact p.elim
def gApp : List D → List D → Option (List D × D) := fun ds as => match as with
  | [d] => if ds.length < LL then some (ds ++ [d], .non) else none
  | _ => none
theorem mt_app : MtE X ca W "list" "list.append" ckL (onL gApp) := by
  refine ⟨_, mt_append, fun m h H d x rh r e => ckL_ty rh r e, fun σ m h H d x ds xs Q rh r rs p => ?_⟩
  obtain ⟨i, es, ys, ds', v, rfl, rfl, ex, t, e, q⟩ := onL_ok rh r p
  unfold gApp at e
  match ds, rs, e with
  | [a], rs, e =>
    have e' : (if es.length < LL then some (es ++ [a], D.non) else none) = some (ds', v) := e
    obtain ⟨y, rfl, ry⟩ := rs.one_of
    by_cases z : es.length < LL
    · rw [if_pos z] at e'
      cases e'
      exact ⟨m i, ys, y, rfl, rfl, ex, by rw [sizeLine_eq, ← t.length]; exact z, q _ .non (t.append (.one ry)) rfl⟩
    · rw [if_neg z] at e'
      cases e'
  | [], _, e => cases e
  | _ :: _ :: _, _, e => cases e
def gPop : List D → List D → Option (List D × D) := fun ds as => match as with
  | [] => match ds[ds.length - 1]? with
    | some d => some (ds.dropLast, d)
    | none => none
  | _ => none
theorem mt_pop' : MtE X ca W "list" "list.pop" ckL (onL gPop) := by
  refine ⟨_, mt_pop, fun m h H d x rh r e => ckL_ty rh r e, fun σ m h H d x ds xs Q rh r rs p => ?_⟩
  obtain ⟨i, es, ys, ds', v, rfl, rfl, ex, t, e, q⟩ := onL_ok rh r p
  match ds, rs, e with
  | [], rs, e =>
    have e0 : xs = [] := rs
    have e' : (match es[es.length - 1]? with
      | some d => some (es.dropLast, d)
      | none => none) = some (ds', v) := e
    cases z : es[es.length - 1]? with
    | none => rw [z] at e'; cases e'
    | some d =>
      rw [z] at e'
      cases e'
      obtain ⟨y, ey, ry⟩ := t.get z
      rw [t.length] at ey
      exact ⟨m i, ys, y, rfl, e0, ex, ey, q _ y t.dropLast ry⟩
  | _ :: _, _, e => cases e
def gPopAt : List D → List D → Option (List D × D) := fun ds as => match as with
  | [.int i] => if -(2 ^ 63) ≤ i ∧ i < 2 ^ 63 then match seqIndex? i ds.length with
    | some k => match ds[k]? with
      | some d => some (ds.eraseIdx k, d)
      | none => none
    | none => none else none
  | _ => none
theorem mt_popAt' : MtE X ca W "list" "list.pop" ckL (onL gPopAt) := by
  refine ⟨_, mt_popAt, fun m h H d x rh r e => ckL_ty rh r e, fun σ m h H d x ds xs Q rh r rs p => ?_⟩
  obtain ⟨i, es, ys, ds', v, rfl, rfl, ex, t, e, q⟩ := onL_ok rh r p
  unfold gPopAt at e
  split at e
  · rename_i j
    obtain ⟨y, rfl, ry⟩ := rs.one_of
    have ey : y = .int j := ry
    subst ey
    split at e
    · rename_i hj
      split at e
      · rename_i k hk
        split at e
        · rename_i d0 hd
          cases e
          obtain ⟨z, ez, rz⟩ := t.get hd
          exact ⟨m i, ys, j, k, z, rfl, rfl, ex, hj.1, hj.2, by rw [← t.length]; exact hk, ez, q _ z (t.eraseIdx k) rz⟩
        · cases e
      · cases e
    · cases e
  · cases e
def gIns : List D → List D → Option (List D × D) := fun ds as => match as with
  | [.int i, d] => if 0 ≤ i ∧ i < 2 ^ 63 ∧ ds.length < LL then some (ds.take i.toNat ++ [d] ++ ds.drop i.toNat, .non) else none
  | _ => none
theorem mt_ins' : MtE X ca W "list" "list.insert" ckL (onL gIns) := by
  refine ⟨_, mt_insert, fun m h H d x rh r e => ckL_ty rh r e, fun σ m h H d x ds xs Q rh r rs p => ?_⟩
  obtain ⟨i, es, ys, ds', v, rfl, rfl, ex, t, e, q⟩ := onL_ok rh r p
  unfold gIns at e
  split at e
  · rename_i j d0
    obtain ⟨y, y2, rfl, ry, ry2⟩ := rs.two_of
    have ey : y = .int j := ry
    subst ey
    split at e
    · rename_i hj
      cases e
      exact ⟨m i, ys, j, y2, rfl, rfl, ex, by rw [sizeLine_eq, ← t.length]; exact hj.2.2, hj.1, hj.2.1, q _ .non (((t.take _).append (.one ry2)).append (t.drop _)) rfl⟩
    · cases e
  · cases e
/-- extend by a list -/
def mExt : D → List D → M D := fun d as h => match d with
  | .ref i => match as with
    | [.ref j] => match lstAt h i with
      | some ds => match lstAt h j with
        | some es => if ds.length + es.length ≤ LL then .ok .non (h.set i (.lst (ds ++ es))) else .bad
        | none => .bad
      | none => .bad
    | _ => .bad
  | _ => .bad
theorem mt_ext' : MtE X ca W "list" "list.extend" ckL mExt := by
  refine ⟨_, mt_extend, fun m h H d x rh r e => ckL_ty rh r e, fun σ m h H d x ds xs Q rh r rs p => ?_⟩
  unfold mExt at p
  split at p
  · rename_i i
    split at p
    · rename_i j
      split at p
      · rename_i ds hd
        split at p
        · rename_i es he
          split at p
          · rename_i hz
            obtain ⟨y, rfl, ry⟩ := rs.one_of
            have ey : y = .ref (m j) := ry.2
            have ex : x = .ref (m i) := r.2
            subst ey ex
            obtain ⟨vx, ex, tx⟩ := lstAt_of rh hd
            obtain ⟨vy, ey, ty⟩ := lstAt_of rh he
            have to := To.set (c := cf X ca) rh r.1 (u := .lst (vx ++ vy)) (o := .lst (ds ++ es)) fun H' x' e' => ⟨_, by rw [e']; exact upd_same, (tx.append ty).ext x' rh (Nat.le_refl _)⟩
            exact ⟨m i, m j, vx, vy, rfl, rfl, ex, ey, le_line (by rw [← tx.length, ← ty.length]; exact hz), p m _ .non to rfl⟩
          · exact p.elim
        · exact p.elim
      · exact p.elim
    · exact p.elim
  · exact p.elim
/-- xs.extend([..]), the comprehension's list not of the pure heap -/
def vExtC (f : Sl → M D) (g : Sl → M (List D)) : Sl → M D := fun sd => bnd (f sd) fun d h => if ckL d h = true then bnd (g sd) (fun es h => match d with
  | .ref i => match lstAt h i with
    | some ds => if ds.length + es.length ≤ LL then .ok .non (h.set i (.lst (ds ++ es))) else .bad
    | none => .bad
  | _ => .bad) h else .bad
theorem ev_extC {o e : Expr} {f : Sl → M D} {g : Sl → M (List D)} {apos cpos : Pos} (ho : EV X ca W o f) (ha : CV X ca W e g)
    (hbase : attributeBase o "extend" X.env (eval o X.env) = eval o X.env := by rfl)
    (hfew : ((backTo cpos (starEach (e :: []) X.env)).all (fun x => !x.1) && (backToKw cpos (keywordEach [] X.env)).all (fun x => x.1.isSome)
      && decide ((e :: []).length + ([] : List Keyword).length + (if ([] : List Keyword).isEmpty then 0 else 1) < 30)) = true := by rfl)
    (hline : (apos.endLine == cpos.line) = true := by rfl) (hs : starEach (e :: []) X.env = (false, eval e X.env) :: starEach [] X.env := by rfl) (hplain : (backTo cpos (starEach [] X.env)).any (·.1) = false := by rfl) :
    EV X ca W (.Call (.Attribute o "extend" apos) [e] [] cpos) (vExtC f g) := by
  refine PE.imp (pe_bm PySem.F.plainAttrs_list PySem.F.slot_list_extend PySem.F.type_list_extend mt_extend ho (pa_cons ha pa_nil hs) hbase hfew hline hs hplain) fun σ H Q ⟨m, sd, h, c, p⟩ => ?_
  obtain ⟨m0, sd0, h0, c0, p0⟩ := tG_bnd (R := RD X) (f := f) (R2 := RD X) c p
  refine ⟨m0, sd0, h0, c0, p0.imp fun x H1 ⟨d, m1, h1, a1, c1, r1, p1⟩ => ?_⟩
  obtain ⟨z, p2⟩ := vMeth_ck p1
  refine ⟨ckL_ty c1.rel r1 z, ?_⟩
  obtain ⟨m0, sd0, h0, c0, p0⟩ := tG_bnd (R := RFl X H1) (f := g) (R2 := RD X) c1 p2
  refine ⟨m0, sd0, h0, c0, p0.imp fun y H2 ⟨es, m2, h2, a2, c2, ⟨q, xs, ey, n0, eq, oq, rd⟩, p3⟩ => ?_⟩
  subst ey
  have r2 := a2.d c1.rel r1
  cases d with
  | ref i =>
    have p4 : PostG X ca W σ (RD X) h2.length m2 H2 (match lstAt h2 i with
      | some ds => if ds.length + es.length ≤ LL then .ok .non (h2.set i (.lst (ds ++ es))) else .bad
      | none => .bad) Q := p3
    cases zz : lstAt h2 i with
    | none => rw [zz] at p4; exact p4.elim
    | some ds =>
      rw [zz] at p4
      have p5 : PostG X ca W σ (RD X) h2.length m2 H2 (if ds.length + es.length ≤ LL then .ok .non (h2.set i (.lst (ds ++ es))) else .bad) Q := p4
      obtain ⟨vx, ex, tx⟩ := lstAt_of c2.rel zz
      have exx : x = .ref (m2 i) := r2.2
      subst exx
      by_cases hz : ds.length + es.length ≤ LL
      · rw [if_pos hz] at p5
        have to := To.set (c := cf X ca) c2.rel r2.1 (u := .lst (vx ++ xs)) (o := .lst (ds ++ es)) fun H' x' e' => ⟨_, by rw [e']; exact upd_same, (tx.append rd).ext x' c2.rel (Nat.le_refl _)⟩
        exact ⟨m2 i, q, vx, xs, rfl, rfl, ex, eq, le_line (by rw [← tx.length, ← rd.length]; exact hz), p5 m2 _ .non to rfl⟩
      · rw [if_neg hz] at p5
        exact p5.elim
  | _ => exact p3.elim

/-! ### stores -/
/-- xs[i] = v -/
def setL (d i v : D) (h : Hh) : Option Hh := match d with
  | .ref a => match i with
    | .int k => match lstAt h a with
      | some ds => match ixN ds.length k with
        | some j => some (h.set a (.lst (ds.set j v)))
        | none => none
      | none => none
    | _ => none
  | _ => none
def sSetIx (fo fi fv : Sl → M D) : SF := eS fv fun v sd h => eS fo (fun o sd h => eS fi (fun i sd h => match setL o i v h with
  | some h' => .nx sd h'
  | none => .bad) sd h) sd h
theorem setL_ok {d i v : D} {x y z : V} (rh : RelH (cf X ca) m h H) (r1 : RelD X.K m h.length H d x) (r2 : RelD X.K m h.length H i y) (r3 : RelD X.K m h.length H v z) (e : setL d i v h = some h') : ∃ H', To (cf X ca) h.length m H m h' H' ∧ ∀ Q : Hp → Prop, Q H' → rSetL x y z H Q := by
  unfold setL at e
  split at e
  · rename_i a
    split at e
    · rename_i k
      split at e
      · rename_i ds hd
        split at e
        · rename_i j hj
          cases e
          obtain ⟨xs, ex, t⟩ := lstAt_of rh hd
          have to := To.set (c := cf X ca) rh r1.1 (u := .lst (xs.set j z)) (o := .lst (ds.set j v)) fun H' x' e' => ⟨_, by rw [e']; exact upd_same, (t.set r3 j).ext x' rh (Nat.le_refl _)⟩
          exact ⟨_, to, fun Q q => ⟨m a, xs, k, j, r1.2, r2, ex, by rw [← t.length]; exact hj, q⟩⟩
        · cases e
      · cases e
    · cases e
  · cases e
theorem sv_setIx {o i e : Expr} {fo fi fv : Sl → M D} {p' : Pos} (he : EV X ca W e fv) (ho : EV X ca W o fo) (hi : EV X ca W i fi)
    (ha : ∀ v, assign (.Subscript o i p') X.env v = (do
      let ov ← holding [v] (eval o X.env)
      let iv ← holding [v, ov] (eval i X.env)
      standAt p'
      holding [v, ov, iv] (setItem ov iv v)
      release [v, ov, iv] []) := by intro _; rfl)
    (hs : swapsWithSole [.Subscript o i p'] e pos.line X.env = pure false := by rfl) (hw : swappedStores [.Subscript o i p'] e X.env = pure none := by rfl)
    (h1 : (assignEach [.Subscript o i p'] X.env).map (·.2) = [assign (.Subscript o i p') X.env] := by rfl) : SV X ca W (.Assign [.Subscript o i p'] e pos) (sSetIx fo fi fv) := by
  refine PS.imp (ps_asg he (pg_sub ho hi set_list ha) hs hw h1) fun E σ H ⟨m, sd, h, c, p⟩ => ?_
  obtain ⟨m0, sd0, h0, c0, p0⟩ := eS_t (R := RD X) (f := fv) c p
  refine ⟨m0, sd0, h0, c0, p0.imp fun z H1 ⟨v, m1, h1, a1, c1, r1, p1⟩ => ?_⟩
  obtain ⟨m0, sd0, h0, c0, p0⟩ := eS_t (R := RD X) (f := fo) c1 p1
  refine ⟨m0, sd0, h0, c0, p0.imp fun x H2 ⟨d, m2, h2, a2, c2, r2, p2⟩ => ?_⟩
  obtain ⟨m0, sd0, h0, c0, p0⟩ := eS_t (R := RD X) (f := fi) c2 p2
  refine ⟨m0, sd0, h0, c0, p0.imp fun y H3 ⟨i, m3, h3, a3, c3, r3, p3⟩ => ?_⟩
  have p4 : PostS X ca W h3.length m3 H3 (match setL d i v h3 with
    | some h' => .nx sd h'
    | none => .bad) E := p3
  cases e4 : setL d i v h3 with
  | none => rw [e4] at p4; exact p4.elim
  | some h4 =>
    rw [e4] at p4
    obtain ⟨H4, to, q⟩ := setL_ok c3.rel (a3.d c2.rel r2) r3 (a3.d c2.rel (a2.d c1.rel r1)) e4
    exact q _ (p4 m3 H4 σ to (c3.to to).sl)
/-- d[k] = v -/
def putD (kvs : List (Key × D)) (k : Key) (v : D) : List (Key × D) :=
  if (kvs.any fun kv => decide (kv.1 = k)) = true then kvs.map (fun kv => if kv.1 = k then (kv.1, v) else kv) else kvs ++ [(k, v)]
theorem RelKs.any {K : PySem.W.Frag} {n : Nat} (k : Key) : ∀ {ps : List (Key × D)} {xs : List (Key × V)}, RelKs K m n H ps xs → (xs.any fun kv => decide (kv.1 = k)) = ps.any fun kv => decide (kv.1 = k)
  | [], xs, r => by
    have e : xs = [] := r
    rw [e]; rfl
  | p :: ps, _, r => by
    obtain ⟨x, xs, rfl, _, r2⟩ := r
    rw [List.any_cons, List.any_cons, RelKs.any k r2]
theorem RelKs.repl {K : PySem.W.Frag} {n : Nat} {d : D} {v : V} (k : Key) (rd : RelD K m n H d v) : ∀ {ps : List (Key × D)} {xs : List (Key × V)}, RelKs K m n H ps xs → RelKs K m n H (ps.map fun kv => if kv.1 = k then (kv.1, d) else kv) (xs.map fun kv => if kv.1 = k then (kv.1, v) else kv)
  | [], xs, r => by
    have e : xs = [] := r
    rw [e]; rfl
  | p :: ps, _, r => by
    obtain ⟨x, xs, rfl, r1, r2⟩ := r
    by_cases e : p.1 = k
    · refine ⟨v, _, ?_, ?_, RelKs.repl k rd r2⟩
      · simp only [List.map_cons, if_pos e]
      · simp only [if_pos e]; exact rd
    · refine ⟨x, _, ?_, ?_, RelKs.repl k rd r2⟩
      · simp only [List.map_cons, if_neg e]
      · simp only [if_neg e]; exact r1
theorem RelKs.append {K : PySem.W.Frag} {n : Nat} : ∀ {ps qs : List (Key × D)} {xs ys : List (Key × V)}, RelKs K m n H ps xs → RelKs K m n H qs ys → RelKs K m n H (ps ++ qs) (xs ++ ys)
  | [], _, xs, _, r, r2 => by
    have e : xs = [] := r
    rw [e]
    exact r2
  | p :: ps, _, _, _, r, r3 => by
    obtain ⟨x, xs, rfl, r1, r2⟩ := r
    exact ⟨x, _, rfl, r1, RelKs.append r2 r3⟩
theorem RelKs.put {K : PySem.W.Frag} {n : Nat} {d : D} {v : V} (k : Key) (rd : RelD K m n H d v) {ps : List (Key × D)} {xs : List (Key × V)} (r : RelKs K m n H ps xs) : RelKs K m n H (putD ps k d) (putK xs k v) := by
  unfold putD putK
  rw [r.any k]
  by_cases e : (ps.any fun kv => decide (kv.1 = k)) = true
  · rw [if_pos e, if_pos e]
    exact r.repl k rd
  · rw [if_neg e, if_neg e]
    exact r.append ⟨v, [], rfl, rd, rfl⟩
def setDic (d k v : D) (h : Hh) : Option Hh := match d with
  | .ref a => match dicAt h a with
    | some ps => match keyOf k with
      | some k => if ps.length < LL then some (h.set a (.dic (putD ps k v))) else none
      | none => none
    | none => none
  | _ => none
def sDput (fo fi fv : Sl → M D) : SF := eS fv fun v sd h => eS fo (fun o sd h => eS fi (fun i sd h => match setDic o i v h with
  | some h' => .nx sd h'
  | none => .bad) sd h) sd h
theorem setDic_ok {d i v : D} {x y z : V} (rh : RelH (cf X ca) m h H) (r1 : RelD X.K m h.length H d x) (r2 : RelD X.K m h.length H i y) (r3 : RelD X.K m h.length H v z) (e : setDic d i v h = some h') : ∃ a H', x = .ref a ∧ To (cf X ca) h.length m H m h' H' ∧ DPut H a y z H' := by
  unfold setDic at e
  split at e
  · rename_i a
    split at e
    · rename_i ps hd
      split at e
      · rename_i k hk
        split at e
        · rename_i hz
          cases e
          obtain ⟨xs, ex, t⟩ := dicAt_of rh hd
          have to := To.set (c := cf X ca) rh r1.1 (u := .dK (putK xs k z)) (o := .dic (putD ps k v)) fun H' x' e' => ⟨_, by rw [e']; exact upd_same, (t.put k r3).ext x' rh (Nat.le_refl _)⟩
          refine ⟨m a, _, r1.2, to, ?_⟩
          rw [keyOf_rel hk r2]
          exact DPut.k ex (by rw [sizeLine_eq, ← t.length]; exact hz)
        · cases e
      · cases e
    · cases e
  · cases e
theorem sv_dput {o i e : Expr} {fo fi fv : Sl → M D} {p' : Pos} (hu : X.A.units + 1 < cLine) (he : EV X ca W e fv) (ho : EV X ca W o fo) (hi : EV X ca W i fi) (hs : swapsWith e (some (.Subscript o i p')) pos.line X.env = pure false := by rfl) : SV X ca W (.Assign [.Subscript o i p'] e pos) (sDput fo fi fv) := by
  refine PS.imp (ps_dput hu ho hi he hs) fun E σ H ⟨m, sd, h, c, p⟩ => ?_
  obtain ⟨m0, sd0, h0, c0, p0⟩ := eS_t (R := RD X) (f := fv) c p
  refine ⟨m0, sd0, h0, c0, p0.imp fun z H1 ⟨v, m1, h1, a1, c1, r1, p1⟩ => ?_⟩
  obtain ⟨m0, sd0, h0, c0, p0⟩ := eS_t (R := RD X) (f := fo) c1 p1
  refine ⟨m0, sd0, h0, c0, p0.imp fun x H2 ⟨d, m2, h2, a2, c2, r2, p2⟩ => ?_⟩
  obtain ⟨m0, sd0, h0, c0, p0⟩ := eS_t (R := RD X) (f := fi) c2 p2
  refine ⟨m0, sd0, h0, c0, p0.imp fun y H3 ⟨i, m3, h3, a3, c3, r3, p3⟩ => ?_⟩
  have p4 : PostS X ca W h3.length m3 H3 (match setDic d i v h3 with
    | some h' => .nx sd h'
    | none => .bad) E := p3
  cases e4 : setDic d i v h3 with
  | none => rw [e4] at p4; exact p4.elim
  | some h4 =>
    rw [e4] at p4
    obtain ⟨a, H4, ex, to, q⟩ := setDic_ok c3.rel (a3.d c2.rel r2) r3 (a3.d c2.rel (a2.d c1.rel r1)) e4
    exact ⟨a, H4, ex, q, p4 m3 H4 σ to (c3.to to).sl⟩
/-- {} -/
def newD : Sl → M D := fun _ h => .ok (.ref h.length) (h ++ [.dic []])
theorem ev_dnew : EV X ca W (.Dict [] [] pos) newD := by
  refine PE.imp pe_dnewK fun σ H Q ⟨m, sd, h, c, p⟩ q nq => ?_
  obtain ⟨m', to, e⟩ := To.push (c := cf X ca) c.rel (u := .dK []) (o := .dic []) nq fun m' H' x eH em => ⟨[], by rw [eH]; exact upd_same, rfl⟩
  exact p m' _ _ to ⟨by rw [List.length_append]; exact Nat.lt_succ_self _, by rw [e]⟩
/-- d.setdefault(k, x) -/
def ckD (d : D) (h : Hh) : Bool := match d with
  | .ref i => (dicAt h i).isSome
  | _ => false
def vSetd (f g k : Sl → M D) : Sl → M D := fun sd => bnd (f sd) fun d h => if ckD d h = true then bnd (g sd) (fun y => bnd (k sd) fun z h => match d with
  | .ref i => match dicAt h i with
    | some ps => match keyOf y with
      | some k => if ps.length < LL then match lookK k ps with
        | some v => .ok v h
        | none => .ok z (h.set i (.dic (putD ps k z))) else .bad
      | none => .bad
    | none => .bad
  | _ => .bad) h else .bad
theorem ev_setd {o e f : Expr} {fo fe ff : Sl → M D} {apos cpos : Pos} (ho : EV X ca W o fo) (he : EV X ca W e fe) (hf : EV X ca W f ff) (mm : M2 X o "setdefault" apos e f cpos) : EV X ca W (.Call (.Attribute o "setdefault" apos) [e, f] [] cpos) (vSetd fo fe ff) := by
  refine PE.imp (pe_dsetd ho he hf mm) fun σ H Q ⟨m, sd, h, c, p⟩ => ?_
  obtain ⟨m0, sd0, h0, c0, p0⟩ := tG_bnd (R := RD X) (f := fo) (R2 := RD X) c p
  refine ⟨m0, sd0, h0, c0, p0.imp fun x H1 ⟨d, m1, h1, a1, c1, r1, p1⟩ => ?_⟩
  obtain ⟨z, p2⟩ := vMeth_ck p1
  cases d with
  | ref i =>
    have z' : (dicAt h1 i).isSome = true := z
    obtain ⟨ps, zz⟩ := Option.isSome_iff_exists.mp z'
    obtain ⟨xs, ex, t⟩ := dicAt_of c1.rel zz
    refine ⟨m1 i, r1.2, .inl ⟨xs, .inl ex⟩, ?_⟩
    obtain ⟨m0, sd0, h0, c0, p0⟩ := tG_bnd (R := RD X) (f := fe) (R2 := RD X) c1 p2
    refine ⟨m0, sd0, h0, c0, p0.imp fun y H2 ⟨dy, m2, h2, a2, c2, r2, p2⟩ => ?_⟩
    obtain ⟨m0, sd0, h0, c0, p0⟩ := tG_bnd (R := RD X) (f := ff) (R2 := RD X) c2 p2
    refine ⟨m0, sd0, h0, c0, p0.imp fun w H3 ⟨dz, m3, h3, a3, c3, r3, p3⟩ => ?_⟩
    have rx := a3.d c2.rel (a2.d c1.rel r1)
    have p4 : PostG X ca W σ (RD X) h3.length m3 H3 (match dicAt h3 i with
      | some ps => match keyOf dy with
        | some k => if ps.length < LL then match lookK k ps with
          | some v => .ok v h3
          | none => .ok dz (h3.set i (.dic (putD ps k dz))) else .bad
        | none => .bad
      | none => .bad) Q := p3
    cases z3 : dicAt h3 i with
    | none => rw [z3] at p4; exact p4.elim
    | some ps3 =>
      rw [z3] at p4
      cases zk : keyOf dy with
      | none => rw [zk] at p4; exact p4.elim
      | some k =>
        rw [zk] at p4
        have p5 : PostG X ca W σ (RD X) h3.length m3 H3 (if ps3.length < LL then match lookK k ps3 with
          | some v => .ok v h3
          | none => .ok dz (h3.set i (.dic (putD ps3 k dz))) else .bad) Q := p4
        obtain ⟨xs3, ex3, t3⟩ := dicAt_of c3.rel z3
        by_cases hz : ps3.length < LL
        · rw [if_pos hz] at p5
          have e1 : m1 i = m3 i := by
            have q1 := r1.2
            have q2 := rx.2
            rw [q1] at q2
            exact V.ref.inj q2
          refine ⟨xs3, k, by rw [e1]; exact ex3, keyOf_rel zk (a3.d c2.rel r2), by rw [sizeLine_eq, ← t3.length]; exact hz, fun v hv => ?_, fun hn => ?_⟩
          · rcases t3.val k with ⟨d, v', b1, b2, rv⟩ | ⟨b1, b2⟩
            · rw [b1] at p5
              rw [hv] at b2
              have ev : v = v' := Option.some.inj b2
              subst ev
              exact PostG.ret (R := RD X) c3.rel rv p5
            · rw [hv] at b2
              cases b2
          · rcases t3.val k with ⟨d, v', b1, b2, rv⟩ | ⟨b1, b2⟩
            · rw [hn] at b2
              cases b2
            · rw [b1] at p5
              have to := To.set (c := cf X ca) c3.rel rx.1 (u := .dK (putK xs3 k w)) (o := .dic (putD ps3 k dz)) fun H' x' e' => ⟨_, by rw [e']; exact upd_same, (t3.put k r3).ext x' c3.rel (Nat.le_refl _)⟩
              rw [e1]
              exact p5 m3 _ w to (to.d c3.rel r3)
        · rw [if_neg hz] at p5
          exact p5.elim
  | _ => cases z
end
end Ev
set_option Elab.async false
set_option linter.all false
set_option maxRecDepth 100000
set_option maxHeartbeats 2000000
namespace Ev
open PySem PySem.Spec L2
open PyProof.Rows hiding St

/-! ### isinstance -/
inductive Ty where
  | non | bl | int | str | tup | lst | dic
  deriving DecidableEq
def Ty.name : Ty → String
  | .non => "NoneType" | .bl => "bool" | .int => "int" | .str => "str" | .tup => "tuple" | .lst => "list" | .dic => "dict"
def isTy (a t : Ty) : Bool := match a, t with
  | .non, .non => true
  | .bl, .bl => true
  | .bl, .int => true
  | .int, .int => true
  | .str, .str => true
  | .tup, .tup => true
  | .lst, .lst => true
  | .dic, .dic => true
  | _, _ => false
theorem isTy_kit (a t : Ty) (h : t ≠ .non := by decide) : kitB a.name t.name = some (isTy a t) := by
  cases a <;> cases t <;> first | exact absurd rfl h | decide +kernel
def tyOf (h : Hh) : D → Option Ty
  | .non => some .non
  | .bl _ => some .bl
  | .int _ => some .int
  | .str _ => some .str
  | .tup _ => some .tup
  | .frl _ => some .lst
  | .ref i => match h[i]? with
    | some (.lst _) => some .lst
    | some (.dic _) => some .dic
    | _ => none
  | .exc _ _ _ => none
/-- the class of an instance -/
def clsOf (h : Hh) : D → Option Str
  | .ref i => match h[i]? with
    | some (.ins c _) => some c
    | _ => none
  | _ => none

section
variable {X : Cx} {ca : Str → Addr} {m m' : Nat → Addr} {h h' : Hh} {H H' : Hp} {sd : Sl} {σ : St} {W : WX} {pos : Pos} {tg : Expr} {c : Cf}
theorem tyOf_ok {d : D} {x : V} {a : Ty} (rh : RelH (cf X ca) m h H) (r : RelD X.K m h.length H d x) (e : tyOf h d = some a) : TyX X.K H x (.type a.name) := by
  cases d with
  | non => cases e; have q : x = .non := r; rw [q]; exact .base .non
  | bl b => cases e; have q : x = .bl b := r; rw [q]; exact .base (.bl b)
  | int b => cases e; have q : x = .int b := r; rw [q]; exact .base (.int b)
  | str b => cases e; have q : x = .str b := r; rw [q]; exact .base (.str b)
  | tup b =>
    cases e
    obtain ⟨q, xs, rfl, s, _⟩ := r
    rcases s with (s | ⟨o, s⟩) | ⟨o, its, n, s, s2, _⟩
    · exact .base (.tup s)
    · exact .fTuple s
    · exact .kTuple s s2
  | frl b =>
    cases e
    obtain ⟨q, xs, rfl, s, _⟩ := r
    rcases s with ⟨o, s⟩ | ⟨o, its, n, s, s2, _⟩
    · exact .base (.frz s)
    · exact .kList s s2
  | ref i =>
    have q : x = .ref (m i) := r.2
    subst q
    have e' : (match h[i]? with
      | some (.lst _) => some Ty.lst
      | some (.dic _) => some Ty.dic
      | _ => none) = some a := e
    cases z : h[i]? with
    | none => rw [z] at e'; cases e'
    | some o =>
      rw [z] at e'
      cases o with
      | lst ds => cases e'; obtain ⟨xs, ex, _⟩ := rh.ob i _ z; exact .base (.lst ex)
      | dic ds => cases e'; obtain ⟨xs, ex, _⟩ := rh.ob i _ z; exact .base (.dK ex)
      | _ => cases e'
  | exc _ _ _ => exact r.elim
/-- what the written part says of an own class as a type -/
structure ClsT (K : PySem.W.Frag) (C : Addr) : Prop where
  cl : Cls K C
  ha : PySem.W.findIn K (.ref C) "__class__" = some (some (.builtin "object.__class__"))
  hn : PySem.W.specialIn K (.builtin "object.__class__") "__get__" = some (some (.builtin "getset_descriptor.__get__"))
  htk : PySem.W.takesIn K (.builtin "object.__class__") = some true
  hm : PySem.W.mroIn K C (.type "object") = some true
theorem clsOf_ok {d : D} {x : V} {a : Str} (rh : RelH (cf X ca) m h H) (r : RelD X.K m h.length H d x) (T : ClsT X.K (ca a)) (e : clsOf h d = some a) : TyX X.K H x (.ref (ca a)) := by
  cases d with
  | ref i =>
    have q : x = .ref (m i) := r.2
    subst q
    have e' : (match h[i]? with
      | some (.ins c _) => some c
      | _ => none) = some a := e
    cases z : h[i]? with
    | none => rw [z] at e'; cases e'
    | some o =>
      rw [z] at e'
      cases o with
      | ins k fs => cases e'; obtain ⟨dx, xs, ex, _⟩ := rh.ob i _ z; exact .base (.ins ex T.cl T.ha T.hn T.htk T.hm)
      | _ => cases e'
  | _ => cases e
/-- is it of such a built-in type, or of such an own class (cs: the own classes that are known, with the answer) -/
def isiF (ts : List Ty) (cs : List (Str × Bool)) (d : D) : M D := fun h => match tyOf h d with
  | some a => .ok (.bl (ts.any (isTy a))) h
  | none => match clsOf h d with
    | some k => match cs.lookup k with
      | some b => .ok (.bl b) h
      | none => .bad
    | none => .bad
/-- facts of own classes against a class value -/
def ClsA (K : PySem.W.Frag) (ca : Str → Addr) (us : List Value) (cs : List (Str × Bool)) : Prop := ∀ k b, (k, b) ∈ cs → ClsT K (ca k) ∧ PySem.W.kitAny K (.ref (ca k)) us = some b
theorem mem_of_lookup {α : Type} {k : Str} {v : α} : ∀ {l : List (Str × α)}, l.lookup k = some v → (k, v) ∈ l
  | [], e => by cases e
  | p :: l, e => by
    obtain ⟨a, b⟩ := p
    by_cases z : k = a
    · subst z
      simp [List.lookup] at e
      subst e
      exact List.mem_cons_self ..
    · have z' : (k == a) = false := by simpa using z
      simp [List.lookup, z'] at e
      exact List.mem_cons_of_mem _ (mem_of_lookup e)
theorem kitAny_tys {K : PySem.W.Frag} (a : Ty) : ∀ ts : List Ty, (∀ t, t ∈ ts → t ≠ .non) → PySem.W.kitAny K (.type a.name) (ts.map fun (t : Ty) => Value.type t.name) = some (ts.any (isTy a))
  | [], _ => rfl
  | t :: ts, hn => by
    have e := kit_ty (K := K) (isTy_kit a t (hn t (List.mem_cons_self ..)))
    have ih := kitAny_tys (K := K) a ts fun u hu => hn u (List.mem_cons_of_mem _ hu)
    show (match PySem.W.kitOne K (.type a.name) (.type t.name) with
      | some true => some true
      | some false => PySem.W.kitAny K (.type a.name) (ts.map fun (t : Ty) => Value.type t.name)
      | none => none) = _
    rw [e, List.any_cons]
    cases isTy a t with
    | true => rfl
    | false => exact ih
theorem isiF_ok {ts : List Ty} {cs : List (Str × Bool)} {d : D} {x : V} {Q : VK} (hn : ∀ t, t ∈ ts → t ≠ .non) (hc : ClsA X.K ca (ts.map fun (t : Ty) => Value.type t.name) cs) (rh : RelH (cf X ca) m h H) (r : RelD X.K m h.length H d x) (p : PostG X ca W σ (RD X) h.length m H (isiF ts cs d h) Q) :
    ∃ t b, TyX X.K H x t ∧ PySem.W.kitAny X.K t (ts.map fun (t : Ty) => Value.type t.name) = some b ∧ Q (.bl b) H := by
  unfold isiF at p
  cases e : tyOf h d with
  | some a =>
    rw [e] at p
    exact ⟨_, _, tyOf_ok rh r e, kitAny_tys a ts hn, PostG.ret (R := RD X) (d := .bl (ts.any (isTy a))) rh rfl p⟩
  | none =>
    rw [e] at p
    cases e2 : clsOf h d with
    | none => rw [e2] at p; exact p.elim
    | some k =>
      rw [e2] at p
      have p2 : PostG X ca W σ (RD X) h.length m H (match cs.lookup k with
        | some b => .ok (.bl b) h
        | none => .bad) Q := p
      cases e3 : cs.lookup k with
      | none => rw [e3] at p2; exact p2.elim
      | some b =>
        rw [e3] at p2
        obtain ⟨T, kt⟩ := hc k b (mem_of_lookup e3)
        exact ⟨_, b, clsOf_ok rh r T e2, kt, PostG.ret (R := RD X) (d := .bl b) rh rfl p2⟩
def vIsi (ts : List Ty) (cs : List (Str × Bool)) (f : Sl → M D) : Sl → M D := fun sd => bnd (f sd) (isiF ts cs)
/-- isinstance(e, T) -/
theorem ev_isi1 {cs : List (Str × Bool)} {e : Expr} {f : Sl → M D} {x : Str} {p p1 : Pos} (t : Ty) (ht : t ≠ .non) (hc : ClsA X.K ca [.type t.name] cs) (hg : Gl X "isinstance") (hm : X.mg "isinstance" = none) (he : EV X ca W e f) (hgt : Gl X x) (hmt : X.mg x = none) (hvt : bootBuiltins x = some (.type t.name))
    (hn : x ≠ "__name__" := by decide) (hdb : (x == ("__debug__" : Str)) = false := by decide)
    (hs1 : starEach (e :: [.Name x p1]) X.env = (false, eval e X.env) :: starEach [.Name x p1] X.env := by rfl) (hpl : (backTo pos (starEach [.Name x p1] X.env)).any (·.1) = false := by rfl) :
    EV X ca W (.Call (.Name "isinstance" p) [e, .Name x p1] [] pos) (vIsi [t] cs f) := by
  refine PE.imp (pe_callB call_isi hg hm (by decide +kernel) (pa_cons he (pa_cons (pe_bltn (v := .ty t.name) hgt hmt hvt rfl hn hdb) pa_nil) hs1) (by decide) (by decide) hs1 hpl) fun σ H Q ⟨m, sd, h, c, p⟩ => ?_
  obtain ⟨m0, sd0, h0, c0, p0⟩ := tG_bnd (R := RD X) (f := f) (R2 := RD X) c p
  refine ⟨m0, sd0, h0, c0, p0.imp fun x H1 ⟨d, m1, h1, a1, c1, r1, p1⟩ => ?_⟩
  obtain ⟨u, b, ty, k, q⟩ := isiF_ok (fun u hu => by rw [List.mem_singleton.mp hu]; exact ht) hc c1.rel r1 p1
  refine ⟨x, .ty t.name, u, .type t.name, b, rfl, .ty _, ty, ?_, q⟩
  have k' : (match PySem.W.kitOne X.K u (.type t.name) with
    | some true => some true
    | some false => some false
    | none => none) = some b := k
  cases z : PySem.W.kitOne X.K u (.type t.name) with
  | none => rw [z] at k'; cases k'
  | some b' => rw [z] at k'; cases b' <;> exact k'
/-- isinstance(e, (T1, T2)) -/
theorem ev_isi2 {cs : List (Str × Bool)} {e : Expr} {f : Sl → M D} {x y : Str} {p p1 p2 p3 : Pos} {kk : Nat} (t u : Ty) (ht : t ≠ .non) (hu : u ≠ .non) (hc : ClsA X.K ca [.type t.name, .type u.name] cs) (hg : Gl X "isinstance") (hm : X.mg "isinstance" = none) (he : EV X ca W e f)
    (hgt : Gl X x) (hmt : X.mg x = none) (hvt : bootBuiltins x = some (.type t.name)) (hgu : Gl X y) (hmu : X.mg y = none) (hvu : bootBuiltins y = some (.type u.name))
    (hn : x ≠ "__name__" := by decide) (hdb : (x == ("__debug__" : Str)) = false := by decide) (hn2 : y ≠ "__name__" := by decide) (hdb2 : (y == ("__debug__" : Str)) = false := by decide)
    (hs1 : starEach (e :: [.Tuple [.Name x p1, .Name y p2] kk p3]) X.env = (false, eval e X.env) :: starEach [.Tuple [.Name x p1, .Name y p2] kk p3] X.env := by rfl) (hpl : (backTo pos (starEach [.Tuple [.Name x p1, .Name y p2] kk p3] X.env)).any (·.1) = false := by rfl) :
    EV X ca W (.Call (.Name "isinstance" p) [e, .Tuple [.Name x p1, .Name y p2] kk p3] [] pos) (vIsi [t, u] cs f) := by
  refine PE.imp (pe_callB call_isiT hg hm (by decide +kernel) (pa_cons he (pa_cons (pe_tup (pa_cons (pe_bltn (v := .ty t.name) hgt hmt hvt rfl hn hdb) (pa_cons (pe_bltn (v := .ty u.name) hgu hmu hvu rfl hn2 hdb2) pa_nil))) pa_nil) hs1) (by decide) (by decide) hs1 hpl) fun σ H Q ⟨m, sd, h, c, p⟩ => ?_
  obtain ⟨m0, sd0, h0, c0, p0⟩ := tG_bnd (R := RD X) (f := f) (R2 := RD X) c p
  refine ⟨m0, sd0, h0, c0, p0.imp fun x H1 ⟨d, m1, h1, a1, c1, r1, p1⟩ => ⟨by show 2 ≤ sizeLine; decide, fun q nq => ?_⟩⟩
  have to := To.new (c := cf X ca) c1.rel (u := .tup [.ty t.name, .ty u.name]) nq
  obtain ⟨z, b, ty, k, q3⟩ := isiF_ok (W := W) (σ := σ) (ts := [t, u]) (cs := cs) (fun v hv => by
    rcases List.mem_cons.mp hv with e | e
    · rw [e]; exact ht
    · rw [List.mem_singleton.mp e]; exact hu) hc to.rel (to.d c1.rel r1) (p1.to to)
  exact ⟨x, q, _, z, [.type t.name, .type u.name], b, rfl, upd_same, .cons (.ty _) (.cons (.ty _) .nil), ty, k, q3⟩

/-! ### own defs -/
/-- a result, whatever the slots -/
def PostF (c : Cf) (E : XK) (n : Nat) (m : Nat → Addr) (H : Hp) (r : Res D) (Q : VK) : Prop := match r with
  | .ok d h' => ∀ m' H' v, To c n m H m' h' H' → RelD c.K m' h'.length H' d v → Q v H'
  | .exn k ns vs h' => ∀ m' H' dx, To c n m H m' h' H' → RelX c.K m' h'.length H' ns vs dx → E (.ref (c.ca k)) dx H'
  | .bad => False
/-- a def's promise: it does what the shallow function does -/
def spF (c : Cf) (n : Nat) (F : List D → M D) : Sp := fun vs H Q E => ∃ m ds h, RelH c m h H ∧ RelDs c.K m h.length H ds vs ∧ ds.length = n ∧ PostF c E h.length m H (F ds h) Q
def vFn (n : Nat) (F : List D → M D) (f : Sl → M (List D)) : Sl → M D := fun sd => bnd (f sd) fun ds => if ds.length = n then F ds else bad
theorem ev_call {k : Nat} {f : Addr} {fd : FuncData} {ps : List Str} {F : List D → M D} {x : Str} {p : Pos} {e : Expr} {es : List Expr} {g : Sl → M (List D)} (tk : Takes X W) (G : FnOk X.prog X.w X.K X.mg X.base (L2.CX X.prog X.w) k f fd ps (spF (cf X ca) ps.length F)) (hr : Room k X.A) (hm : X.mg x = some (.ref f)) (hk : PySem.W.keepIn X.K (.ref f) = true) (hb : Binds X.K fd ps [])
    (ha : AV X ca W (e :: es) g) (hg : Gl X x := by rfl) (hdb : (x == ("__debug__" : Str)) = false := by decide) (he : starEach (e :: es) X.env = (false, eval e X.env) :: starEach es X.env := by rfl) (hpl : (backTo pos (starEach es X.env)).any (·.1) = false := by rfl) :
    EV X ca W (.Call (.Name x p) (e :: es) [] pos) (vFn ps.length F g) := by
  refine PE.imp (pe_callS (E := WE W) G hr hg hm hk hb (fun σ => passAt tk σ) ha hdb he hpl) fun σ H Q ⟨m, sd, h, c, p⟩ => ?_
  obtain ⟨m0, sd0, h0, c0, p0⟩ := tG_bnd (R := RDs X) (f := g) (R2 := RD X) c p
  refine ⟨m0, sd0, h0, c0, p0.imp fun xs H1 ⟨ds, m1, h1, a1, c1, r1, p1⟩ => ?_⟩
  have p2 : PostG X ca W σ (RD X) h1.length m1 H1 ((if ds.length = ps.length then F ds else bad) h1) Q := p1
  by_cases z : ds.length = ps.length
  · rw [if_pos z] at p2
    refine ⟨m1, ds, h1, c1.rel, r1, z, ?_⟩
    cases e : F ds h1 with
    | ok d h2 => rw [e] at p2; exact p2
    | exn k ns vs h2 => rw [e] at p2; exact p2
    | bad => rw [e] at p2; exact p2
  · rw [if_neg z] at p2
    exact p2.elim
/-- closed below n -/
def closD (n : Nat) : D → Bool
  | .ref i => decide (i < n)
  | .tup ds => go ds
  | .frl ds => go ds
  | .exc _ _ _ => false
  | _ => true
where go : List D → Bool
  | [] => true
  | d :: ds => closD n d && go ds
def closDs (n : Nat) : List D → Bool := closD.go n
end
end Ev
set_option Elab.async false
set_option linter.all false
set_option maxRecDepth 100000
set_option maxHeartbeats 2000000
namespace Ev
open PySem PySem.Spec L2
open PyProof.Rows hiding St

section
variable {c : Cf} {K : PySem.W.Frag} {m m' : Nat → Addr} {n n' N : Nat} {h h' : Hh} {H H' : Hp}
mutual
theorem RelD.cut : ∀ {d : D} {v : V}, closD n d = true → RelD K m N H d v → RelD K m n H d v
  | .non, _, _, q => q
  | .bl _, _, _, q => q
  | .int _, _, _, q => q
  | .str _, _, _, q => q
  | .tup ds, _, e, q => by
    obtain ⟨a, xs, e1, s, t⟩ := q
    exact ⟨a, xs, e1, s, RelDs.cut (show closDs n ds = true from e) t⟩
  | .frl ds, _, e, q => by
    obtain ⟨a, xs, e1, s, t⟩ := q
    exact ⟨a, xs, e1, s, RelDs.cut (show closDs n ds = true from e) t⟩
  | .ref i, _, e, q => ⟨of_decide_eq_true (show decide (i < n) = true from e), q.2⟩
  | .exc _ _ _, _, _, q => q.elim
theorem RelDs.cut : ∀ {ds : List D} {vs : List V}, closDs n ds = true → RelDs K m N H ds vs → RelDs K m n H ds vs
  | [], _, _, q => q
  | d :: ds, _, e, q => by
    obtain ⟨x, xs, e1, q1, q2⟩ := q
    have e' : (closD n d && closDs n ds) = true := e
    rw [Bool.and_eq_true] at e'
    exact ⟨x, xs, e1, RelD.cut e'.1 q1, RelDs.cut e'.2 q2⟩
end
mutual
theorem RelD.clos : ∀ {d : D} {v : V}, RelD K m n H d v → closD n d = true
  | .non, _, _ => rfl
  | .bl _, _, _ => rfl
  | .int _, _, _ => rfl
  | .str _, _, _ => rfl
  | .tup ds, _, q => by
    obtain ⟨a, xs, e1, s, t⟩ := q
    exact RelDs.clos t
  | .frl ds, _, q => by
    obtain ⟨a, xs, e1, s, t⟩ := q
    exact RelDs.clos t
  | .ref i, _, q => decide_eq_true q.1
  | .exc _ _ _, _, q => q.elim
theorem RelDs.clos : ∀ {ds : List D} {vs : List V}, RelDs K m n H ds vs → closDs n ds = true
  | [], _, _ => rfl
  | d :: ds, _, q => by
    obtain ⟨x, xs, e1, q1, q2⟩ := q
    show (closD n d && closDs n ds) = true
    rw [RelD.clos q1, RelDs.clos q2]
    rfl
end
theorem RelFs.cut' {m1 : Nat → Addr} {H1 : Hp} : ∀ {ds : List (Str × D)} {vs us : List (Str × V)}, RelFs K m1 n H1 ds us → RelFs K m N H ds vs → RelFs K m n H ds vs
  | [], _, _, _, q => q
  | d :: ds, _, _, q', q => by
    obtain ⟨x, xs, e1, q1, q2⟩ := q
    obtain ⟨y, ys, e2, r1, r2⟩ := q'
    exact ⟨x, xs, e1, q1.cut r1.clos, RelFs.cut' r2 q2⟩
theorem RelKs.cut' {m1 : Nat → Addr} {H1 : Hp} : ∀ {ds : List (Key × D)} {vs us : List (Key × V)}, RelKs K m1 n H1 ds us → RelKs K m N H ds vs → RelKs K m n H ds vs
  | [], _, _, _, q => q
  | d :: ds, _, _, q', q => by
    obtain ⟨x, xs, e1, q1, q2⟩ := q
    obtain ⟨y, ys, e2, r1, r2⟩ := q'
    exact ⟨x, xs, e1, q1.cut r1.clos, RelKs.cut' r2 q2⟩
theorem RelNs.cut' {m1 : Nat → Addr} {H1 : Hp} : ∀ {ds : List (D × D)} {vs us : List (NestedKey × Addr × Value)}, RelNs K m1 n H1 ds us → RelNs K m N H ds vs → RelNs K m n H ds vs
  | [], _, _, _, q => q
  | d :: ds, _, _, q', q => by
    obtain ⟨k, b, u, v, zs, e, q1, q2, q3, q4, q5⟩ := q
    obtain ⟨k', b', u', v', zs', e', q1', q2', q3', q4', q5'⟩ := q'
    exact ⟨k, b, u, v, zs, e, q1, q2.cut q2'.clos, q3.cut q3'.clos, q4, RelNs.cut' q5' q5⟩
theorem RelO.cut' {m1 : Nat → Addr} {H1 : Hp} {a b : Addr} {o : O} (r : RelO c m1 n H1 b o) (q : RelO c m N H a o) : RelO c m n H a o := by
  cases o with
  | lst ds => obtain ⟨xs, e, t⟩ := q; obtain ⟨ys, e2, t2⟩ := r; exact ⟨xs, e, t.cut t2.clos⟩
  | dic ds => obtain ⟨xs, e, t⟩ := q; obtain ⟨ys, e2, t2⟩ := r; exact ⟨xs, e, RelKs.cut' t2 t⟩
  | dik ds => obtain ⟨xs, e, t⟩ := q; obtain ⟨ys, e2, t2⟩ := r; exact ⟨xs, e, RelNs.cut' t2 t⟩
  | ins k fs => obtain ⟨dx, xs, e, t⟩ := q; obtain ⟨dy, ys, e2, t2⟩ := r; exact ⟨dx, xs, e, RelFs.cut' t2 t⟩
/-- what came new to the pure heap is forgotten -/
theorem To.drop {g : Hh} (r : RelH c m h H) (a : To c h.length m H m' (h ++ g) H') : To c h.length m H m' h H' := by
  have hl : h.length ≤ (h ++ g).length := by rw [List.length_append]; exact Nat.le_add_right _ _
  refine ⟨⟨a.ext.ag, fun i h1 h2 => absurd (Nat.lt_of_lt_of_le h2 h1) (Nat.lt_irrefl _), a.ext.fr⟩, Nat.le_refl _, fun i o e => ?_, fun i j hi hj e => a.rel.inj i j (Nat.lt_of_lt_of_le hi hl) (Nat.lt_of_lt_of_le hj hl) e⟩
  have hi : i < h.length := (List.getElem?_eq_some_iff.mp e).1
  exact RelO.cut' (r.ob i o e) (a.rel.ob i o (by rw [List.getElem?_append_left hi]; exact e))
/-! ### equal heaps -/
def beqFs : List (Str × D) → List (Str × D) → Bool
  | [], [] => true
  | a :: as, b :: bs => decide (a.1 = b.1) && beqD a.2 b.2 && beqFs as bs
  | _, _ => false
def beqKs : List (Key × D) → List (Key × D) → Bool
  | [], [] => true
  | a :: as, b :: bs => decide (a.1 = b.1) && beqD a.2 b.2 && beqKs as bs
  | _, _ => false
theorem beqFs_eq : ∀ {a b : List (Str × D)}, beqFs a b = true → a = b
  | [], b, e => by cases b <;> first | rfl | cases e
  | (k, d) :: as, b, e => by
    cases b with
    | nil => cases e
    | cons b bs =>
      obtain ⟨k', d'⟩ := b
      have e' : (decide (k = k') && beqD d d' && beqFs as bs) = true := e
      rw [Bool.and_eq_true, Bool.and_eq_true] at e'
      rw [of_decide_eq_true e'.1.1, beqD_eq e'.1.2, beqFs_eq e'.2]
theorem beqKs_eq : ∀ {a b : List (Key × D)}, beqKs a b = true → a = b
  | [], b, e => by cases b <;> first | rfl | cases e
  | (k, d) :: as, b, e => by
    cases b with
    | nil => cases e
    | cons b bs =>
      obtain ⟨k', d'⟩ := b
      have e' : (decide (k = k') && beqD d d' && beqKs as bs) = true := e
      rw [Bool.and_eq_true, Bool.and_eq_true] at e'
      rw [of_decide_eq_true e'.1.1, beqD_eq e'.1.2, beqKs_eq e'.2]
def beqNs : List (D × D) → List (D × D) → Bool
  | [], [] => true
  | a :: as, b :: bs => beqD a.1 b.1 && beqD a.2 b.2 && beqNs as bs
  | _, _ => false
theorem beqNs_eq : ∀ {a b : List (D × D)}, beqNs a b = true → a = b
  | [], b, e => by cases b <;> first | rfl | cases e
  | (k, d) :: as, b, e => by
    cases b with
    | nil => cases e
    | cons b bs =>
      obtain ⟨k', d'⟩ := b
      have e' : (beqD k k' && beqD d d' && beqNs as bs) = true := e
      rw [Bool.and_eq_true, Bool.and_eq_true] at e'
      rw [beqD_eq e'.1.1, beqD_eq e'.1.2, beqNs_eq e'.2]
def beqO : O → O → Bool
  | .lst a, .lst b => beqDs a b
  | .dic a, .dic b => beqKs a b
  | .dik a, .dik b => beqNs a b
  | .ins k a, .ins k' b => decide (k = k') && beqFs a b
  | _, _ => false
theorem beqO_eq {a b : O} (e : beqO a b = true) : a = b := by
  cases a with
  | lst a => cases b with
    | lst b => rw [beqDs_eq (show beqDs a b = true from e)]
    | _ => cases e
  | dic a => cases b with
    | dic b => rw [beqKs_eq (show beqKs a b = true from e)]
    | _ => cases e
  | dik a => cases b with
    | dik b => rw [beqNs_eq (show beqNs a b = true from e)]
    | _ => cases e
  | ins k a => cases b with
    | ins k' b =>
      have e' : (decide (k = k') && beqFs a b) = true := e
      rw [Bool.and_eq_true] at e'
      rw [of_decide_eq_true e'.1, beqFs_eq e'.2]
    | _ => cases e
/-- the second list begins as the first -/
def begins : Hh → Hh → Bool
  | [], _ => true
  | a :: as, b :: bs => beqO a b && begins as bs
  | _ :: _, [] => false
theorem begins_eq : ∀ {a b : Hh}, begins a b = true → ∃ g, b = a ++ g
  | [], b, _ => ⟨b, rfl⟩
  | a :: as, b, e => by
    cases b with
    | nil => cases e
    | cons b bs =>
      have e' : (beqO a b && begins as bs) = true := e
      rw [Bool.and_eq_true] at e'
      obtain ⟨g, e2⟩ := begins_eq e'.2
      exact ⟨g, by rw [← beqO_eq e'.1, e2]; rfl⟩
mutual
theorem beqD_self : ∀ {a : D} {n : Nat}, closD n a = true → beqD a a = true
  | .non, _, _ => rfl
  | .bl a, _, _ => beq_self_eq_true a
  | .int a, _, _ => beq_self_eq_true a
  | .str a, _, _ => decide_eq_true rfl
  | .tup a, _, e => beqDs_self (show closDs _ a = true from e)
  | .frl a, _, e => beqDs_self (show closDs _ a = true from e)
  | .ref a, _, _ => beq_self_eq_true a
  | .exc _ _ _, _, e => by cases e
theorem beqDs_self : ∀ {a : List D} {n : Nat}, closDs n a = true → beqDs a a = true
  | [], _, _ => rfl
  | d :: ds, n, e => by
    have e' : (closD n d && closDs n ds) = true := e
    rw [Bool.and_eq_true] at e'
    show (beqD d d && beqDs ds ds) = true
    rw [beqD_self e'.1, beqDs_self e'.2]
    rfl
end
def finD (h0 : Hh) (r : Res D) : Res D := match r with
  | .ok d h => if (closD h0.length d && begins h0 h) = true then .ok d h0 else .ok d h
  | .exn k ns vs h => if (closDs h0.length vs && begins h0 h) = true then .exn k ns vs h0 else .exn k ns vs h
  | .bad => .bad
theorem RelX.cut {ns : List Str} {vs : List D} {dx : Option Addr} (e : closDs n vs = true) (q : RelX K m N H ns vs dx) : RelX K m n H ns vs dx := by
  rcases q with q | ⟨d, fs, e1, e2, e3, e4⟩
  · exact .inl q
  · exact .inr ⟨d, fs, e1, e2, e3, e4.cut e⟩
theorem PostF.fin {E : XK} {r : Res D} {Q : VK} (rh : RelH c m h H) (p : PostF c E h.length m H (finD h r) Q) : PostF c E h.length m H r Q := by
  cases r with
  | bad => exact p
  | ok d h1 =>
    have p' : PostF c E h.length m H (if (closD h.length d && begins h h1) = true then .ok d h else .ok d h1) Q := p
    by_cases z : (closD h.length d && begins h h1) = true
    · rw [if_pos z] at p'
      rw [Bool.and_eq_true] at z
      obtain ⟨g, rfl⟩ := begins_eq z.2
      exact fun m' H' v a r => p' m' H' v (a.drop rh) (r.cut z.1)
    · rw [if_neg z] at p'
      exact p'
  | exn k ns vs h1 =>
    have p' : PostF c E h.length m H (if (closDs h.length vs && begins h h1) = true then .exn k ns vs h else .exn k ns vs h1) Q := p
    by_cases z : (closDs h.length vs && begins h h1) = true
    · rw [if_pos z] at p'
      rw [Bool.and_eq_true] at z
      obtain ⟨g, rfl⟩ := begins_eq z.2
      exact fun m' H' v a r => p' m' H' v (a.drop rh) (r.cut z.1)
    · rw [if_neg z] at p'
      exact p'
/-- a body's result -/
def toRes (r : RS) : Res D := match r with
  | .nx _ h => .ok .non h
  | .rt d h => .ok d h
  | .ex k ns vs _ h => .exn k ns vs h
  | _ => .bad
def startD (n : Nat) (ds : List D) : Sl := ds.map some ++ List.replicate (n - ds.length) none
/-- a def from its body -/
def runF (n : Nat) (g : SF) : List D → M D := fun ds h => finD h (toRes (g (startD n ds) h))
theorem start_rel {X : Cx} {ca : Str → Addr} {N : List Str} {ds : List D} {vs : List V} (r : RelDs X.K m h.length H ds vs) : RelSl X ca m h.length H (startD N.length ds) (L2.start N vs) := by
  refine ⟨?_, fun i d e => ?_⟩
  · unfold startD L2.start
    rw [List.length_append, List.length_append, List.length_map, List.length_map, List.length_replicate, List.length_replicate, r.length]
  · unfold startD at e
    by_cases hi : i < (ds.map some).length
    · rw [List.getElem?_append_left hi, List.getElem?_map] at e
      cases q : ds[i]? with
      | none => rw [q] at e; cases e
      | some d' =>
        rw [q] at e
        have e' : d' = d := Option.some.inj (Option.some.inj e)
        subst e'
        obtain ⟨x, ex, rx⟩ := r.get q
        refine ⟨x, ?_, .inl rx⟩
        unfold L2.start
        rw [List.getElem?_append_left (by rw [List.length_map, ← r.length]; rwa [List.length_map] at hi), List.getElem?_map, ex]
        rfl
    · rw [List.getElem?_append_right (Nat.le_of_not_lt hi)] at e
      have := List.mem_of_getElem? e
      have := List.eq_of_mem_replicate this
      cases this
theorem fn_ok {P : Program} {w : World} {K : PySem.W.Frag} {ca : Str → Addr} {mg : Str → Option Value} {base : Heap} {x qual : Str} {st : Stmt} {f : Addr} {fd : FuncData} {N ps : List Str} {k : Nat} {g : SF} (F : Fun K x qual st f fd) (S : FnScope N ps (defScope st))
    (body : ∀ (cdv : Value) (A : Around) (outer : List Env) (s : Shared) (H : Hp) (E : XK), Room k (A.deeper (envOfC qual (defScope st) s.heap.objs.size f cdv)) →
      BV (cxOf (L2.CX P w) P w K mg base N qual (defScope st) f cdv A outer s H E) ca (fun cls d _ H => E cls d H) (defBody st) g) :
    FnOk P w K mg base (L2.CX P w) (k + 1) f fd ps (spF ⟨P, w, K, ca⟩ ps.length (runF N.length g)) := by
  refine F.okX S (fun vs H Q E h => ?_) (fun cdv A outer s H vs Q E hr h => ⟨_, body cdv A outer s H E hr, ?_⟩)
  · obtain ⟨m, ds, h, _, r, l, _⟩ := h
    rw [← r.length, l]
  · obtain ⟨m, ds, h, rh, rd, l, p⟩ := h
    refine ⟨m, startD N.length ds, h, ⟨rh, start_rel (X := cxOf (L2.CX P w) P w K mg base N qual (defScope st) f cdv A outer s H E) rd⟩, ?_⟩
    have p' := PostF.fin rh (show PostF ⟨P, w, K, ca⟩ E h.length m H (finD h (toRes (g (startD N.length ds) h))) Q from p)
    cases e : g (startD N.length ds) h with
    | nx sd h1 => rw [e] at p'; exact fun m1 H1 σ1 a _ => p' m1 H1 .non a rfl
    | rt d h1 => rw [e] at p'; exact p'
    | ex k ns vs sd h1 => rw [e] at p'; exact fun m1 H1 dx σ1 a _ r => p' m1 H1 dx a r
    | bk _ _ => rw [e] at p'; exact p'.elim
    | ct _ _ => rw [e] at p'; exact p'.elim
    | bad => rw [e] at p'; exact p'.elim
/-- a def that is never called so deep -/
theorem fn_bad {P : Program} {w : World} {c : Cf} {mg : Str → Option Value} {base : Heap} {f : Addr} {fd : FuncData} {ps : List Str} {k n : Nat} (hn : n = ps.length) : FnOk P w K mg base (L2.CX P w) k f fd ps (spF c n fun _ => bad) :=
  ⟨fun vs H Q E h => by
    obtain ⟨m, ds, h, _, r, l, _⟩ := h
    rw [← r.length, l, hn], fun A outer s H args us vs Q E _ _ _ _ h => by
    obtain ⟨m, ds, h, _, _, _, p⟩ := h
    exact p.elim⟩
end
end Ev
set_option Elab.async false
set_option linter.all false
set_option maxRecDepth 100000
set_option maxHeartbeats 2000000
namespace Ev
open PySem PySem.Spec L2
open PyProof.Rows hiding St

section
variable {X : Cx} {ca : Str → Addr} {m m' : Nat → Addr} {h h' : Hh} {H H' : Hp} {sd : Sl} {σ : St} {W : WX} {pos : Pos} {s : Shared} {pins : List (Addr × Obj)}
mutual
theorem toNK_is (I : Inv X pins σ H s) {n : Nat} : ∀ (k : Nat) (d : D) (v : V) (u : Value) (x : NestedKey), toNK k d = some x → RelD X.K m n H d v → RelV v u → NestedIs s.heap x u ∧ x.depth ≤ k
  | 0, _, _, _, _, e, _, _ => by unfold toNK at e; cases e
  | k + 1, .non, v, u, x, e, r, q => by
    unfold toNK at e; cases e
    have r' : v = .non := r
    subst r'; cases q; exact ⟨.none, Nat.zero_le _⟩
  | k + 1, .int i, v, u, x, e, r, q => by
    unfold toNK at e; cases e
    have r' : v = .int i := r
    subst r'; obtain ⟨t, rfl⟩ := q; exact ⟨.int i t, Nat.zero_le _⟩
  | k + 1, .str i, v, u, x, e, r, q => by
    unfold toNK at e; cases e
    have r' : v = .str i := r
    subst r'; obtain ⟨t, rfl⟩ := q; exact ⟨.text i t, Nat.zero_le _⟩
  | k + 1, .tup ds, v, u, x, e, r, q => by
    unfold toNK at e
    cases z : toNKs k ds with
    | none => rw [z] at e; cases e
    | some xs =>
      rw [z] at e; cases e
      obtain ⟨a, vs, rfl, st, t⟩ := r
      cases q
      obtain ⟨its, rv, ⟨o, h1, h2, n, h3⟩, _⟩ := I.tuple st
      obtain ⟨p1, p2⟩ := toNKs_is I k ds vs its xs z t rv
      refine ⟨.tup h1 h2 h3 (by simpa using p1), ?_⟩
      show NestedKey.depthAll xs + 1 ≤ k + 1
      omega
  | k + 1, .bl _, _, _, _, e, _, _ => by unfold toNK at e; cases e
  | k + 1, .frl _, _, _, _, e, _, _ => by unfold toNK at e; cases e
  | k + 1, .ref _, _, _, _, e, _, _ => by unfold toNK at e; cases e
  | k + 1, .exc _ _ _, _, _, _, e, _, _ => by unfold toNK at e; cases e
theorem toNKs_is (I : Inv X pins σ H s) {n : Nat} : ∀ (k : Nat) (ds : List D) (vs : List V) (us : List Value) (xs : List NestedKey), toNKs k ds = some xs → RelDs X.K m n H ds vs → Vals vs us → NestedAll s.heap xs us ∧ NestedKey.depthAll xs ≤ k
  | k, [], vs, us, xs, e, r, q => by
    unfold toNKs at e; cases e
    have r' : vs = [] := r
    subst r'; cases q; exact ⟨.nil, Nat.zero_le _⟩
  | k, d :: ds, vs, us, xs, e, r, q => by
    unfold toNKs at e
    obtain ⟨x, vs', rfl, r1, r2⟩ := r
    cases q with
    | cons q1 q2 =>
      cases z : toNK k d with
      | none => rw [z] at e; cases e
      | some y =>
        rw [z] at e
        cases z2 : toNKs k ds with
        | none => rw [z2] at e; cases e
        | some ys =>
          rw [z2] at e; cases e
          obtain ⟨a1, a2⟩ := toNK_is I k d x _ y z r1 q1
          obtain ⟨b1, b2⟩ := toNKs_is I k ds vs' _ ys z2 r2 q2
          refine ⟨.cons a1 b1, ?_⟩
          show max y.depth (NestedKey.depthAll ys) ≤ k
          omega
end
theorem nk_is (I : Inv X pins σ H s) {n : Nat} {d : D} {v : V} {u : Value} {x : NestedKey} {b : Addr} (e : toNK nkD d = some x) (r : RelD X.K m n H d v) (q : RelV v u) (eb : u = .ref b) : (nestedKind X.prog X.w).is s.heap x b := by
  subst eb
  exact ⟨(toNK_is I nkD d v _ x e r q).1, by have z := (toNK_is I nkD d v _ x e r q).2; unfold nkD at z; exact z⟩
def isTupD : D → Bool
  | .tup _ => true
  | _ => false
theorem isTup_ref {K : PySem.W.Frag} {n : Nat} {d : D} {v : V} (e : isTupD d = true) (r : RelD K m n H d v) : ∃ b, v = .ref b := by
  cases d with
  | tup ds => obtain ⟨a, xs, e, _⟩ := r; exact ⟨a, e⟩
  | _ => cases e
/-- the values at a key -/
def lookN (k : NestedKey) : List (D × D) → Option D
  | [] => none
  | p :: ps => if toNK nkD p.1 = some k then some p.2 else lookN k ps
theorem RelNs.val {K : PySem.W.Frag} {n : Nat} (k : NestedKey) : ∀ {ps : List (D × D)} {xs : List (NestedKey × Addr × Value)}, RelNs K m n H ps xs →
    (∃ d b u v, lookN k ps = some d ∧ atKey xs k = some (b, u) ∧ RelD K m n H d v ∧ RelV v u) ∨ (lookN k ps = none ∧ atKey xs k = none)
  | [], xs, r => by
    have e : xs = [] := r
    rw [e]; exact .inr ⟨rfl, rfl⟩
  | p :: ps, _, r => by
    obtain ⟨k', b, u, v, zs, rfl, e1, e2, e3, e4, e5⟩ := r
    by_cases e : k' = k
    · refine .inl ⟨p.2, b, u, v, ?_, ?_, e3, e4⟩
      · unfold lookN
        rw [if_pos (by rw [e1, e])]
      · simp [atKey, List.find?_cons, e]
    · have a1 : lookN k (p :: ps) = lookN k ps := by
        show (if toNK nkD p.1 = some k then some p.2 else lookN k ps) = _
        rw [if_neg (by rw [e1]; exact fun z => e (Option.some.inj z))]
      have a2 : atKey ((k', b, u) :: zs) k = atKey zs k := by simp [atKey, List.find?_cons, e]
      rw [a1, a2]
      exact RelNs.val k e5
def dikAt (h : Hh) (i : Nat) : Option (List (D × D)) := match h[i]? with
  | some (.dik xs) => some xs
  | _ => none
theorem dikAt_eq {h : Hh} {i : Nat} {xs : List (D × D)} (e : dikAt h i = some xs) : h[i]? = some (.dik xs) := by
  unfold dikAt at e
  cases q : h[i]? with
  | none => rw [q] at e; cases e
  | some o =>
    rw [q] at e
    cases o with
    | dik ys => cases e; rfl
    | _ => cases e
theorem dikAt_of (r : RelH (cf X ca) m h H) {i : Nat} {ps : List (D × D)} (e : dikAt h i = some ps) : ∃ xs, H (m i) = some (DkX X.prog X.w (m i) xs) ∧ RelNs X.K m h.length H ps xs := r.ob i _ (dikAt_eq e)
/-- the dict at a, as it stands -/
theorem dk_at (I : Inv X pins σ H s) {a : Addr} {n : Nat} {ps : List (D × D)} {xs : List (NestedKey × Addr × Value)} (e : H a = some (DkX X.prog X.w a xs)) (r : RelNs X.K m n H ps xs) :
    xs.length ≤ sizeLine ∧ (a == sysModules) = false ∧ s.heap.DictOfH (nestedKind X.prog X.w) a xs := by
  obtain ⟨⟨z, hd, o, es, ep, h1, h2, h3, h4, h5⟩, _⟩ := I.hok a _ e
  refine ⟨z, hd, o, es, ep, h1, h2, h3, h4, ?_, h5⟩
  have all : ∀ {ps : List (D × D)} {xs : List (NestedKey × Addr × Value)}, RelNs X.K m n H ps xs → ∀ x ∈ xs, (nestedKind X.prog X.w).is s.heap x.1 x.2.1 := by
    intro ps
    induction ps with
    | nil =>
      intro xs r x hx
      have e : xs = [] := r
      rw [e] at hx; cases hx
    | cons p ps ih =>
      intro xs r x hx
      obtain ⟨k', b, u, v, zs, rfl, e1, e2, e3, e4, e5⟩ := r
      rcases List.mem_cons.mp hx with rfl | hx
      · exact nk_is I e1 e2 (u := .ref b) rfl rfl
      · exact ih e5 x hx
  exact all r
def rInK (X : Cx) (neg : Bool) : R2 := fun x y H Q => ∃ (a b : Addr) (n : Nat) (m : Nat → Addr) (d : D) (k : NestedKey) (ps : List (D × D)) (xs : List (NestedKey × Addr × Value)), x = .ref b ∧ y = .ref a ∧ toNK nkD d = some k ∧ RelD X.K m n H d x ∧
  H a = some (DkX X.prog X.w a xs) ∧ RelNs X.K m n H ps xs ∧ Q (.bl (if neg then !(lookN k ps).isSome else (lookN k ps).isSome)) H
theorem isSomeN {K : PySem.W.Frag} {n : Nat} (k : NestedKey) {ps : List (D × D)} {xs : List (NestedKey × Addr × Value)} (r : RelNs K m n H ps xs) : (atKey xs k).isSome = (lookN k ps).isSome := by
  rcases r.val k with ⟨d, b, u, v, e1, e2, _⟩ | ⟨e1, e2⟩ <;> rw [e1, e2] <;> rfl
theorem roomN (hu : X.A.units + 65 < cLine) : (nestedKind X.prog X.w).room X.A.in1 := by
  show X.A.units + 1 + 8 < cLine
  omega
theorem op_inK (hu : X.A.units + 65 < cLine) : OpR X (compareOp .In) (rInK X false) := by
  rintro pins s σ H x y v u Q I rx ry ⟨a, b, n, m, d, k, ps, xs, rfl, rfl, ek, rd, e, rp, q⟩
  obtain rfl : u = Value.ref a := ry
  obtain rfl : v = Value.ref b := rx
  obtain ⟨_, hd, dd⟩ := dk_at I e rp
  refine wpAny_in_heap (roomN hu) (nk_is I ek rd (u := .ref b) rfl rfl) hd dd ?_
  rw [isSomeN k rp]
  exact ⟨.bl (lookN k ps).isSome, H, I.tok _, rfl, q⟩
theorem op_notInK (hu : X.A.units + 65 < cLine) : OpR X (compareOp .NotIn) (rInK X true) := by
  rintro pins s σ H x y v u Q I rx ry ⟨a, b, n, m, d, k, ps, xs, rfl, rfl, ek, rd, e, rp, q⟩
  obtain rfl : u = Value.ref a := ry
  obtain rfl : v = Value.ref b := rx
  obtain ⟨_, hd, dd⟩ := dk_at I e rp
  refine wpAny_notIn_heap (roomN hu) (nk_is I ek rd (u := .ref b) rfl rfl) hd dd ?_
  rw [isSomeN k rp]
  exact ⟨.bl (!(lookN k ps).isSome), H, I.tok _, rfl, q⟩
def inDik (neg : Bool) (d : D) (ps : List (D × D)) (h : Hh) : Res D := match d with
  | .tup ds => match toNK nkD (.tup ds) with
    | some k => .ok (.bl (if neg then !(lookN k ps).isSome else (lookN k ps).isSome)) h
    | none => .bad
  | _ => .bad
/-- in, not in: of dicts with keys of any depth, too -/
def oInX (neg : Bool) (x y : D) : M D := fun h => match y with
  | .ref i => match dikAt h i with
    | some ps => inDik neg x ps h
    | none => oIn neg x (.ref i) h
  | y => oIn neg x y h
theorem oInX_ok {neg : Bool} {d1 d2 : D} {x y : V} {Q : VK} (rh : RelH (cf X ca) m h H) (r1 : RelD X.K m h.length H d1 x) (r2 : RelD X.K m h.length H d2 y) (p : PostG X ca W σ (RD X) h.length m H (oInX neg d1 d2 h) Q) : rInA X.K neg x y H Q ∨ rInK X neg x y H Q := by
  have key : oInX neg d1 d2 h = oIn neg d1 d2 h ∨ ∃ i ps, d2 = .ref i ∧ dikAt h i = some ps ∧ oInX neg d1 d2 h = inDik neg d1 ps h := by
    cases d2 with
    | ref i =>
      cases e : dikAt h i with
      | none => left; unfold oInX; simp only [e]
      | some ps => right; exact ⟨i, ps, rfl, e, by unfold oInX; simp only [e]⟩
    | _ => left; rfl
  rcases key with e | ⟨i, ps, rfl, e, e2⟩
  · rw [e] at p
    exact .inl (oIn_ok rh r1 r2 p)
  · rw [e2] at p
    obtain ⟨xs, ex, rn⟩ := dikAt_of rh e
    cases d1 with
    | tup ds =>
      unfold inDik at p
      cases e3 : toNK nkD (.tup ds) with
      | none => simp only [e3] at p; exact p.elim
      | some k =>
        simp only [e3] at p
        obtain ⟨b, eb⟩ := isTup_ref (d := .tup ds) rfl r1
        exact .inr ⟨m i, b, h.length, m, .tup ds, k, ps, xs, eb, r2.2, e3, r1, ex, rn, PostG.ret (R := RD X) (d := .bl (if neg then !(lookN k ps).isSome else (lookN k ps).isSome)) rh rfl p⟩
    | _ => exact p.elim
theorem e_inX (hu : X.A.units + 65 < cLine) : OpE X ca W (compareOp .In) (oInX false) := ⟨_, (op_inA hu).or (op_inK hu), fun σ m h H d1 d2 x y Q rh r1 r2 p => oInX_ok rh r1 r2 p⟩
theorem e_notinX (hu : X.A.units + 65 < cLine) : OpE X ca W (compareOp .NotIn) (oInX true) := ⟨_, (op_notInA hu).or (op_notInK hu), fun σ m h H d1 d2 x y Q rh r1 r2 p => oInX_ok rh r1 r2 p⟩

/-! ### d[k] = v -/
def putN (ps : List (D × D)) (k : NestedKey) (d v : D) : List (D × D) :=
  if (lookN k ps).isSome = true then ps.map (fun p => if toNK nkD p.1 = some k then (p.1, v) else p) else ps ++ [(d, v)]
theorem RelNs.repl {K : PySem.W.Frag} {n : Nat} (k : NestedKey) {d : D} {v : V} {u : Value} (rd : RelD K m n H d v) (rv : RelV v u) : ∀ {ps : List (D × D)} {xs : List (NestedKey × Addr × Value)}, RelNs K m n H ps xs → RelNs K m n H (ps.map fun p => if toNK nkD p.1 = some k then (p.1, d) else p) (xs.map (putAt k u))
  | [], xs, r => by
    have e : xs = [] := r
    rw [e]; rfl
  | p :: ps, _, r => by
    obtain ⟨k', b, u', v', zs, rfl, e1, e2, e3, e4, e5⟩ := r
    by_cases e : k' = k
    · refine ⟨k', b, u, v, zs.map (putAt k u), ?_, ?_, ?_, ?_, rv, RelNs.repl k rd rv e5⟩
      · rw [List.map_cons]; unfold putAt; rw [if_pos e]
      · simp only [if_pos (show toNK nkD p.1 = some k by rw [e1, e])]; exact e1
      · simp only [if_pos (show toNK nkD p.1 = some k by rw [e1, e])]; exact e2
      · simp only [if_pos (show toNK nkD p.1 = some k by rw [e1, e])]; exact rd
    · have ne : ¬ toNK nkD p.1 = some k := by rw [e1]; exact fun z => e (Option.some.inj z)
      refine ⟨k', b, u', v', zs.map (putAt k u), ?_, ?_, ?_, ?_, e4, RelNs.repl k rd rv e5⟩
      · rw [List.map_cons]; unfold putAt; rw [if_neg e]
      · simp only [if_neg ne]; exact e1
      · simp only [if_neg ne]; exact e2
      · simp only [if_neg ne]; exact e3
theorem RelNs.append {K : PySem.W.Frag} {n : Nat} : ∀ {ps qs : List (D × D)} {xs ys : List (NestedKey × Addr × Value)}, RelNs K m n H ps xs → RelNs K m n H qs ys → RelNs K m n H (ps ++ qs) (xs ++ ys)
  | [], _, xs, _, r, r2 => by
    have e : xs = [] := r
    rw [e]; exact r2
  | p :: ps, _, _, _, r, r3 => by
    obtain ⟨k', b, u', v', zs, rfl, e1, e2, e3, e4, e5⟩ := r
    exact ⟨k', b, u', v', _, rfl, e1, e2, e3, e4, RelNs.append e5 r3⟩
theorem RelNs.put {K : PySem.W.Frag} {n : Nat} {k : NestedKey} {dk d : D} {v : V} {u : Value} {b : Addr} (ek : toNK nkD dk = some k) (rk : RelD K m n H dk (.ref b)) (rd : RelD K m n H d v) (rv : RelV v u) {ps : List (D × D)} {xs : List (NestedKey × Addr × Value)} (r : RelNs K m n H ps xs) : RelNs K m n H (putN ps k dk d) (storedH xs k b u) := by
  unfold putN storedH
  rw [isSomeN k r]
  by_cases e : (lookN k ps).isSome = true
  · rw [if_pos e, if_pos e]
    exact r.repl k rd rv
  · rw [if_neg e, if_neg e]
    exact r.append ⟨k, b, u, v, [], rfl, ek, rk, rd, rv, rfl⟩
theorem RelNs.length {K : PySem.W.Frag} {n : Nat} : ∀ {ps : List (D × D)} {xs : List (NestedKey × Addr × Value)}, RelNs K m n H ps xs → ps.length = xs.length
  | [], xs, r => by
    have e : xs = [] := r
    rw [e]; rfl
  | p :: ps, _, r => by
    obtain ⟨k', b, u', v', zs, rfl, e1, e2, e3, e4, e5⟩ := r
    rw [List.length_cons, List.length_cons, RelNs.length e5]
def setDik (d k v : D) (h : Hh) : Option Hh := match d with
  | .ref a => match dikAt h a with
    | some ps => match k with
      | .tup ds => match toNK nkD (.tup ds) with
        | some x => if ps.length < LL then some (h.set a (.dik (putN ps x (.tup ds) v))) else none
        | none => none
      | _ => none
    | none => none
  | _ => none
def sDputN (fo fi fv : Sl → M D) : SF := eS fv fun v sd h => eS fo (fun o sd h => eS fi (fun i sd h => match setDik o i v h with
  | some h' => .nx sd h'
  | none => .bad) sd h) sd h
theorem dkx_ok {P : Program} {w : World} {H : Hp} {h : Heap} {a : Addr} {xs : List (NestedKey × Addr × Value)} (z : xs.length ≤ sizeLine) (hd : (a == sysModules) = false) (dd : h.DictOfH (nestedKind P w) a xs) : ObjOk P w H h a (DkX P w a xs) := by
  obtain ⟨o, es, ep, h1, h2, h3, h4, _, h5⟩ := dd
  refine ⟨⟨z, hd, o, es, ep, h1, h2, h3, h4, h5⟩, ⟨o, h1⟩, ?_⟩
  rintro g1 g2 ⟨z, hd, o, es, ep, h1, h2, h3, h4, h5⟩ k
  exact ⟨z, hd, o, es, ep, k _ h1, h2, h3, h4, h5⟩
theorem setDik_ok {d i v : D} {x y z : V} {u w' : Value} {e : Expr} {E : Value → Shared → Prop} {Q : Unit → Shared → Prop} (hu : X.A.units + 65 < cLine) (I : Inv X pins σ H s) (rh : RelH (cf X ca) m h H) (r1 : RelD X.K m h.length H d x) (r2 : RelD X.K m h.length H i y) (r3 : RelD X.K m h.length H v z) (e : setDik d i v h = some h')
    {ux uy uz : Value} (q1 : RelV x ux) (q2 : RelV y uy) (q3 : RelV z uz) (hq : ∀ H' s', To (cf X ca) h.length m H m h' H' → Inv X pins σ H' s' → Q () s') : wpAny (model X.prog X.w) X.A (setItem ux uy uz) Q E s := by
  unfold setDik at e
  split at e
  · rename_i a
    split at e
    · rename_i ps hd
      split at e
      · rename_i ds
        split at e
        · rename_i k hk
          split at e
          · rename_i hz
            cases e
            obtain ⟨xs, ex, t⟩ := dikAt_of rh hd
            obtain ⟨zl, hdd, dd⟩ := dk_at I ex t
            obtain ⟨b, eb⟩ := isTup_ref (d := .tup ds) rfl r2
            subst eb
            have ex1 : x = .ref (m a) := r1.2
            subst ex1
            obtain rfl : ux = Value.ref (m a) := q1
            obtain rfl : uy = Value.ref b := q2
            refine wpAny_setItem_heap (hsz := zl) (roomN hu) (nk_is I hk r2 (u := .ref b) rfl rfl) dd fun h2 hm hs => ?_
            have hlen : (storedH xs k b uz).length ≤ sizeLine := by
              have := storedH_length xs k b uz
              rw [sizeLine_eq]
              have := t.length
              have hz' : ps.length < 16777216 := hz
              omega
            have to := To.set (c := cf X ca) rh r1.1 (u := DkX X.prog X.w (m a) (storedH xs k b uz)) (o := .dik (putN ps k (.tup ds) v)) fun H' x' e' => ⟨_, by rw [e']; exact upd_same, (t.put hk r2 r3 q3).ext x' rh (Nat.le_refl _)⟩
            refine hq _ _ to (d_write I (by rw [ex]; exact True.intro) hs ?_ (dkx_ok hlen hdd hm))
            obtain ⟨o, _, _, ho, _⟩ := hm
            exact ⟨o, ho⟩
          · cases e
        · cases e
      · cases e
    · cases e
  · cases e
theorem sv_dputN {o i e : Expr} {fo fi fv : Sl → M D} {p' : Pos} (hu : X.A.units + 65 < cLine) (he : EV X ca W e fv) (ho : EV X ca W o fo) (hi : EV X ca W i fi) (hs : swapsWith e (some (.Subscript o i p')) pos.line X.env = pure false := by rfl) : SV X ca W (.Assign [.Subscript o i p'] e pos) (sDputN fo fi fv) := by
  refine ⟨fun pins s σ H E I ⟨m, sd, h, c, p⟩ => ?_⟩
  obtain ⟨m0, sd0, h0, c0, p0⟩ := eS_t (R := RD X) (f := fv) c p
  refine wpAny_Assign_Subscript (thn (he.run pins s σ H _ I ⟨m0, sd0, h0, c0, p0⟩) fun r s1 ⟨z, H1, I1, rv, v, m1, h1, a1, c1, r1, p1⟩ => ?_) hs
  obtain ⟨m0, sd0, h0, c0, p0⟩ := eS_t (R := RD X) (f := fo) c1 p1
  refine thn (ho.run pins s1 σ H1 _ I1 ⟨m0, sd0, h0, c0, p0⟩) fun ux s2 ⟨x, H2, I2, rx, d, m2, h2, a2, c2, r2, p2⟩ => ?_
  obtain ⟨m0, sd0, h0, c0, p0⟩ := eS_t (R := RD X) (f := fi) c2 p2
  refine thn (hi.run pins s2 σ H2 _ I2 ⟨m0, sd0, h0, c0, p0⟩) fun uy s3 ⟨y, H3, I3, ry, i, m3, h3, a3, c3, r3, p3⟩ => ?_
  have p4 : PostS X ca W h3.length m3 H3 (match setDik d i v h3 with
    | some h' => .nx sd h'
    | none => .bad) E := p3
  cases e4 : setDik d i v h3 with
  | none => rw [e4] at p4; exact p4.elim
  | some h4 =>
    rw [e4] at p4
    exact setDik_ok (e := e) (u := ux) (w' := ux) hu I3 c3.rel (a3.d c2.rel r2) r3 (a3.d c2.rel (a2.d c1.rel r1)) e4 rx ry rv fun H' s' to I' => ⟨σ, H', I', p4 m3 H' σ to (c3.to to).sl⟩
/-! ### {k: v} -/
def vDisN (fk fv : Sl → M D) : Sl → M D := fun sd => bnd (fk sd) fun k => bnd (fv sd) fun v h => match k with
  | .tup ds => match toNK nkD (.tup ds) with
    | some _ => .ok (.ref h.length) (h ++ [.dik [(.tup ds, v)]])
    | none => .bad
  | _ => .bad
theorem dict_pairsH {prog : Program} {w : World} {A : Around} {E : Value → Shared → Prop} {s : Shared} {knd : HeapKind prog w NestedKey} {env : Env} {keys : List (Option Expr)} {values : List Expr} {pos : Pos} {pairs : List (Sem Value × Sem Value)} {Q : Value → Shared → Prop} (hu : knd.room A)
    (hshape : (evalEachOpt keys env).zip ((evalEach values env).map fun v => do let x ← v; standAt pos; pure x) = pairs.map fun p => (some p.1, p.2)) (h0 : pairs ≠ []) (hlen : pairs.length ≤ 15)
    (h : wpAny (model prog w) A (evalPairs pairs) (fun vs s₁ => ∃ ps, CarriesH knd s₁.heap vs ps ∧ s₁.heap.DictOfH knd s.heap.objs.size [] ∧
      ∀ h' tk, h'.DictOfH knd s.heap.objs.size (storedAllH [] ps) → Heap.SameBut s.heap.objs.size s₁.heap h' → Q (.ref s.heap.objs.size) { s₁ with heap := h', toks := tk }) E
      { s with heap := s.heap.push { cls := .type "dict", data := .dict #[] } }) :
    wpAny (model prog w) A (eval (.Dict keys values pos) env) Q E s := by
  rw [arm_eval_Dict, hshape, dictDisplay_pairs pairs h0 (by omega)]
  exact wpAny_bind (wpAny_standAt (wpAny_bind (wpAny_subDictH (knd := knd) (Q := fun d s' => wpAny (model prog w) A (pure (Value.ref d)) Q E s') hu hlen
    (wpAny_mono h (fun vs s₁ h₁ => by obtain ⟨ps, hc, hm, hq⟩ := h₁; exact ⟨ps, hc, hm, fun h' tk a b => wpAny_pure (hq h' tk a b)⟩) fun _ _ e => e))))
theorem dkx_new {P : Program} {w : World} {H : Hp} (h : Heap) (hb : sysModules < h.objs.size) : ObjOk P w H (h.push { cls := .type "dict", data := .dict #[] }) h.objs.size (DkX P w h.objs.size []) :=
  dkx_ok (Nat.zero_le _) (beq_eq_false_iff_ne.mpr (Ne.symm (Nat.ne_of_lt hb))) (Heap.DictOfH.new h)
theorem tG_bndE {α α2 β β2 : Type} {R : (Nat → Addr) → Nat → Hp → α → β → Prop} {R2 : (Nat → Addr) → Nat → Hp → α2 → β2 → Prop} {f : Sl → M α} {k : α → M α2} {Q : β2 → Hp → Prop} (c : Cu X ca m h H sd σ)
    (p : PostG X ca W σ R2 h.length m H (bnd (f sd) k h) Q) :
    PostG X ca W σ R h.length m H (f sd h) (fun x H1 => ∃ d m1 h1, f sd h = .ok d h1 ∧ To (cf X ca) h.length m H m1 h1 H1 ∧ Cu X ca m1 h1 H1 sd σ ∧ R m1 h1.length H1 d x ∧ PostG X ca W σ R2 h1.length m1 H1 (k d h1) Q) := by
  unfold bnd at p
  cases e : f sd h with
  | ok d h1 =>
    rw [e] at p
    exact fun m1 H1 v a r => ⟨d, m1, h1, rfl, a, c.to a, r, p.to a⟩
  | exn k ns vs h1 =>
    rw [e] at p
    exact p
  | bad =>
    rw [e] at p
    exact p
theorem ev_disN {k v : Expr} {fk fv : Sl → M D} (hu : X.A.units + 65 < cLine) (hk : EV X ca W k fk) (hv : EV X ca W v fv) : EV X ca W (.Dict [some k] [v] pos) (vDisN fk fv) := by
  refine ⟨fun pins s σ H Q I ⟨m, sd, h, c, p⟩ => ?_⟩
  have hn := I.hok.fresh (Nat.le_refl s.heap.objs.size)
  have I1 := I.laid (a := s.heap.objs.size) (o := DkX X.prog X.w s.heap.objs.size []) (h' := s.heap.push { cls := .type "dict", data := .dict #[] }) (t' := s.toks) (fun _ _ q => Heap.get?_push_of_some _ q) (Nat.le_refl _) (dkx_new s.heap I.big)
  have to0 := To.new (c := cf X ca) c.rel (u := DkX X.prog X.w s.heap.objs.size []) hn
  have o0 : Out m h.length s.heap.objs.size := fun i hi z => by
    obtain ⟨u, e⟩ := c.rel.tr i hi
    rw [z, hn] at e
    cases e
  have e0 : (upd H s.heap.objs.size (DkX X.prog X.w s.heap.objs.size [])) s.heap.objs.size = some (DkX X.prog X.w s.heap.objs.size []) := upd_same
  have c0 := c.to to0
  have pr := p.to to0
  have p0 := tG_bndE (R := RD X) (f := fk) (R2 := RD X) c0 pr
  refine dict_pairsH (knd := nestedKind X.prog X.w) (pairs := pairTrees [some k] [v] X.env pos) (by show X.A.units + 8 < cLine; omega) (zip_pairTrees [some k] [v] X.env pos rfl rfl) (fun z => by have := congrArg List.length z; rw [pairTrees_length _ _ _ _ rfl rfl] at this; cases this) (by rw [pairTrees_length _ _ _ _ rfl rfl]; exact (by decide : 1 ≤ 15)) ?_
  refine pairTrees_cons_walk (thn (hk.run pins _ σ _ _ I1 ⟨m, sd, h, c0, p0⟩) fun ux s1 ⟨x, H1, I1, rx, dk, m1, h1, q1, a1, c1, r1, p1⟩ => ?_)
  have p0' := tG_bndE (R := RD X) (f := fv) (R2 := RD X) c1 p1
  refine thn (hv.run pins s1 σ H1 _ I1 ⟨m1, sd, h1, c1, p0'⟩) fun uy s2 ⟨y, H2, I2, ry, dv, m2, h2, q2, a2, c2, r2, p2⟩ => ?_
  refine pairTrees_nil_walk ?_
  unfold vDisN bnd at p
  rw [q1] at p
  simp only [] at p
  rw [q2] at p
  simp only [] at p
  cases dk with
  | tup ds =>
    simp only [] at p
    cases e3 : toNK nkD (.tup ds) with
    | none => rw [e3] at p; exact p.elim
    | some kk =>
      rw [e3] at p
      simp only [] at p
      obtain ⟨e1, o1⟩ := a1.out e0 o0
      obtain ⟨e2, o2⟩ := a2.out e1 o1
      have r1' := a2.d c1.rel r1
      obtain ⟨b, eb⟩ := isTup_ref (d := .tup ds) rfl r1'
      subst eb
      obtain rfl : ux = Value.ref b := rx
      obtain ⟨_, hdd, dd⟩ := dk_at (n := h2.length) (ps := []) (m := m2) I2 e2 rfl
      refine ⟨[(kk, b, uy)], ⟨rfl, rfl, nk_is I2 e3 r1' (u := .ref b) rfl rfl, trivial⟩, dd, fun hp tk dd' hs => ?_⟩
      have ds1 : hp.DictOfH (nestedKind X.prog X.w) s.heap.objs.size [(kk, b, uy)] := dd'
      have he : ∃ q, hp.get? s.heap.objs.size = some q := let ⟨q, _, _, hq, _⟩ := ds1; ⟨q, hq⟩
      have I3 := d_write (t' := tk) I2 (by rw [e2]; exact True.intro) hs he (dkx_ok (H := upd H2 s.heap.objs.size (DkX X.prog X.w s.heap.objs.size [(kk, b, uy)])) (by rw [sizeLine_eq]; exact (by decide : 1 ≤ 16777216)) hdd ds1)
      have toA := (To.trans (To.trans to0 a1) a2)
      obtain ⟨t1, t2⟩ := upd_imm' (u := DkX X.prog X.w s.heap.objs.size [(kk, b, uy)]) e2 trivial
      have toB := toA.side' (u := DkX X.prog X.w s.heap.objs.size [(kk, b, uy)]) hn e2 trivial o2
      obtain ⟨m5, toC, em, _⟩ := toB.adopt (o := .dik [(.tup ds, dv)]) hn o2 ⟨_, upd_same, kk, b, uy, y, [], rfl, e3, r1'.imm t1 t2, r2.imm t1 t2, ry, rfl⟩
      exact ⟨.ref s.heap.objs.size, _, I3, rfl, p m5 _ _ toC ⟨by rw [List.length_append]; exact Nat.lt_succ_self _, by rw [em]⟩⟩
  | _ => exact p.elim
end
end Ev
set_option Elab.async false
set_option linter.all false
set_option maxRecDepth 100000
set_option maxHeartbeats 2000000
namespace Ev
open PySem PySem.Spec L2
open PyProof.Rows hiding St

section
variable {X : Cx} {ca : Str → Addr} {m m' : Nat → Addr} {h h' : Hh} {H H' : Hp} {sd : Sl} {σ : St} {W : WX} {pos : Pos} {s : Shared} {pins : List (Addr × Obj)}
def insI (x : Int) : List Int → List Int
  | [] => [x]
  | y :: ys => if x ≤ y then x :: y :: ys else y :: insI x ys
def sortI : List Int → List Int
  | [] => []
  | x :: xs => insI x (sortI xs)
theorem insI_perm (x : Int) : ∀ l, (insI x l).Perm (x :: l)
  | [] => .refl _
  | y :: ys => by
    unfold insI
    by_cases c : x ≤ y
    · rw [if_pos c]
    · rw [if_neg c]
      exact ((insI_perm x ys).cons y).trans (List.Perm.swap x y ys)
theorem sortI_perm : ∀ l, (sortI l).Perm l
  | [] => .refl _
  | x :: xs => (insI_perm x (sortI xs)).trans ((sortI_perm xs).cons x)
theorem insI_pw (x : Int) : ∀ l : List Int, l.Pairwise (· ≤ ·) → (insI x l).Pairwise (· ≤ ·)
  | [], _ => List.pairwise_singleton _ _
  | y :: ys, p => by
    have ⟨p1, p2⟩ := List.pairwise_cons.mp p
    unfold insI
    by_cases c : x ≤ y
    · rw [if_pos c]
      refine List.pairwise_cons.mpr ⟨fun z hz => ?_, p⟩
      rcases List.mem_cons.mp hz with e | hz
      · rw [e]; exact c
      · exact Int.le_trans c (p1 z hz)
    · rw [if_neg c]
      refine List.pairwise_cons.mpr ⟨fun z hz => ?_, insI_pw x ys p2⟩
      rcases List.mem_cons.mp ((insI_perm x ys).mem_iff.mp hz) with e | hz
      · rw [e]; omega
      · exact p1 z hz
theorem sortI_pw : ∀ l : List Int, (sortI l).Pairwise (· ≤ ·)
  | [] => List.Pairwise.nil
  | x :: xs => insI_pw x _ (sortI_pw xs)
theorem pw_uniq : ∀ {l k : List Int}, l.Pairwise (· ≤ ·) → k.Pairwise (· ≤ ·) → l.Perm k → l = k
  | [], k, _, _, p => p.nil_eq
  | x :: l, [], _, _, p => absurd p.length_eq (by simp)
  | x :: l, y :: k, hl, hk, p => by
    have ⟨a1, a2⟩ := List.pairwise_cons.mp hl
    have ⟨b1, b2⟩ := List.pairwise_cons.mp hk
    have e : x = y := by
      have h1 : x ≤ y := by
        rcases List.mem_cons.mp (p.mem_iff.mpr (List.mem_cons_self (a := y) (l := k))) with e | h
        · rw [e]; exact Int.le_refl _
        · exact a1 y h
      have h2 : y ≤ x := by
        rcases List.mem_cons.mp (p.mem_iff.mp (List.mem_cons_self (a := x) (l := l))) with e | h
        · rw [e]; exact Int.le_refl _
        · exact b1 x h
      omega
    subst e
    rw [pw_uniq a2 b2 (List.Perm.cons_inv p)]
/-- sorted(xs), ints -/
def dSorted (d : D) : M D := fun h => match d with
  | .ref i => match lstAt h i with
    | some ds => match intsOf ds with
      | some ns => .ok (.ref h.length) (h ++ [.lst ((sortI ns).map D.int)])
      | none => .bad
    | none => .bad
  | _ => .bad
theorem relDs_ints {K : PySem.W.Frag} {n : Nat} : ∀ ns : List Int, RelDs K m n H (ns.map D.int) (ns.map V.int)
  | [] => rfl
  | i :: ns => ⟨.int i, ns.map V.int, rfl, rfl, relDs_ints ns⟩
theorem c_sorted : CallE X ca W (.builtin "sorted") (f1 dSorted) := by
  refine callE1 (r := fun x H Q => ∃ (a : Addr) (ns : List Int), x = V.ref a ∧ SqL X.K H a (ns.map V.int) ∧ ∀ (ns' : List Int) (p : Addr), ns'.Perm ns → ns'.Pairwise (· ≤ ·) → H p = none → Q (.ref p) (upd H p (.lst (ns'.map V.int))))
    (callImp cr_sortedI fun xs H Q q => ?_) fun σ m h H d x Q rh r1 p => ?_
  · obtain ⟨x, rfl, a, ns, rfl, q⟩ := q
    exact ⟨a, ns, rfl, q⟩
  · cases d with
    | ref i =>
      have p' : PostG X ca W σ (RD X) h.length m H (match lstAt h i with
        | some ds => match intsOf ds with
          | some ns => .ok (.ref h.length) (h ++ [.lst ((sortI ns).map D.int)])
          | none => .bad
        | none => .bad) Q := p
      cases e : lstAt h i with
      | none => rw [e] at p'; exact p'.elim
      | some ds =>
        rw [e] at p'
        have p2 : PostG X ca W σ (RD X) h.length m H (match intsOf ds with
          | some ns => .ok (.ref h.length) (h ++ [.lst ((sortI ns).map D.int)])
          | none => .bad) Q := p'
        cases e2 : intsOf ds with
        | none => rw [e2] at p2; exact p2.elim
        | some ns =>
          rw [e2] at p2
          obtain ⟨vx, ex, t⟩ := lstAt_of rh e
          have ev := ints_rel t e2
          subst ev
          refine ⟨m i, ns, r1.2, .of ex, fun ns' q pp pw nq => ?_⟩
          have en : ns' = sortI ns := pw_uniq pw (sortI_pw ns) (pp.trans (sortI_perm ns).symm)
          rw [en]
          exact lst_in rh (relDs_ints _) nq p2
    | _ => exact p.elim
end
end Ev
set_option Elab.async false
set_option linter.all false
set_option maxRecDepth 100000
set_option maxHeartbeats 2000000
namespace Ev
open PySem PySem.Spec L2
open PyProof.Rows hiding St

theorem cx_none {P : Program} {w : World} {H : Hp} {s s' : Shared} {u : Value} {o : List Env} (h : L2.CX P w o H s (fun _ _ _ => False) u s') : False := by
  obtain ⟨_, _, _, _, _, _, _, _, _, _, _, _, z⟩ := h
  exact z
theorem hr65 {k : Nat} {A : Around} (r : Room k A) : A.units + 65 < cLine := by
  have := r.un
  omega
/-- what the top has written of a def -/
structure DefF (K : PySem.W.Frag) (mg : Str → Option Value) (x : Str) (st : Stmt) (ps : List Str) where
  a : Addr
  fd : FuncData
  F : Fun K x x st a fd
  B : Binds K fd ps []
  g : mg x = some (.ref a)
theorem DefF.kp {K : PySem.W.Frag} {mg : Str → Option Value} {x : Str} {st : Stmt} {ps : List Str} (d : DefF K mg x st ps) : PySem.W.keepIn K (.ref d.a) = true := d.F.kp
section
variable {X : Cx} {ca : Str → Addr} {W : WX} {pos : Pos}
/-- a def of one's own called, the number of its parameters written -/
theorem ev_fn {n k : Nat} {f : Addr} {fd : FuncData} {ps : List Str} {F : List D → M D} {x : Str} {p : Pos} {e : Expr} {es : List Expr} {g : Sl → M (List D)} (tk : Takes X W) (G : FnOk X.prog X.w X.K X.mg X.base (L2.CX X.prog X.w) k f fd ps (spF (cf X ca) n F)) (hr : Room k X.A) (hm : X.mg x = some (.ref f)) (hk : PySem.W.keepIn X.K (.ref f) = true) (hb : Binds X.K fd ps [])
    (ha : AV X ca W (e :: es) g) (hn : ps.length = n := by rfl) (hg : Gl X x := by rfl) (hdb : (x == ("__debug__" : Str)) = false := by decide) (he : starEach (e :: es) X.env = (false, eval e X.env) :: starEach es X.env := by rfl) (hpl : (backTo pos (starEach es X.env)).any (·.1) = false := by rfl) :
    EV X ca W (.Call (.Name x p) (e :: es) [] pos) (vFn n F g) := by
  subst hn
  exact ev_call tk G hr hm hk hb ha hg hdb he hpl
end
section
variable {c : Cf} {K : PySem.W.Frag}
theorem frl_ints {m : Nat → Addr} {n : Nat} {H : Hp} : ∀ ns : List Int, RelDs K m n H (ns.map D.int) (ns.map V.int)
  | [] => rfl
  | i :: ns => ⟨.int i, ns.map V.int, rfl, rfl, frl_ints ns⟩
theorem law_start {n : Nat} {ca : Str → Addr} {P : Program} {w : World} {F : List D → M D} (law : ∀ ns : List Int, ns.length ≤ n → ∃ h, F [.frl (ns.map D.int)] [] = .ok (.bl true) h) {H : Hp} {a : Addr} {ns : List Int} (hl : ns.length ≤ n) (hO : Only H) (hS : SqL K H a (ns.map V.int)) :
    spF ⟨P, w, K, ca⟩ 1 F [.ref a] H (fun v _ => v = .bl true) fun _ _ _ => False := by
  refine ⟨fun _ => 0, [.frl (ns.map D.int)], [], ⟨fun i o e => by simp at e, fun i j hi => by simp at hi⟩, ⟨_, [], rfl, ⟨a, _, rfl, ?_, frl_ints ns⟩, rfl⟩, rfl, ?_⟩
  · rcases hS with (hS | ⟨o, hS⟩) | hS
    · rcases hO a with e | ⟨o, xs, e⟩
      · rw [e] at hS; cases hS
      · rw [e] at hS; cases hS
    · exact .inl ⟨o, hS⟩
    · exact .inr hS
  · obtain ⟨h, e⟩ := law ns hl
    rw [e]
    exact fun m' H' v _ r => r
end
end Ev
set_option Elab.async false
set_option linter.all false
set_option maxRecDepth 100000
set_option maxHeartbeats 2000000
namespace Ev
open PySem PySem.Spec L2
/-! ### the shallow functions, run by simp -/
section
variable {α β : Type} {h h' : Hh} {sd : Sl}
@[simp] theorem bnd_ap (f : M α) (k : α → M β) : bnd f k h = (match f h with
  | .ok a h' => k a h'
  | .exn e ns vs h' => .exn e ns vs h'
  | .bad => .bad) := rfl
@[simp] theorem ite_ap {c : Prop} [Decidable c] (f g : M α) : (if c then f else g) h = if c then f h else g h := by
  by_cases z : c
  · rw [if_pos z, if_pos z]
  · rw [if_neg z, if_neg z]
@[simp] theorem bad_ap : (bad : M α) h = .bad := rfl
@[simp] theorem ret_ap (a : α) : ret a h = .ok a h := rfl
@[simp] theorem cst_ap (d : D) : cst d sd h = .ok d h := rfl
@[simp] theorem bin2_ap (g : D → D → M D) (fa fb : Sl → M D) : bin2 g fa fb sd h = bnd (fa sd) (fun x => bnd (fb sd) fun y => g x y) h := rfl
@[simp] theorem oSub_ap (i j : Int) : oSub (.int i) (.int j) h = .ok (.int (i - j)) h := rfl
@[simp] theorem oAdd_ap (i j : Int) : oAdd (.int i) (.int j) h = .ok (.int (i + j)) h := rfl
@[simp] theorem oLt_ap (i j : Int) : oLt (.int i) (.int j) h = .ok (.bl (decide (i < j))) h := rfl
@[simp] theorem oLe_ap (i j : Int) : oLe (.int i) (.int j) h = .ok (.bl (decide (i ≤ j))) h := rfl
@[simp] theorem oGt_ap (i j : Int) : oGt (.int i) (.int j) h = .ok (.bl (decide (j < i))) h := rfl
@[simp] theorem oGe_ap (i j : Int) : oGe (.int i) (.int j) h = .ok (.bl (decide (j ≤ i))) h := rfl
@[simp] theorem oEq_ap (i j : Int) : oEqN false (.int i) (.int j) h = .ok (.bl (i == j)) h := rfl
@[simp] theorem oNe_ap (i j : Int) : oEqN true (.int i) (.int j) h = .ok (.bl (!(i == j))) h := rfl
@[simp] theorem isN_ap (x : D) : oIsN false x .non h = .ok (.bl (isN x)) h := rfl
@[simp] theorem isNN_ap (x : D) : oIsN true x .non h = .ok (.bl (!isN x)) h := rfl
@[simp] theorem getS_ap (i : Nat) : getS i sd h = (match sd[i]? with
  | some (some (.exc _ _ _)) => .bad
  | some (some d) => .ok d h
  | _ => .bad) := rfl
@[simp] theorem tb_ap (f : Sl → M D) : tb f sd h = bnd (f sd) (fun d => match d with
  | .bl b => ret b
  | _ => bad) h := rfl
@[simp] theorem tAnd_ap (f g : Sl → M Bool) : tAnd' f g sd h = bnd (f sd) (fun b => if b then g sd else ret false) h := rfl
@[simp] theorem tOr_ap (f g : Sl → M Bool) : tOr' f g sd h = bnd (f sd) (fun b => if b then ret true else g sd) h := rfl
@[simp] theorem tNot_ap (f : Sl → M Bool) : tNot' f sd h = bnd (f sd) (fun b => ret (!b)) h := rfl
@[simp] theorem vAnd_ap (f g : Sl → M D) : vAnd f g sd h = bnd (f sd) (fun d => isB d fun b => if b then g sd else ret (.bl false)) h := rfl
@[simp] theorem vOr_ap (f g : Sl → M D) : vOr f g sd h = bnd (f sd) (fun d => isB d fun b => if b then ret (.bl true) else g sd) h := rfl
@[simp] theorem vNot_ap (f : Sl → M D) : vNot f sd h = bnd (f sd) (fun d => isB d fun b => ret (.bl (!b))) h := rfl
@[simp] theorem isB_ap (b : Bool) (k : Bool → M D) : isB (.bl b) k = k b := rfl
@[simp] theorem vIf_ap (f : Sl → M Bool) (g k : Sl → M D) : vIf f g k sd h = bnd (f sd) (fun b => if b then g sd else k sd) h := rfl
@[simp] theorem neg_ap (f : Sl → M D) : neg f sd h = bnd (f sd) (fun d => match d with
  | .int i => ret (.int (-i))
  | _ => bad) h := rfl
@[simp] theorem aNil_ap : aNil sd h = .ok [] h := rfl
@[simp] theorem aCons_ap (f : Sl → M D) (g : Sl → M (List D)) : aCons f g sd h = bnd (f sd) (fun d => bnd (g sd) fun ds => ret (d :: ds)) h := rfl
@[simp] theorem vTup_ap (g : Sl → M (List D)) : vTup g sd h = bnd (g sd) (fun ds h => if ds.length ≤ 16777216 then .ok (.tup ds) h else .bad) h := by
  show bnd _ _ h = bnd _ _ h
  congr 1
  funext ds h
  by_cases c : ds.length ≤ LL
  · rw [if_pos c, if_pos (show ds.length ≤ 16777216 from c)]; rfl
  · rw [if_neg c, if_neg (show ¬ ds.length ≤ 16777216 from c)]; rfl
@[simp] theorem vLst_ap (g : Sl → M (List D)) : vLst g sd h = bnd (g sd) newL h := rfl
@[simp] theorem newL_ap (ds : List D) : newL ds h = if ds.length ≤ 16777216 then .ok (.ref h.length) (h ++ [.lst ds]) else .bad := rfl
@[simp] theorem ixT_ap (ds : List D) (i : Int) : ixD (.tup ds) (.int i) h = (match atI ds i with
  | some d => .ok d h
  | none => .bad) := rfl
@[simp] theorem ixF_ap (ds : List D) (i : Int) : ixD (.frl ds) (.int i) h = (match atI ds i with
  | some d => .ok d h
  | none => .bad) := rfl
@[simp] theorem ixL_ap (a : Nat) (i : Int) : ixD (.ref a) (.int i) h = (match lstAt h a with
  | some ds => (match atI ds i with
    | some d => .ok d h
    | none => .bad)
  | none => .bad) := rfl
@[simp] theorem vCall_ap (g : List D → M D) (f : Sl → M (List D)) : vCall g f sd h = bnd (f sd) g h := rfl
@[simp] theorem f1_ap (g : D → M D) (d : D) : f1 g [d] = g d := rfl
@[simp] theorem f2_ap (g : D → D → M D) (d e : D) : f2 g [d, e] = g d e := rfl
@[simp] theorem dLenT_ap (ds : List D) : dLen (.tup ds) h = .ok (.int ds.length) h := rfl
@[simp] theorem dLenF_ap (ds : List D) : dLen (.frl ds) h = .ok (.int ds.length) h := rfl
@[simp] theorem dLenL_ap (a : Nat) : dLen (.ref a) h = (match h[a]? with
    | some (.lst ds) => .ok (.int ds.length) h
    | some (.dic ps) => .ok (.int ps.length) h
    | _ => .bad) := rfl
@[simp] theorem dInt_ap (i : Int) : dInt (.int i) h = .ok (.int i) h := rfl
@[simp] theorem dMax2_ap (i j : Int) : dMax2 (.int i) (.int j) h = .ok (.int (if j > i then j else i)) h := rfl
@[simp] theorem dMin2_ap (i j : Int) : dMin2 (.int i) (.int j) h = .ok (.int (if j < i then j else i)) h := rfl
@[simp] theorem dListT_ap (ds : List D) : dList (.tup ds) h = .ok (.ref h.length) (h ++ [.lst ds]) := rfl
@[simp] theorem dListF_ap (ds : List D) : dList (.frl ds) h = .ok (.ref h.length) (h ++ [.lst ds]) := rfl
@[simp] theorem dTupleT_ap (ds : List D) : dTuple (.tup ds) h = .ok (.tup ds) h := rfl
@[simp] theorem dTupleL_ap (a : Nat) : dTuple (.ref a) h = (match lstAt h a with
  | some ds => .ok (.tup ds) h
  | none => .bad) := rfl
@[simp] theorem lTuple_ap (ds : List D) : lTuple ds h = .ok (.tup ds) h := rfl
@[simp] theorem eS_ap (f : Sl → M α) (k : α → SF) : eS f k sd h = (match f sd h with
  | .ok d h' => k d sd h'
  | .exn e ns vs h' => .ex e ns vs sd h'
  | .bad => .bad) := rfl
@[simp] theorem sNx_ap : sNx sd h = .nx sd h := rfl
@[simp] theorem sSeq_ap (f g : SF) : sSeq f g sd h = (match f sd h with
  | .nx sd' h' => g sd' h'
  | r => r) := rfl
@[simp] theorem sSet_ap (i : Nat) (f : Sl → M D) : sSet i f sd h = eS f (fun d sd h => .nx (sd.set i (some d)) h) sd h := rfl
@[simp] theorem sExpr_ap (f : Sl → M D) : sExpr f sd h = eS f (fun _ sd h => .nx sd h) sd h := rfl
@[simp] theorem sRet_ap (f : Sl → M D) : sRet f sd h = eS f (fun d _ h => .rt d h) sd h := rfl
@[simp] theorem sIf_ap (t : Sl → M Bool) (f g : SF) : sIf t f g sd h = eS t (fun b sd h => if b then f sd h else g sd h) sd h := rfl
@[simp] theorem vMeth_ap (ck : D → Hh → Bool) (k : D → List D → M D) (f : Sl → M D) (g : Sl → M (List D)) : vMeth ck k f g sd h = bnd (f sd) (fun x h => if ck x h = true then bnd (g sd) (fun ds => k x ds) h else .bad) h := rfl
@[simp] theorem ckL_ap (i : Nat) : ckL (.ref i) h = (lstAt h i).isSome := rfl
@[simp] theorem onL_ap (g : List D → List D → Option (List D × D)) (i : Nat) (as : List D) : onL g (.ref i) as h = (match lstAt h i with
    | some ds => (match g ds as with
      | some (ds', v) => .ok v (h.set i (.lst ds'))
      | none => .bad)
    | none => .bad) := rfl
@[simp] theorem gApp_ap (ds : List D) (d : D) : gApp ds [d] = if ds.length < 16777216 then some (ds ++ [d], .non) else none := rfl
@[simp] theorem sSetIx_ap (fo fi fv : Sl → M D) : sSetIx fo fi fv sd h = eS fv (fun v sd h => eS fo (fun o sd h => eS fi (fun i sd h => match setL o i v h with
  | some h' => .nx sd h'
  | none => .bad) sd h) sd h) sd h := rfl
@[simp] theorem setL_ap (a : Nat) (k : Int) (v : D) : setL (.ref a) (.int k) v h = (match lstAt h a with
      | some ds => (match ixN ds.length k with
        | some j => some (h.set a (.lst (ds.set j v)))
        | none => none)
      | none => none) := rfl
@[simp] theorem oNone_ap : oNone sd h = .ok none h := rfl
@[simp] theorem oSome_ap (f : Sl → M D) : oSome f sd h = bnd (f sd) (fun d => match d with
  | .int i => ret (some i)
  | _ => bad) h := rfl
@[simp] theorem vSl_ap (f : Sl → M D) (l u : Sl → M (Option Int)) : vSl f l u sd h = bnd (f sd) (fun x => bnd (l sd) fun lo => bnd (u sd) fun hi => slD x lo hi) h := rfl
@[simp] theorem slL_ap (a : Nat) (lo hi : Option Int) : slD (.ref a) lo hi h = (match lstAt h a with
    | some ds => .ok (.ref h.length) (h ++ [.lst (cutD ds lo hi)])
    | none => .bad) := rfl
@[simp] theorem oAddL_ap (i j : Nat) : oAdd (.ref i) (.ref j) h = (match lstAt h i, lstAt h j with
    | some xs, some ys => if xs.length + ys.length ≤ 16777216 then .ok (.ref h.length) (h ++ [.lst (xs ++ ys)]) else .bad
    | _, _ => .bad) := rfl
@[simp] theorem dSorted_ap (i : Nat) : dSorted (.ref i) h = (match lstAt h i with
    | some ds => (match intsOf ds with
      | some ns => .ok (.ref h.length) (h ++ [.lst ((sortI ns).map D.int)])
      | none => .bad)
    | none => .bad) := rfl
end
theorem ixN_nat' {n j : Nat} (hj : j < n) : ixN n (j : Int) = some j := by
  unfold ixN
  rw [if_pos (by omega), if_pos (by omega)]
  simp
/-! ### lists of the heap -/
section
variable {h h' : Hh} {a b : Nat} {xs ys : List D}
theorem lstAt_of_get (e : h[a]? = some (.lst xs)) : lstAt h a = some xs := by unfold lstAt; rw [e]
@[simp] theorem lstAt_new : lstAt (h ++ [.lst xs]) h.length = some xs := lstAt_of_get (by simp)
theorem lstAt_lt (e : lstAt h a = some xs) : a < h.length := (List.getElem?_eq_some_iff.mp (lstAt_eq e)).1
theorem lstAt_app {g : Hh} (e : lstAt h a = some xs) : lstAt (h ++ g) a = some xs := lstAt_of_get (by rw [List.getElem?_append_left (lstAt_lt e)]; exact lstAt_eq e)
@[simp] theorem lstAt_set_self (e : a < h.length) : lstAt (h.set a (.lst ys)) a = some ys := lstAt_of_get (List.getElem?_set_self e)
theorem lstAt_set_ne {o : O} (e : lstAt h a = some xs) (n : b ≠ a) : lstAt (h.set b o) a = some xs := lstAt_of_get (by rw [List.getElem?_set_ne n]; exact lstAt_eq e)
theorem lA_lt {g : Hh} (e : a < h.length) : lstAt (h ++ g) a = lstAt h a := by unfold lstAt; rw [List.getElem?_append_left e]
theorem lA_eq (e : a = h.length) : lstAt (h ++ [.lst xs]) a = some xs := by subst e; exact lstAt_new
theorem lS_eq (e : a < h.length) : lstAt (h.set a (.lst xs)) a = some xs := lstAt_set_self e
theorem lS_ne {o : O} (n : b ≠ a) : lstAt (h.set b o) a = lstAt h a := by unfold lstAt; rw [List.getElem?_set_ne n]
/-- all that stood stands, but for what lies at f -/
structure Kp (f : Nat) (h h' : Hh) : Prop where
  le : h.length ≤ h'.length
  at_ : ∀ i, i < h.length → i ≠ f → h'[i]? = h[i]?
theorem Kp.refl {f : Nat} : Kp f h h := ⟨Nat.le_refl _, fun _ _ _ => rfl⟩
theorem Kp.trans {f : Nat} {h2 : Hh} (p : Kp f h h') (q : Kp f h' h2) : Kp f h h2 := ⟨Nat.le_trans p.le q.le, fun i hi n => (q.at_ i (Nat.lt_of_lt_of_le hi p.le) n).trans (p.at_ i hi n)⟩
theorem Kp.app {f : Nat} {g : Hh} : Kp f h (h ++ g) := ⟨by simp, fun i hi _ => List.getElem?_append_left hi⟩
theorem Kp.set {f : Nat} {o : O} : Kp f h (h.set f o) := ⟨by simp, fun i hi n => List.getElem?_set_ne (Ne.symm n)⟩
theorem Kp.set_new {f i : Nat} {o : O} (p : Kp f h h') (hi : h.length ≤ i) : Kp f h (h'.set i o) := ⟨by simpa using p.le, fun j hj n => by rw [List.getElem?_set_ne (by omega)]; exact p.at_ j hj n⟩
theorem Kp.lst {f : Nat} (p : Kp f h h') (e : lstAt h a = some xs) (n : a ≠ f) : lstAt h' a = some xs := lstAt_of_get (by rw [p.at_ a (lstAt_lt e) n]; exact lstAt_eq e)
theorem Kp.dik {f : Nat} {ps : List (D × D)} (p : Kp f h h') (e : dikAt h a = some ps) (n : a ≠ f) : dikAt h' a = some ps := by
  have e2 := dikAt_eq e
  unfold dikAt
  rw [p.at_ a (List.getElem?_eq_some_iff.mp e2).1 n, e2]
end
end Ev
set_option Elab.async false
set_option linter.all false
set_option maxRecDepth 100000
set_option maxHeartbeats 2000000
namespace Ev
open PySem PySem.Spec L2
/-! ### what a shallow function ends in -/
def OkM {α : Type} (r : Res α) (Q : α → Hh → Prop) : Prop := ∃ a h, r = .ok a h ∧ Q a h
def exB : D → Bool
  | .exc _ _ _ => true
  | _ => false
/-- a statement's ends: on, a return -/
def OkS (r : RS) (N : Sl → Hh → Prop) (R : D → Hh → Prop) : Prop := (∃ sd h, r = .nx sd h ∧ N sd h) ∨ ∃ d h, r = .rt d h ∧ R d h
section
variable {α β : Type} {h h' : Hh} {sd : Sl} {Q : α → Hh → Prop} {QD : D → Hh → Prop} {QB : Bool → Hh → Prop} {QL : List D → Hh → Prop} {QO : Option Int → Hh → Prop} {QS : Src → Hh → Prop} {N : Sl → Hh → Prop} {R : D → Hh → Prop}
theorem OkM.imp {r : Res α} {Q' : α → Hh → Prop} (p : OkM r Q) (i : ∀ a h, Q a h → Q' a h) : OkM r Q' := let ⟨a, h, e, q⟩ := p; ⟨a, h, e, i _ _ q⟩
theorem OkS.imp {r : RS} {N' : Sl → Hh → Prop} {R' : D → Hh → Prop} (p : OkS r N R) (i : ∀ a h, N a h → N' a h) (j : ∀ a h, R a h → R' a h) : OkS r N' R' := by
  rcases p with ⟨a, h, e, q⟩ | ⟨a, h, e, q⟩
  · exact .inl ⟨a, h, e, i _ _ q⟩
  · exact .inr ⟨a, h, e, j _ _ q⟩
theorem o_eq {r r' : Res α} (e : r = r') (p : OkM r' Q) : OkM r Q := by rw [e]; exact p
theorem o_ok {a : α} (q : Q a h) : OkM (.ok a h) Q := ⟨a, h, rfl, q⟩
theorem o_ret {a : α} (q : Q a h) : OkM (ret a h) Q := ⟨a, h, rfl, q⟩
theorem o_bnd {f : M β} {k : β → M α} (p : OkM (f h) fun b h' => OkM (k b h') Q) : OkM (bnd f k h) Q := by
  obtain ⟨b, h1, e, p⟩ := p
  exact o_eq (by unfold bnd; rw [e]) p
theorem o_cst {d : D} (q : QD d h) : OkM (cst d sd h) QD := ⟨d, h, rfl, q⟩
theorem o_get {i : Nat} {d : D} (e : sd[i]? = some (some d)) (z : exB d = false) (q : QD d h) : OkM (getS i sd h) QD := ⟨d, h, by
  unfold getS
  rw [e]
  cases d <;> first | rfl | (exact absurd z (by decide)) | (cases z), q⟩
theorem o_bin2 {g : D → D → M D} {fa fb : Sl → M D} (p : OkM (fa sd h) fun x h1 => OkM (fb sd h1) fun y h2 => OkM (g x y h2) QD) : OkM (bin2 g fa fb sd h) QD := o_bnd (f := fa sd) (p.imp fun x h1 p => o_bnd (f := fb sd) p)
theorem o_tb {f : Sl → M D} (p : OkM (f sd h) fun d h' => ∃ b, d = .bl b ∧ QB b h') : OkM (tb f sd h) QB := o_bnd (f := f sd) (p.imp fun d h' ⟨b, e, q⟩ => by subst e; exact o_ret q)
theorem o_tbx {f : Sl → M D} (p : OkM (f sd h) fun d h' => OkM (match d with
  | .bl b => Res.ok b h'
  | _ => .bad) QB) : OkM (tb f sd h) QB := o_tb (p.imp fun d h' p => by
  cases d with
  | bl b => obtain ⟨b', h2, e, q⟩ := p; cases e; exact ⟨b, rfl, q⟩
  | _ => obtain ⟨b', h2, e, q⟩ := p; cases e)
theorem o_and {f g : Sl → M Bool} (p : OkM (f sd h) fun b h' => if b = true then OkM (g sd h') QB else QB false h') : OkM (tAnd' f g sd h) QB := o_bnd (f := f sd) (p.imp fun b h' p => by
  cases b with
  | true => exact p
  | false => exact o_ret p)
theorem o_or {f g : Sl → M Bool} (p : OkM (f sd h) fun b h' => if b = true then QB true h' else OkM (g sd h') QB) : OkM (tOr' f g sd h) QB := o_bnd (f := f sd) (p.imp fun b h' p => by
  cases b with
  | true => exact o_ret p
  | false => exact p)
theorem o_not {f : Sl → M Bool} (p : OkM (f sd h) fun b h' => QB (!b) h') : OkM (tNot' f sd h) QB := o_bnd (f := f sd) (p.imp fun b h' p => o_ret p)
theorem o_vand {f g : Sl → M D} (p : OkM (f sd h) fun d h' => ∃ b, d = .bl b ∧ if b = true then OkM (g sd h') QD else QD (.bl false) h') : OkM (vAnd f g sd h) QD := o_bnd (f := f sd) (p.imp fun d h' ⟨b, e, p⟩ => by
  subst e
  cases b with
  | true => exact p
  | false => exact o_ret p)
theorem o_vor {f g : Sl → M D} (p : OkM (f sd h) fun d h' => ∃ b, d = .bl b ∧ if b = true then QD (.bl true) h' else OkM (g sd h') QD) : OkM (vOr f g sd h) QD := o_bnd (f := f sd) (p.imp fun d h' ⟨b, e, p⟩ => by
  subst e
  cases b with
  | true => exact o_ret p
  | false => exact p)
theorem o_vnot {f : Sl → M D} (p : OkM (f sd h) fun d h' => ∃ b, d = .bl b ∧ QD (.bl (!b)) h') : OkM (vNot f sd h) QD := o_bnd (f := f sd) (p.imp fun d h' ⟨b, e, p⟩ => by subst e; exact o_ret p)
theorem o_vif {f : Sl → M Bool} {g k : Sl → M D} (p : OkM (f sd h) fun b h' => if b = true then OkM (g sd h') QD else OkM (k sd h') QD) : OkM (vIf f g k sd h) QD := o_bnd (f := f sd) (p.imp fun b h' p => by cases b <;> exact p)
theorem o_neg {f : Sl → M D} (p : OkM (f sd h) fun d h' => ∃ i, d = .int i ∧ QD (.int (-i)) h') : OkM (neg f sd h) QD := o_bnd (f := f sd) (p.imp fun d h' ⟨b, e, p⟩ => by subst e; exact o_ret p)
theorem o_nil (q : QL [] h) : OkM (aNil sd h) QL := ⟨[], h, rfl, q⟩
theorem o_cons {f : Sl → M D} {g : Sl → M (List D)} (p : OkM (f sd h) fun d h1 => OkM (g sd h1) fun ds h2 => QL (d :: ds) h2) : OkM (aCons f g sd h) QL := o_bnd (f := f sd) (p.imp fun x h1 p => o_bnd (f := g sd) (p.imp fun ds h2 q => o_ret q))
theorem o_tup {g : Sl → M (List D)} (p : OkM (g sd h) fun ds h' => ds.length ≤ 16777216 ∧ QD (.tup ds) h') : OkM (vTup g sd h) QD := o_bnd (f := g sd) (p.imp fun ds h' ⟨c, q⟩ => ⟨.tup ds, h', by show (if ds.length ≤ LL then ret (.tup ds) else bad : M D) h' = _; rw [if_pos c]; rfl, q⟩)
theorem o_lst {g : Sl → M (List D)} (p : OkM (g sd h) fun ds h' => ds.length ≤ 16777216 ∧ QD (.ref h'.length) (h' ++ [.lst ds])) : OkM (vLst g sd h) QD := o_bnd (f := g sd) (p.imp fun ds h' ⟨c, q⟩ => ⟨_, _, by rw [newL_ap, if_pos c], q⟩)
theorem o_call {g : List D → M D} {f : Sl → M (List D)} (p : OkM (f sd h) fun ds h' => OkM (g ds h') QD) : OkM (vCall g f sd h) QD := o_bnd (f := f sd) p
theorem o_fn {n : Nat} {F : List D → M D} {f : Sl → M (List D)} (p : OkM (f sd h) fun ds h' => ds.length = n ∧ OkM (F ds h') QD) : OkM (vFn n F f sd h) QD := o_bnd (f := f sd) (p.imp fun ds h' ⟨e, q⟩ => by
  show OkM ((if ds.length = n then F ds else bad) h') QD
  rw [if_pos e]; exact q)
theorem o_f1 {g : D → M D} {d : D} (p : OkM (g d h) QD) : OkM (f1 g [d] h) QD := p
theorem o_f2 {g : D → D → M D} {d e : D} (p : OkM (g d e h) QD) : OkM (f2 g [d, e] h) QD := p
theorem o_cLst {f : Sl → M (List D)} (p : OkM (f sd h) fun ds h' => QD (.ref h'.length) (h' ++ [.lst ds])) : OkM (cLst f sd h) QD := o_bnd (f := f sd) (p.imp fun ds h' q => ⟨_, _, rfl, q⟩)
theorem o_oNone (q : QO none h) : OkM (oNone sd h) QO := ⟨none, h, rfl, q⟩
theorem o_oSome {f : Sl → M D} (p : OkM (f sd h) fun d h' => ∃ i, d = .int i ∧ QO (some i) h') : OkM (oSome f sd h) QO := o_bnd (f := f sd) (p.imp fun d h' ⟨b, e, p⟩ => by subst e; exact o_ret p)
theorem o_sl {f : Sl → M D} {l u : Sl → M (Option Int)} (p : OkM (f sd h) fun x h1 => OkM (l sd h1) fun lo h2 => OkM (u sd h2) fun hi h3 => OkM (slD x lo hi h3) QD) : OkM (vSl f l u sd h) QD := o_bnd (f := f sd) (p.imp fun x h1 p => o_bnd (f := l sd) (p.imp fun lo h2 p => o_bnd (f := u sd) p))
theorem o_meth {ck : D → Hh → Bool} {k : D → List D → M D} {f : Sl → M D} {g : Sl → M (List D)} (p : OkM (f sd h) fun x h1 => ck x h1 = true ∧ OkM (g sd h1) fun ds h2 => OkM (k x ds h2) QD) : OkM (vMeth ck k f g sd h) QD := o_bnd (f := f sd) (p.imp fun x h1 ⟨c, p⟩ => by
  show OkM (if ck x h1 = true then bnd (g sd) (fun ds => k x ds) h1 else .bad) QD
  rw [if_pos c]
  exact o_bnd (f := g sd) p)
/-! operators -/
theorem o_add {i j : Int} (q : QD (.int (i + j)) h) : OkM (oAdd (.int i) (.int j) h) QD := ⟨_, _, rfl, q⟩
theorem o_adds {i j : Str} (c : i.length + j.length ≤ 16777216) (q : QD (.str (i ++ j)) h) : OkM (oAdd (.str i) (.str j) h) QD := ⟨_, _, by show (if i.length + j.length ≤ LL then ret (.str (i ++ j)) else bad : M D) h = _; rw [if_pos c]; rfl, q⟩
theorem o_addL {i j : Nat} {xs ys : List D} (e1 : lstAt h i = some xs) (e2 : lstAt h j = some ys) (c : xs.length + ys.length ≤ 16777216) (q : QD (.ref h.length) (h ++ [.lst (xs ++ ys)])) : OkM (oAdd (.ref i) (.ref j) h) QD := ⟨_, _, by rw [oAddL_ap, e1, e2]; exact if_pos c, q⟩
theorem o_sub {i j : Int} (q : QD (.int (i - j)) h) : OkM (oSub (.int i) (.int j) h) QD := ⟨_, _, rfl, q⟩
theorem o_mul {i j : Int} (c : (-(2 ^ 64) < i ∧ i < 2 ^ 64) ∨ (-(2 ^ 64) < j ∧ j < 2 ^ 64)) (q : QD (.int (i * j)) h) : OkM (oMul (.int i) (.int j) h) QD := ⟨_, _, by show (if decide ((-(2 ^ 64) < i ∧ i < 2 ^ 64) ∨ (-(2 ^ 64) < j ∧ j < 2 ^ 64)) = true then ret (.int (i * j)) else bad : M D) h = _; rw [if_pos (decide_eq_true c)]; rfl, q⟩
theorem o_fdiv {i j : Int} (c : j ≠ 0 ∧ j.natAbs < 1073741824) (q : QD (.int (i.fdiv j)) h) : OkM (oFdiv (.int i) (.int j) h) QD := ⟨_, _, by show (if decide (j ≠ 0 ∧ j.natAbs < 1073741824) = true then ret (.int (i.fdiv j)) else bad : M D) h = _; rw [if_pos (decide_eq_true c)]; rfl, q⟩
theorem o_mod {i j : Int} (c : j ≠ 0) (q : QD (.int (i.fmod j)) h) : OkM (oMod (.int i) (.int j) h) QD := ⟨_, _, by show (if decide (j ≠ 0) = true then ret (.int (i.fmod j)) else bad : M D) h = _; rw [if_pos (decide_eq_true c)]; rfl, q⟩
theorem o_lt {i j : Int} (q : QD (.bl (decide (i < j))) h) : OkM (oLt (.int i) (.int j) h) QD := ⟨_, _, rfl, q⟩
theorem o_le {i j : Int} (q : QD (.bl (decide (i ≤ j))) h) : OkM (oLe (.int i) (.int j) h) QD := ⟨_, _, rfl, q⟩
theorem o_gt {i j : Int} (q : QD (.bl (decide (j < i))) h) : OkM (oGt (.int i) (.int j) h) QD := ⟨_, _, rfl, q⟩
theorem o_ge {i j : Int} (q : QD (.bl (decide (j ≤ i))) h) : OkM (oGe (.int i) (.int j) h) QD := ⟨_, _, rfl, q⟩
theorem beq_dec (i j : Int) : (i == j) = decide (i = j) := by by_cases c : i = j <;> simp [c]
theorem o_eqI {i j : Int} (q : QD (.bl (decide (i = j))) h) : OkM (oEqN false (.int i) (.int j) h) QD := ⟨_, _, rfl, by rw [← beq_dec] at q; exact q⟩
theorem o_neI {i j : Int} (q : QD (.bl (!decide (i = j))) h) : OkM (oEqN true (.int i) (.int j) h) QD := ⟨_, _, rfl, by rw [← beq_dec] at q; exact q⟩
theorem o_is {d : D} (q : QD (.bl (isN d)) h) : OkM (oIsN false d .non h) QD := ⟨_, _, rfl, q⟩
theorem o_isnot {d : D} (q : QD (.bl (!isN d)) h) : OkM (oIsN true d .non h) QD := ⟨_, _, rfl, q⟩
theorem o_ixT {ds : List D} {i : Int} {d : D} (e : atI ds i = some d) (q : QD d h) : OkM (ixD (.tup ds) (.int i) h) QD := ⟨_, _, by rw [ixT_ap, e], q⟩
theorem o_ixF {ds : List D} {i : Int} {d : D} (e : atI ds i = some d) (q : QD d h) : OkM (ixD (.frl ds) (.int i) h) QD := ⟨_, _, by rw [ixF_ap, e], q⟩
theorem o_ixL {a : Nat} {ds : List D} {i : Int} {d : D} (e1 : lstAt h a = some ds) (e : atI ds i = some d) (q : QD d h) : OkM (ixD (.ref a) (.int i) h) QD := ⟨_, _, by rw [ixL_ap, e1]; simp only [e], q⟩
theorem o_slL {a : Nat} {ds : List D} {lo hi : Option Int} (e1 : lstAt h a = some ds) (q : QD (.ref h.length) (h ++ [.lst (cutD ds lo hi)])) : OkM (slD (.ref a) lo hi h) QD := ⟨_, _, by rw [slL_ap, e1], q⟩
theorem o_lenT {ds : List D} (q : QD (.int ds.length) h) : OkM (dLen (.tup ds) h) QD := ⟨_, _, rfl, q⟩
theorem o_lenF {ds : List D} (q : QD (.int ds.length) h) : OkM (dLen (.frl ds) h) QD := ⟨_, _, rfl, q⟩
theorem o_lenL {a : Nat} {ds : List D} (e : lstAt h a = some ds) (q : QD (.int ds.length) h) : OkM (dLen (.ref a) h) QD := ⟨_, _, by rw [dLenL_ap, lstAt_eq e], q⟩
theorem o_int {i : Int} (q : QD (.int i) h) : OkM (dInt (.int i) h) QD := ⟨_, _, rfl, q⟩
theorem o_max {i j : Int} (q : QD (.int (if j > i then j else i)) h) : OkM (dMax2 (.int i) (.int j) h) QD := ⟨_, _, rfl, q⟩
theorem o_min {i j : Int} (q : QD (.int (if j < i then j else i)) h) : OkM (dMin2 (.int i) (.int j) h) QD := ⟨_, _, rfl, q⟩
theorem o_listT {ds : List D} (q : QD (.ref h.length) (h ++ [.lst ds])) : OkM (dList (.tup ds) h) QD := ⟨_, _, rfl, q⟩
theorem o_listF {ds : List D} (q : QD (.ref h.length) (h ++ [.lst ds])) : OkM (dList (.frl ds) h) QD := ⟨_, _, rfl, q⟩
theorem o_listL {a : Nat} {ds : List D} (e : lstAt h a = some ds) (q : QD (.ref h.length) (h ++ [.lst ds])) : OkM (dList (.ref a) h) QD := ⟨_, _, by unfold dList; rw [show seqOf h (.ref a) = some ds from e], q⟩
theorem o_tupleT {ds : List D} (q : QD (.tup ds) h) : OkM (dTuple (.tup ds) h) QD := ⟨_, _, rfl, q⟩
theorem o_tupleL {a : Nat} {ds : List D} (e : lstAt h a = some ds) (q : QD (.tup ds) h) : OkM (dTuple (.ref a) h) QD := ⟨_, _, by rw [dTupleL_ap, e], q⟩
theorem o_lTuple {ds : List D} (q : QD (.tup ds) h) : OkM (lTuple ds h) QD := ⟨_, _, rfl, q⟩
theorem o_sorted {a : Nat} {ds : List D} {ns : List Int} (e : lstAt h a = some ds) (e2 : intsOf ds = some ns) (q : QD (.ref h.length) (h ++ [.lst ((sortI ns).map D.int)])) : OkM (dSorted (.ref a) h) QD := ⟨_, _, by rw [dSorted_ap, e]; simp only [e2], q⟩
theorem o_app {a : Nat} {ds : List D} {d : D} (e : lstAt h a = some ds) (c : ds.length < 16777216) (q : QD .non (h.set a (.lst (ds ++ [d])))) : OkM (onL gApp (.ref a) [d] h) QD := ⟨_, _, by rw [onL_ap, e]; simp only [gApp_ap, if_pos c], q⟩
theorem o_isi {ts : List Ty} {cs : List (Str × Bool)} {f : Sl → M D} (p : OkM (f sd h) fun d h' => OkM (isiF ts cs d h') QD) : OkM (vIsi ts cs f sd h) QD := o_bnd (f := f sd) p
/-! statements -/
theorem s_eq {r r' : RS} (e : r = r') (p : OkS r' N R) : OkS r N R := by rw [e]; exact p
theorem s_nx (q : N sd h) : OkS (.nx sd h) N R := .inl ⟨sd, h, rfl, q⟩
theorem s_rt {d : D} (q : R d h) : OkS (.rt d h) N R := .inr ⟨d, h, rfl, q⟩
theorem s_sNx (q : N sd h) : OkS (sNx sd h) N R := .inl ⟨sd, h, rfl, q⟩
theorem s_eS {f : Sl → M α} {k : α → SF} (p : OkM (f sd h) fun a h' => OkS (k a sd h') N R) : OkS (eS f k sd h) N R := by
  obtain ⟨a, h', e, p⟩ := p
  refine s_eq ?_ p
  unfold eS
  rw [e]
theorem s_seq {f g : SF} (p : OkS (f sd h) (fun sd' h' => OkS (g sd' h') N R) R) : OkS (sSeq f g sd h) N R := by
  rcases p with ⟨a, h', e, p⟩ | ⟨a, h', e, p⟩
  · refine s_eq ?_ p
    unfold sSeq
    rw [e]
  · exact .inr ⟨a, h', by unfold sSeq; rw [e], p⟩
theorem s_set {i : Nat} {f : Sl → M D} (p : OkM (f sd h) fun d h' => N (sd.set i (some d)) h') : OkS (sSet i f sd h) N R := s_eS (k := fun d sd h => .nx (sd.set i (some d)) h) (p.imp fun _ _ q => s_nx q)
theorem s_expr {f : Sl → M D} (p : OkM (f sd h) fun d h' => N sd h') : OkS (sExpr f sd h) N R := s_eS (k := fun d sd h => .nx sd h) (p.imp fun _ _ q => s_nx q)
theorem s_ret {f : Sl → M D} (p : OkM (f sd h) fun d h' => R d h') : OkS (sRet f sd h) N R := s_eS (k := fun d sd h => .rt d h) (p.imp fun _ _ q => s_rt q)
theorem s_if {t : Sl → M Bool} {f g : SF} (p : OkM (t sd h) fun b h' => if b = true then OkS (f sd h') N R else OkS (g sd h') N R) : OkS (sIf t f g sd h) N R := s_eS (k := fun (b : Bool) sd h => if b = true then f sd h else g sd h) (p.imp fun b h' p => by
  cases b with
  | true => exact p
  | false => exact p)
theorem s_setIx {fo fi fv : Sl → M D} (p : OkM (fv sd h) fun v h1 => OkM (fo sd h1) fun o h2 => OkM (fi sd h2) fun i h3 => ∃ h4, setL o i v h3 = some h4 ∧ N sd h4) : OkS (sSetIx fo fi fv sd h) N R :=
  s_eS (f := fv) (p.imp fun v h1 p => s_eS (f := fo) (p.imp fun o h2 p => s_eS (f := fi) (p.imp fun i h3 ⟨h4, e, q⟩ => s_eq (by simp only [e]) (s_nx q))))
theorem setL_get {a : Nat} {ds : List D} {k : Int} {j : Nat} {v : D} (e : lstAt h a = some ds) (e2 : ixN ds.length k = some j) : setL (.ref a) (.int k) v h = some (h.set a (.lst (ds.set j v))) := by rw [setL_ap, e]; simp only [e2]
theorem s_for {f : Sl → M Src} {t : Tg} {g : SF} (p : OkM (f sd h) fun s h' => OkS (loopF t s.pin g s.items sd h') N R) : OkS (sFor f t g sd h) N R := s_eS (k := fun (s : Src) sd h => loopF t s.pin g s.items sd h) p
theorem o_r1 {j : Int} (c : -(2 ^ 62) ≤ j ∧ j < 2 ^ 62) (q : QS (fixS (rangeD 0 j.toNat)) h) : OkM (srcR1 [.int j] h) QS := ⟨_, _, by show (if okI j then ret (fixS (rangeD 0 j.toNat)) else bad : M Src) h = _; rw [if_pos (show okI j = true from decide_eq_true c)]; rfl, q⟩
theorem o_srcT {ds : List D} (q : QS (fixS ds) h) : OkM (srcAny (.tup ds) h) QS := ⟨_, _, rfl, q⟩
theorem o_srcF {ds : List D} (q : QS (fixS ds) h) : OkM (srcAny (.frl ds) h) QS := ⟨_, _, rfl, q⟩
theorem o_srcL {a : Nat} {ds : List D} (e : lstAt h a = some ds) (q : QS ⟨ds, pinL a ds⟩ h) : OkM (srcAny (.ref a) h) QS := ⟨_, _, by unfold srcAny; simp only [e], q⟩
/-- a loop by its invariant (over what is still to come) -/
theorem s_loop {t : Tg} {pin : Hh → Bool} {g : SF} (I : List D → Sl → Hh → Prop) (hp : ∀ ds sd h, I ds sd h → pin h = true) (hs : ∀ d ds sd h, I (d :: ds) sd h → ∃ sd1, t.fn d sd = some sd1 ∧ OkS (g sd1 h) (I ds) R) (he : ∀ sd h, I [] sd h → N sd h) :
    ∀ (ds : List D) (sd : Sl) (h : Hh), I ds sd h → OkS (loopF t pin g ds sd h) N R
  | [], sd, h, i => by
    unfold loopF
    rw [if_pos (hp _ _ _ i)]
    exact s_nx (he _ _ i)
  | d :: ds, sd, h, i => by
    unfold loopF
    rw [if_pos (hp _ _ _ i)]
    obtain ⟨sd1, e, p⟩ := hs d ds sd h i
    rw [e]
    simp only []
    rcases p with ⟨a, h', e2, p⟩ | ⟨a, h', e2, p⟩
    · rw [e2]
      exact s_loop I hp hs he ds a h' p
    · rw [e2]
      exact s_rt p
/-- a comprehension by its invariant -/
theorem o_comp {t : Tg} {pin : Hh → Bool} {elt : Sl → M D} {sd : Sl} (I : List D → List D → Hh → Prop) (hp : ∀ ds acc h, I ds acc h → pin h = true ∧ acc.length < 16777216)
    (hs : ∀ d ds acc h, I (d :: ds) acc h → ∃ sd1, t.fn d sd = some sd1 ∧ OkM (elt sd1 h) fun y h' => I ds (acc ++ [y]) h') (he : ∀ acc h, I [] acc h → QL acc h) : ∀ (ds acc : List D) (h : Hh), I ds acc h → OkM (compF t pin condT elt sd ds acc h) QL
  | [], acc, h, i => by
    unfold compF
    rw [if_pos (hp _ _ _ i).1]
    exact o_ok (he _ _ i)
  | d :: ds, acc, h, i => by
    unfold compF
    rw [if_pos (hp _ _ _ i).1]
    obtain ⟨sd1, e, y, h1, e2, p⟩ := hs d ds acc h i
    rw [e]
    simp only [condT, ret_ap, e2]
    rw [if_pos (show acc.length < LL from (hp _ _ _ i).2)]
    exact o_comp I hp hs he ds (acc ++ [y]) h1 p
theorem o_compS {s : Sl → M Src} {t : Tg} {vs : List Nat} {cond : Sl → M Bool} {elt : Sl → M D} (p : OkM (s sd h) fun s h' => OkM (compF t s.pin cond elt (wipeD sd vs) s.items [] h') QL) : OkM (compS s t vs cond elt sd h) QL := o_bnd (f := s sd) p
/-- a def's result from its body's -/
theorem o_run {n : Nat} {g : SF} {ds : List D} (p : OkS (g (startD n ds) h) (fun _ h' => QD .non h' ∧ QD .non h) (fun d h' => QD d h' ∧ (closD h.length d = true → QD d h))) : OkM (runF n g ds h) QD := by
  unfold runF
  rcases p with ⟨a, h', e, p, p2⟩ | ⟨d, h', e, p, p2⟩
  · rw [e]
    show OkM (if (closD h.length .non && begins h h') = true then .ok .non h else .ok .non h') QD
    by_cases c : (closD h.length .non && begins h h') = true
    · rw [if_pos c]; exact o_ok p2
    · rw [if_neg c]; exact o_ok p
  · rw [e]
    show OkM (if (closD h.length d && begins h h') = true then .ok d h else .ok d h') QD
    by_cases c : (closD h.length d && begins h h') = true
    · rw [if_pos c]; rw [Bool.and_eq_true] at c; exact o_ok (p2 c.1)
    · rw [if_neg c]; exact o_ok p
end
theorem i_t {A B : Prop} (a : A) : if true = true then A else B := a
theorem i_f {A B : Prop} (b : B) : if false = true then A else B := b
theorem i_nt {A B : Prop} (b : B) : if (!true) = true then A else B := b
theorem i_nf {A B : Prop} (a : A) : if (!false) = true then A else B := a
theorem i_d {A B p : Prop} [Decidable p] (a : p → A) (b : ¬p → B) : if decide p = true then A else B := by
  by_cases c : p
  · rw [if_pos (decide_eq_true c)]; exact a c
  · rw [if_neg (by rw [decide_eq_false c]; decide)]; exact b c
theorem i_nd {A B p : Prop} [Decidable p] (a : ¬p → A) (b : p → B) : if (!decide p) = true then A else B := by
  by_cases c : p
  · rw [if_neg (by rw [decide_eq_true c]; decide)]; exact b c
  · rw [if_pos (by rw [decide_eq_false c]; decide)]; exact a c
theorem i_dt {A B p : Prop} [Decidable p] (c : p) (a : A) : if decide p = true then A else B := by rw [if_pos (decide_eq_true c)]; exact a
theorem i_df {A B p : Prop} [Decidable p] (c : ¬p) (b : B) : if decide p = true then A else B := by rw [if_neg (by rw [decide_eq_false c]; decide)]; exact b
theorem i_dS {p : Prop} [Decidable p] {A B : RS} {N : Sl → Hh → Prop} {R : D → Hh → Prop} (Mid : Sl → Hh → Prop) (a : p → OkS A Mid R) (b : ¬p → OkS B Mid R) (k : ∀ sd h, Mid sd h → N sd h) : if decide p = true then OkS A N R else OkS B N R := by
  by_cases c : p
  · rw [if_pos (decide_eq_true c)]; exact (a c).imp k fun _ _ z => z
  · rw [if_neg (by rw [decide_eq_false c]; decide)]; exact (b c).imp k fun _ _ z => z
theorem x_bl {b : Bool} {P : Bool → Prop} (p : P b) : ∃ b', D.bl b = .bl b' ∧ P b' := ⟨b, rfl, p⟩
theorem x_int {b : Int} {P : Int → Prop} (p : P b) : ∃ b', D.int b = .int b' ∧ P b' := ⟨b, rfl, p⟩
theorem x_setL {h : Hh} {a : Nat} {ds : List D} {k : Int} {j : Nat} {v : D} {P : Hh → Prop} (e : lstAt h a = some ds) (e2 : ixN ds.length k = some j) (p : P (h.set a (.lst (ds.set j v)))) : ∃ h', setL (.ref a) (.int k) v h = some h' ∧ P h' := ⟨_, setL_get e e2, p⟩
theorem x_le {n : Nat} {P : Prop} (e : n ≤ 16777216) (p : P) : n ≤ 16777216 ∧ P := ⟨e, p⟩
theorem x_ln {ds : List D} {n : Nat} {P : Prop} (e : ds.length = n) (p : P) : ds.length = n ∧ P := ⟨e, p⟩
theorem x_ck {h : Hh} {a : Nat} {ds : List D} {P : Prop} (e : lstAt h a = some ds) (p : P) : ckL (.ref a) h = true ∧ P := ⟨by rw [ckL_ap, e]; rfl, p⟩
/-! ### the lists that are read -/
section
variable {h : Hh} {a b : Nat} {xs ys : List D} {o : O} {g : Hh}
theorem k_new (e : a = h.length) : lstAt (h ++ [.lst xs]) a = some xs := lA_eq e
theorem k_old (e : lstAt h a = some xs) : lstAt (h ++ g) a = some xs := lstAt_app e
theorem k_self (e : a < h.length) : lstAt (h.set a (.lst xs)) a = some xs := lstAt_set_self e
theorem k_ne (n : b ≠ a) (e : lstAt h a = some xs) : lstAt (h.set b o) a = some xs := lstAt_set_ne e n
theorem kp_app {f : Nat} {h' : Hh} (p : Kp f h h') : Kp f h (h' ++ g) := p.trans .app
theorem kp_set {f : Nat} {h' : Hh} (p : Kp f h h') : Kp f h (h'.set f o) := p.trans .set
theorem kp_setn {f i : Nat} {h' : Hh} (n : h.length ≤ i) (p : Kp f h h') : Kp f h (h'.set i o) := p.set_new n
theorem cutD_1 {α : Type} (xs : List α) : cutD xs (some 1) none = xs.drop 1 := by
  unfold cutD
  rw [HT.sIx_none, show HT.sIx xs.length 0 (some 1) = min 1 xs.length from HT.sIx_nat _ 0 1]
  cases xs with
  | nil => rfl
  | cons x r =>
    rw [show min 1 (x :: r).length = 1 by rw [List.length_cons]; omega]
    show List.take ((x :: r).length - 1) r = r
    rw [List.length_cons, Nat.add_sub_cancel]
    exact List.take_length
theorem intsOf_map : ∀ ns : List Int, intsOf (ns.map D.int) = some ns
  | [] => rfl
  | n :: ns => by
    have ih := intsOf_map ns
    unfold intsOf at ih ⊢
    rw [List.map_cons]
    unfold mapO
    rw [ih]
theorem sortI_length (l : List Int) : (sortI l).length = l.length := (sortI_perm l).length_eq
theorem atI_0 {α : Type} {x : α} {l : List α} : atI (x :: l) 0 = some x := L2.atI_nat (j := 0) rfl
theorem atI_1 {α : Type} {x y : α} {l : List α} : atI (x :: y :: l) 1 = some y := L2.atI_nat (j := 1) rfl
theorem atI_2 {α : Type} {x y z : α} {l : List α} : atI (x :: y :: z :: l) 2 = some z := L2.atI_nat (j := 2) rfl
theorem atI_3 {α : Type} {x y z w : α} {l : List α} : atI (x :: y :: z :: w :: l) 3 = some w := L2.atI_nat (j := 3) rfl
end
end Ev
set_option Elab.async false
set_option linter.all false
set_option maxRecDepth 100000
set_option maxHeartbeats 2000000
namespace Ev
open PySem PySem.Spec L2
local macro_rules | `(tactic| walk_at "len") => `(tactic| first | rfl | omega | (simp only [List.length_set, List.length_append, List.length_cons, List.length_nil, List.length_map]; first | done | omega))
local macro_rules | `(tactic| walk_at "lk") => `(tactic| first | assumption | exact k_new (by walk_at "len") | exact k_self (by walk_at "len") | (apply k_old; walk_at "lk") | (apply k_ne; (walk_at "len"); walk_at "lk"))
local macro_rules | `(tactic| walk_at "ix") => `(tactic| first | assumption | exact atI_0 | exact atI_1 | exact atI_2 | exact atI_3 | (rfl; done) | (refine ixN_nat' ?_; walk_at "len"))
local macro_rules | `(tactic| walk_at "c") => `(tactic| first | assumption | decide | omega)
local macro_rules | `(tactic| walk_at "s") => `(tactic| first
  | with_reducible first
    | refine s_seq ?_ | refine s_set ?_ | refine s_expr ?_ | refine s_ret ?_ | refine s_if ?_ | refine s_sNx ?_ | refine s_setIx ?_
    | refine o_bin2 ?_ | refine o_cst ?_ | refine o_tb ?_ | refine o_and ?_ | refine o_or ?_ | refine o_not ?_ | refine o_vand ?_ | refine o_vor ?_ | refine o_vnot ?_ | refine o_vif ?_ | refine o_neg ?_
    | refine o_nil ?_ | refine o_cons ?_ | refine o_tup ?_ | refine o_lst ?_ | refine o_call ?_ | refine o_fn ?_ | refine o_f1 ?_ | refine o_f2 ?_ | refine o_cLst ?_ | refine o_oNone ?_ | refine o_oSome ?_ | refine o_sl ?_ | refine o_meth ?_ | refine o_compS ?_
    | refine o_add ?_ | refine o_sub ?_ | refine o_lt ?_ | refine o_le ?_ | refine o_gt ?_ | refine o_ge ?_ | refine o_eqI ?_ | refine o_neI ?_ | refine o_is ?_ | refine o_isnot ?_ | refine o_int ?_ | refine o_max ?_ | refine o_min ?_
    | refine o_lenT ?_ | refine o_lenF ?_ | refine o_listT ?_ | refine o_listF ?_ | refine o_tupleT ?_ | refine o_lTuple ?_ | refine x_bl ?_ | refine i_t ?_ | refine i_f ?_ | refine i_nt ?_ | refine i_nf ?_ | refine x_int ?_
  | ((with_reducible apply o_get); with_unfolding_all rfl; with_unfolding_all rfl)
  | ((with_reducible apply o_mul); walk_at "c")
  | ((with_reducible apply o_fdiv); walk_at "c")
  | ((with_reducible apply o_mod); walk_at "c")
  | ((with_reducible apply o_lenL); walk_at "lk")
  | ((with_reducible apply o_listL); walk_at "lk")
  | ((with_reducible apply o_tupleL); walk_at "lk")
  | ((with_reducible apply o_ixT); with_unfolding_all walk_at "ix")
  | ((with_reducible apply o_ixF); with_unfolding_all walk_at "ix")
  | ((with_reducible apply o_ixL); walk_at "lk"; with_unfolding_all walk_at "ix")
  | ((with_reducible apply o_slL); walk_at "lk")
  | ((with_reducible apply o_sorted); walk_at "lk"; assumption)
  | ((with_reducible apply o_addL); walk_at "lk"; walk_at "lk"; walk_at "len")
  | ((with_reducible apply o_app); walk_at "lk"; walk_at "len")
  | ((with_reducible apply x_le); walk_at "len")
  | ((with_reducible apply x_ln); with_unfolding_all rfl)
  | ((with_reducible apply x_ck); walk_at "lk")
  | ((with_reducible apply x_setL); walk_at "lk"; walk_at "ix"))
local macro_rules | `(tactic| walk_at "kp") => `(tactic| first | exact Kp.refl | assumption | (apply kp_app; walk_at "kp") | (apply kp_set; walk_at "kp") | (apply kp_setn; (walk_at "len"); walk_at "kp"))
/-! ### what every law's text begins with: the script's k-th cell -/
def lCell : SF := (sSet 2 (bin2 oMod (vCall (f1 dInt) (aCons (bin2 oAdd (bin2 oMul (getS 2) (cst (.int 31))) (bin2 oMod (vCall (f1 dInt) (aCons (getS 3) aNil)) (cst (.int 1000003)))) aNil)) (cst (.int 1000003))))
def bCell : SF := (sSeq
  (sIf (tb (bin2 oLt (getS 1) (vCall (f1 dLen) (aCons (getS 0) aNil)))) (sRet (bin2 ixD (getS 0) (getS 1))) sNx)
  (sSeq
  (sSet 2 (cst (.int 17)))
  (sSeq
  (sFor (fun sd => bnd ((getS 0) sd) srcAny) (tgN 3) lCell)
  (sRet (bin2 oMod (vCall (f1 dInt) (aCons (bin2 oMul (bin2 oMul (bin2 oAdd (getS 2) (cst (.int 7))) (bin2 oAdd (getS 1) (cst (.int 3)))) (cst (.int 69621))) aNil)) (cst (.int 2147483647)))))))
def rCell : List D → M D := runF 4 bCell
theorem cell_ok (ns : List Int) (k : Nat) (hk : k < 1000) (h : Hh) : OkM (rCell [.frl (ns.map D.int), .int k] h) (fun d _ => ∃ i, d = .int i) := by
  refine o_run (OkS.imp (N := fun _ _ => False) (R := fun d _ => ∃ i, d = .int i) ?_ (fun _ _ z => z.elim) fun d h' z => ⟨z, fun _ => z⟩)
  show OkS (bCell [some (.frl (ns.map D.int)), some (.int k), none, none] h) _ _
  unfold bCell
  repeat walk_at "s"
  refine i_d (fun c => ?_) (fun c => ?_)
  · rw [List.length_map] at c
    have e1 : atI (ns.map D.int) (k : Int) = some (.int (ns[k]'(by omega))) := L2.atI_nat (by simp)
    repeat walk_at "s"
    exact ⟨_, rfl⟩
  · repeat walk_at "s"
    refine s_for (o_bnd ?_)
    repeat walk_at "s"
    refine o_srcF ?_
    refine OkS.imp (s_loop (N := fun sd h' => ∃ a b, sd = [some (.frl (ns.map D.int)), some (.int k), some (.int a), b]) (R := fun _ _ => False) (I := fun ds sd h' => (∃ l : List Int, ds = l.map D.int) ∧ ∃ a b, sd = [some (.frl (ns.map D.int)), some (.int k), some (.int a), b]) (fun _ _ _ _ => rfl) ?_ (fun _ _ z => z.2) _ _ _ ⟨⟨ns, rfl⟩, 17, none, rfl⟩) ?_ (fun _ _ z => z.elim)
    · rintro d ds sd h' ⟨⟨l, el⟩, a, b, rfl⟩
      cases l with
      | nil => cases el
      | cons x l =>
        obtain ⟨rfl, rfl⟩ := List.cons.inj el
        refine ⟨_, rfl, ?_⟩
        show OkS (lCell [some (.frl (ns.map D.int)), some (.int k), some (.int a), some (.int x)] h') _ _
        unfold lCell
        repeat walk_at "s"
        exact ⟨⟨l, rfl⟩, _, _, rfl⟩
    · rintro sd h' ⟨a, b, rfl⟩
      repeat walk_at "s"
      exact ⟨_, rfl⟩
end Ev
set_option Elab.async false
set_option linter.all false
set_option maxRecDepth 100000
set_option maxHeartbeats 4000000
namespace K73
open PySem PySem.Spec L2 Ev
open PyProof.Rows hiding St
/-! ### the shallow functions -/
def l1_most_things : SF := (sSet 2 (bin2 oFdiv (bin2 oMul (getS 2) (bin2 oAdd (bin2 oAdd (getS 1) (getS 3)) (cst (.int 1)))) (bin2 oAdd (getS 3) (cst (.int 1)))))
def b_most_things : SF := (sSeq
  (sSet 2 (cst (.int 1)))
  (sSeq
  (sFor (fun sd => bnd ((aCons (getS 0) aNil) sd) srcR1) (tgN 3) l1_most_things)
  (sRet (getS 2))))
def r_most_things : List D → M D := runF 4 b_most_things
def l1__law_possible : SF := (sSeq
  (sIf (tb (bin2 oLt (bin2 ixD (getS 8) (getS 13)) (getS 0))) (sExpr (vMeth ckL (onL gApp) (getS 12) (aCons (vTup (aCons (getS 8) (aCons (bin2 ixD (getS 8) (getS 13)) (aCons (getS 10) (aCons (getS 11) aNil))))) aNil))) sNx)
  (sIf (tb (bin2 oGt (getS 13) (cst (.int 0)))) (sSeq
  (sSet 16 (vCall (f1 dList) (aCons (getS 8) aNil)))
  (sSeq
  (sSetIx (getS 16) (getS 13) (getS 9))
  (sExpr (vMeth ckL (onL gApp) (getS 12) (aCons (vTup (aCons (vCall (f1 dTuple) (aCons (bin2 oAdd (vLst (aCons (bin2 ixD (getS 8) (cst (.int 0))) aNil)) (vCall (f1 dSorted) (aCons (vSl (getS 16) (oSome (cst (.int 1))) oNone) aNil))) aNil)) (aCons (getS 9) (aCons (getS 10) (aCons (getS 11) aNil))))) aNil))))) sNx))
def l2__law_possible : SF := (sIf (tb (bin2 (oInX true) (getS 14) (getS 5))) (sSeq
  (sDputN (getS 5) (getS 14) (cst (.bl true)))
  (sExpr (vMeth ckL (onL gApp) (getS 6) (aCons (getS 14) aNil)))) sNx)
def l3__law_possible : SF := (sSeq
  (sIf (tb (bin2 oGe (getS 7) (vCall (f1 dLen) (aCons (getS 6) aNil)))) (sRet (cst (.bl false))) sNx)
  (sSeq
  (sSet 8 (bin2 ixD (bin2 ixD (getS 6) (getS 7)) (cst (.int 0))))
  (sSeq
  (sSet 9 (bin2 ixD (bin2 ixD (getS 6) (getS 7)) (cst (.int 1))))
  (sSeq
  (sSet 10 (bin2 ixD (bin2 ixD (getS 6) (getS 7)) (cst (.int 2))))
  (sSeq
  (sSet 11 (bin2 ixD (bin2 ixD (getS 6) (getS 7)) (cst (.int 3))))
  (sSeq
  (sSet 12 (vLst aNil))
  (sSeq
  (sIf (tb (bin2 (oEqN false) (getS 9) (bin2 oSub (getS 11) (cst (.int 1))))) (sSeq
  (sIf (tb (bin2 (oEqN false) (getS 9) (cst (.int 0)))) (sRet (cst (.bl true))) sNx)
  (sExpr (vMeth ckL (onL gApp) (getS 12) (aCons (vTup (aCons (getS 8) (aCons (getS 9) (aCons (getS 10) (aCons (getS 9) aNil))))) aNil)))) sNx)
  (sSeq
  (sIf (tAnd' (tb (bin2 oLt (bin2 oAdd (getS 9) (cst (.int 1))) (getS 11))) (tb (bin2 oLt (bin2 ixD (getS 10) (getS 9)) (getS 2)))) (sSeq
  (sSet 15 (vCall (f1 dList) (aCons (getS 10) aNil)))
  (sSeq
  (sSetIx (getS 15) (getS 9) (bin2 oAdd (bin2 ixD (getS 15) (getS 9)) (cst (.int 1))))
  (sExpr (vMeth ckL (onL gApp) (getS 12) (aCons (vTup (aCons (getS 8) (aCons (bin2 oAdd (getS 9) (cst (.int 1))) (aCons (vCall (f1 dTuple) (aCons (getS 15) aNil)) (aCons (getS 11) aNil))))) aNil))))) sNx)
  (sSeq
  (sFor (fun sd => bnd ((aCons (getS 1) aNil) sd) srcR1) (tgN 13) l1__law_possible)
  (sSeq
  (sFor (fun sd => bnd ((getS 12) sd) srcAny) (tgN 14) l2__law_possible)
  (sIf (tb (bin2 oGt (vCall (f1 dLen) (aCons (getS 6) aNil)) (getS 3))) (sRet (cst .non)) sNx)))))))))))
def b__law_possible : SF := (sSeq
  (sSet 4 (vTup (aCons (vCall (f1 dTuple) (aCons (bin2 oAdd (vLst (aCons (cst (.int 0)) aNil)) (cLst (compS (fun sd => bnd ((aCons (bin2 oSub (getS 1) (cst (.int 1))) aNil) sd) srcR1) (tgN 13) [13] condT (getS 0)))) aNil)) (aCons (cst (.int 0)) (aCons (vCall lTuple (compS (fun sd => bnd ((aCons (getS 0) aNil) sd) srcR1) (tgN 13) [13] condT (cst (.int 0)))) (aCons (getS 0) aNil))))))
  (sSeq
  (sSet 5 (vDisN (getS 4) (cst (.bl true))))
  (sSeq
  (sSet 6 (vLst (aCons (getS 4) aNil)))
  (sSeq
  (sFor (fun sd => bnd ((aCons (bin2 oAdd (getS 3) (cst (.int 1))) aNil) sd) srcR1) (tgN 7) l3__law_possible)
  (sRet (cst .non))))))
def r__law_possible : List D → M D := runF 17 b__law_possible
def l1__law_cell : SF := (sSet 2 (bin2 oMod (vCall (f1 dInt) (aCons (bin2 oAdd (bin2 oMul (getS 2) (cst (.int 31))) (bin2 oMod (vCall (f1 dInt) (aCons (getS 3) aNil)) (cst (.int 1000003)))) aNil)) (cst (.int 1000003))))
def b__law_cell : SF := (sSeq
  (sIf (tb (bin2 oLt (getS 1) (vCall (f1 dLen) (aCons (getS 0) aNil)))) (sRet (bin2 ixD (getS 0) (getS 1))) sNx)
  (sSeq
  (sSet 2 (cst (.int 17)))
  (sSeq
  (sFor (fun sd => bnd ((getS 0) sd) srcAny) (tgN 3) l1__law_cell)
  (sRet (bin2 oMod (vCall (f1 dInt) (aCons (bin2 oMul (bin2 oMul (bin2 oAdd (getS 2) (cst (.int 7))) (bin2 oAdd (getS 1) (cst (.int 3)))) (cst (.int 69621))) aNil)) (cst (.int 2147483647)))))))
def r__law_cell : List D → M D := runF 4 b__law_cell
def b__law_whole : SF := (sRet (vAnd (vIsi [.int] [] (getS 0)) (vNot (vIsi [.bl] [] (getS 0)))))
def r__law_whole : List D → M D := runF 1 b__law_whole
def l1_law : SF := (sSet 4 (bin2 oFdiv (bin2 oMul (getS 4) (bin2 oAdd (bin2 oAdd (getS 3) (getS 5)) (cst (.int 1)))) (bin2 oAdd (getS 5) (cst (.int 1)))))
def b_law : SF := (sSeq
  (sSet 1 (bin2 oMod (vCall (f1 dInt) (aCons (vFn 2 r__law_cell (aCons (getS 0) (aCons (cst (.int 0)) aNil))) aNil)) (cst (.int 1000003))))
  (sSeq
  (sSet 2 (bin2 oAdd (cst (.int 1)) (bin2 oMod (vCall (f1 dInt) (aCons (getS 1) aNil)) (cst (.int 3)))))
  (sSeq
  (sSet 3 (bin2 oMod (bin2 oFdiv (vCall (f1 dInt) (aCons (getS 1) aNil)) (cst (.int 3))) (cst (.int 4))))
  (sSeq
  (sIf (tAnd' (tb (bin2 (oEqN false) (getS 2) (cst (.int 2)))) (tb (bin2 (oEqN false) (getS 3) (cst (.int 3))))) (sSet 3 (cst (.int 2))) sNx)
  (sSeq
  (sIf (tAnd' (tb (bin2 (oEqN false) (getS 2) (cst (.int 3)))) (tb (bin2 oGt (getS 3) (cst (.int 1))))) (sSet 3 (cst (.int 1))) sNx)
  (sSeq
  (sSet 4 (cst (.int 1)))
  (sSeq
  (sFor (fun sd => bnd ((aCons (getS 2) aNil) sd) srcR1) (tgN 5) l1_law)
  (sSeq
  (sSet 6 (vCall (f2 dMax2) (aCons (cst (.int 1)) (aCons (vCall (f2 dMin2) (aCons (cst (.int 7)) (aCons (bin2 oAdd (bin2 oSub (getS 4) (cst (.int 1))) (bin2 oMod (bin2 oFdiv (vCall (f1 dInt) (aCons (getS 1) aNil)) (cst (.int 12))) (cst (.int 3)))) aNil))) aNil))))
  (sSeq
  (sSet 7 (vFn 2 r_most_things (aCons (getS 2) (aCons (getS 3) aNil))))
  (sSeq
  (sIf (tOr' (tNot' (tb (vFn 1 r__law_whole (aCons (getS 7) aNil)))) (tb (bin2 (oEqN true) (getS 7) (getS 4)))) (sRet (cst (.bl false))) sNx)
  (sSeq
  (sSet 8 (vFn 4 r__law_possible (aCons (getS 6) (aCons (getS 2) (aCons (getS 3) (aCons (cst (.int 6000)) aNil))))))
  (sSeq
  (sIf (tb (bin2 (oIsN false) (getS 8) (cst .non))) (sRet (cst (.bl true))) sNx)
  (sRet (bin2 (oEqN false) (getS 8) (bin2 oLe (getS 6) (getS 4))))))))))))))))
def r_law : List D → M D := runF 9 b_law
end K73
set_option Elab.async false
set_option linter.all false
set_option maxRecDepth 100000
set_option maxHeartbeats 4000000
namespace K73
open PySem PySem.Spec L2 Ev
local macro_rules | `(tactic| walk_at "len") => `(tactic| first | rfl | omega | (simp only [List.length_set, List.length_append, List.length_cons, List.length_nil, List.length_map]; first | done | omega))
local macro_rules | `(tactic| walk_at "lk") => `(tactic| first | assumption | exact k_new (by walk_at "len") | exact k_self (by walk_at "len") | (apply k_old; walk_at "lk") | (apply k_ne; (walk_at "len"); walk_at "lk"))
local macro_rules | `(tactic| walk_at "ix") => `(tactic| first | assumption | exact atI_0 | exact atI_1 | exact atI_2 | exact atI_3 | (rfl; done) | (refine ixN_nat' ?_; walk_at "len"))
local macro_rules | `(tactic| walk_at "c") => `(tactic| first | assumption | decide | omega)
local macro_rules | `(tactic| walk_at "s") => `(tactic| first
  | with_reducible first
    | refine s_seq ?_ | refine s_set ?_ | refine s_expr ?_ | refine s_ret ?_ | refine s_if ?_ | refine s_sNx ?_ | refine s_setIx ?_
    | refine o_bin2 ?_ | refine o_cst ?_ | refine o_tb ?_ | refine o_and ?_ | refine o_or ?_ | refine o_not ?_ | refine o_vand ?_ | refine o_vor ?_ | refine o_vnot ?_ | refine o_vif ?_ | refine o_neg ?_
    | refine o_nil ?_ | refine o_cons ?_ | refine o_tup ?_ | refine o_lst ?_ | refine o_call ?_ | refine o_fn ?_ | refine o_f1 ?_ | refine o_f2 ?_ | refine o_cLst ?_ | refine o_oNone ?_ | refine o_oSome ?_ | refine o_sl ?_ | refine o_meth ?_ | refine o_compS ?_
    | refine o_add ?_ | refine o_sub ?_ | refine o_lt ?_ | refine o_le ?_ | refine o_gt ?_ | refine o_ge ?_ | refine o_eqI ?_ | refine o_neI ?_ | refine o_is ?_ | refine o_isnot ?_ | refine o_int ?_ | refine o_max ?_ | refine o_min ?_
    | refine o_lenT ?_ | refine o_lenF ?_ | refine o_listT ?_ | refine o_listF ?_ | refine o_tupleT ?_ | refine o_lTuple ?_ | refine x_bl ?_ | refine i_t ?_ | refine i_f ?_ | refine x_int ?_
  | ((with_reducible apply o_get); with_unfolding_all rfl; with_unfolding_all rfl)
  | ((with_reducible apply o_mul); walk_at "c")
  | ((with_reducible apply o_fdiv); walk_at "c")
  | ((with_reducible apply o_mod); walk_at "c")
  | ((with_reducible apply o_lenL); walk_at "lk")
  | ((with_reducible apply o_listL); walk_at "lk")
  | ((with_reducible apply o_tupleL); walk_at "lk")
  | ((with_reducible apply o_ixT); with_unfolding_all walk_at "ix")
  | ((with_reducible apply o_ixF); with_unfolding_all walk_at "ix")
  | ((with_reducible apply o_ixL); walk_at "lk"; with_unfolding_all walk_at "ix")
  | ((with_reducible apply o_slL); walk_at "lk")
  | ((with_reducible apply o_sorted); walk_at "lk"; assumption)
  | ((with_reducible apply o_addL); walk_at "lk"; walk_at "lk"; walk_at "len")
  | ((with_reducible apply o_app); walk_at "lk"; walk_at "len")
  | ((with_reducible apply x_le); walk_at "len")
  | ((with_reducible apply x_ln); with_unfolding_all rfl)
  | ((with_reducible apply x_ck); walk_at "lk")
  | ((with_reducible apply x_setL); walk_at "lk"; walk_at "ix"))
local macro_rules | `(tactic| walk_at "kp") => `(tactic| first | exact Kp.refl | assumption | (apply kp_app; walk_at "kp") | (apply kp_set; walk_at "kp") | (apply kp_setn; (walk_at "len"); walk_at "kp"))
set_option pp.maxSteps 700
structure Sx where
  held : List Int
  atx : Int
  gone : List Int
  left : Int
  deriving DecidableEq
def enc (s : Sx) : D := .tup [.tup (s.held.map .int), .int s.atx, .tup (s.gone.map .int), .int s.left]
def mv1 (t : Int) (s : Sx) (k : Nat) : List Sx :=
  (if s.held.getD k 0 < t then [{ s with atx := s.held.getD k 0 }] else []) ++ (if 0 < k then [{ s with held := s.held.getD 0 0 :: sortI ((s.held.set k s.atx).drop 1) }] else [])
def SL (t p r M : Int) (x4 x5 x6 x7 x8 x9 x10 x11 x12 x13 x14 x15 x16 : Option D) : Sl := [some (.int t), some (.int p), some (.int r), some (.int M), x4, x5, x6, x7, x8, x9, x10, x11, x12, x13, x14, x15, x16]
theorem l1_step (t p r M : Int) (x4 x5 x6 x7 x14 x15 x16 : Option D) (s : Sx) (f k : Nat) (fs : List D) (h : Hh) (hk : k < s.held.length) (hl : lstAt h f = some fs) (hlen : fs.length < 1000) (hs : s.held.length ≤ 1000) :
    OkS (l1__law_possible (SL t p r M x4 x5 x6 x7 (some (.tup (s.held.map .int))) (some (.int s.atx)) (some (.tup (s.gone.map .int))) (some (.int s.left)) (some (.ref f)) (some (.int k)) x14 x15 x16) h)
      (fun sd' h' => ∃ y16, sd' = SL t p r M x4 x5 x6 x7 (some (.tup (s.held.map .int))) (some (.int s.atx)) (some (.tup (s.gone.map .int))) (some (.int s.left)) (some (.ref f)) (some (.int k)) x14 x15 y16 ∧ Kp f h h' ∧ lstAt h' f = some (fs ++ (mv1 t s k).map enc)) (fun _ _ => False) := by
  obtain ⟨y, hy⟩ : ∃ y, s.held.getD k 0 = y := ⟨_, rfl⟩
  obtain ⟨z, hz⟩ : ∃ z, s.held.getD 0 0 = z := ⟨_, rfl⟩
  have e1 : atI (s.held.map D.int) (k : Int) = some (.int y) := atI_nat (by rw [← hy]; simp [hk])
  have e0 : atI (s.held.map D.int) 0 = some (.int z) := atI_nat (j := 0) (by rw [← hz]; simp [show 0 < s.held.length by omega])
  have e3 : (s.held.map D.int).set k (.int s.atx) = (s.held.set k s.atx).map D.int := by rw [List.map_set]
  have e4 : cutD ((s.held.map D.int).set k (.int s.atx)) (some 1) none = ((s.held.set k s.atx).drop 1).map D.int := by
    rw [e3, cutD_1, List.map_drop]
  have e5 : intsOf (cutD ((s.held.map D.int).set k (.int s.atx)) (some 1) none) = some ((s.held.set k s.atx).drop 1) := by rw [e4, intsOf_map]
  have e6 : (sortI ((s.held.set k s.atx).drop 1)).length ≤ 1000 := by rw [sortI_length, List.length_drop, List.length_set]; omega
  have hfl := lstAt_lt hl
  have hv1 : mv1 t s k = (if y < t then [{ s with atx := y }] else []) ++ (if 0 < k then [{ s with held := z :: sortI ((s.held.set k s.atx).drop 1) }] else []) := by unfold mv1; rw [hy, hz]
  rw [hv1]
  unfold l1__law_possible SL
  have hlen' : fs.length < 16777216 := by omega
  repeat walk_at "s"
  refine i_d (fun c1 => ?_) (fun c1 => ?_)
  · repeat walk_at "s"
    refine i_d (fun c2 => ?_) (fun c2 => ?_)
    · have c2' : 0 < k := by omega
      repeat walk_at "s"
      refine ⟨_, rfl, by walk_at "kp", (show lstAt _ _ = some _ from by walk_at "lk").trans ?_⟩
      simp [enc, c1, c2']
    · have c2' : ¬ 0 < k := by omega
      repeat walk_at "s"
      refine ⟨_, rfl, by walk_at "kp", (show lstAt _ _ = some _ from by walk_at "lk").trans ?_⟩
      simp [enc, c1, c2']
  · repeat walk_at "s"
    refine i_d (fun c2 => ?_) (fun c2 => ?_)
    · have c2' : 0 < k := by omega
      repeat walk_at "s"
      refine ⟨_, rfl, by walk_at "kp", (show lstAt _ _ = some _ from by walk_at "lk").trans ?_⟩
      simp [enc, c1, c2']
    · have c2' : ¬ 0 < k := by omega
      repeat walk_at "s"
      refine ⟨_, rfl, by walk_at "kp", (show lstAt _ _ = some _ from by walk_at "lk").trans ?_⟩
      simp [enc, c1, c2']

def mvs (p : Nat) (t : Int) (s : Sx) : List Sx := (List.range p).flatMap (mv1 t s)
theorem mv1_len (t : Int) (s : Sx) (k : Nat) : (mv1 t s k).length ≤ 2 := by
  unfold mv1
  rw [List.length_append]
  split <;> split <;> simp
theorem mv1s_len (t : Int) (s : Sx) : ∀ ks : List Nat, (ks.flatMap (mv1 t s)).length ≤ 2 * ks.length
  | [] => by simp
  | k :: ks => by
    rw [List.flatMap_cons, List.length_append, List.length_cons]
    have := mv1_len t s k
    have := mv1s_len t s ks
    omega
abbrev SB (t p r M : Int) (x4 x5 x6 x7 : Option D) (s : Sx) (f : Nat) (x13 x14 x15 x16 : Option D) : Sl := SL t p r M x4 x5 x6 x7 (some (.tup (s.held.map .int))) (some (.int s.atx)) (some (.tup (s.gone.map .int))) (some (.int s.left)) (some (.ref f)) x13 x14 x15 x16
theorem range_drop {n j : Nat} (hj : j < n) : (List.range n).drop j = j :: (List.range n).drop (j + 1) := by
  rw [List.drop_eq_getElem_cons (by simpa using hj)]
  simp
theorem range_take {n j : Nat} (hj : j < n) : (List.range n).take (j + 1) = (List.range n).take j ++ [j] := by
  rw [List.take_add_one]
  simp [hj]
theorem l1_loop (t p r M : Int) (x4 x5 x6 x7 x14 x15 x16 : Option D) (s : Sx) (f n : Nat) (fs : List D) (h : Hh) (hn : n = s.held.length) (hl : lstAt h f = some fs) (hlen : fs.length ≤ 2) (hs : s.held.length ≤ 3) (x13 : Option D) :
    OkS (loopF (tgN 13) (fun _ => true) l1__law_possible (rangeD 0 n) (SB t p r M x4 x5 x6 x7 s f x13 x14 x15 x16) h)
      (fun sd' h' => ∃ y13 y16, sd' = SB t p r M x4 x5 x6 x7 s f y13 x14 x15 y16 ∧ Kp f h h' ∧ lstAt h' f = some (fs ++ (mvs n t s).map enc)) (fun _ _ => False) := by
  refine s_loop (I := fun ds sd h' => ∃ j y13 y16, j ≤ n ∧ ds = ((List.range n).drop j).map (fun (i : Nat) => D.int (0 + i)) ∧ sd = SB t p r M x4 x5 x6 x7 s f y13 x14 x15 y16 ∧ Kp f h h' ∧ lstAt h' f = some (fs ++ (((List.range n).take j).flatMap (mv1 t s)).map enc)) (fun _ _ _ _ => rfl) ?_ ?_ _ _ _ ?_
  · rintro d ds sd h' ⟨j, y13, y16, hj, ed, rfl, kp, el⟩
    by_cases hjn : j < n
    · rw [range_drop hjn, List.map_cons] at ed
      obtain ⟨rfl, rfl⟩ := List.cons.inj ed
      refine ⟨_, rfl, ?_⟩
      have len := mv1s_len t s ((List.range n).take j)
      have st := l1_step t p r M x4 x5 x6 x7 x14 x15 y16 s f j _ h' (by omega) el (by
        rw [List.length_append, List.length_map]
        rw [List.length_take, List.length_range] at len
        omega) (by omega)
      rw [show (0 : Int) + (j : Int) = (j : Int) by omega]
      refine OkS.imp st (fun sd2 h2 ⟨z16, e, kp2, el2⟩ => ⟨j + 1, _, z16, hjn, rfl, e, kp.trans kp2, ?_⟩) fun _ _ z => z
      rw [el2, range_take hjn, List.flatMap_append, List.map_append]
      simp
    · rw [List.drop_of_length_le (by simp; omega)] at ed
      cases ed
  · rintro sd h' ⟨j, y13, y16, hj, ed, rfl, kp, el⟩
    refine ⟨y13, y16, rfl, kp, ?_⟩
    have : j = n := by
      have := congrArg List.length ed
      simp at this
      omega
    subst this
    rw [el, List.take_of_length_le (by simp)]
    rfl
  · exact ⟨0, x13, x16, Nat.zero_le _, by rw [List.drop_zero]; rfl, rfl, .refl, by simpa using hl⟩
/-! ### the states as keys -/
def nk (s : Sx) : NestedKey := .tup [.tup (s.held.map .num), .num s.atx, .tup (s.gone.map .num), .num s.left]
theorem toNKs_ints : ∀ (k : Nat) (ns : List Int), toNKs (k + 1) (ns.map D.int) = some (ns.map .num)
  | k, [] => by rw [List.map_nil, List.map_nil]; unfold toNKs; rfl
  | k, n :: ns => by
    rw [List.map_cons, List.map_cons]
    unfold toNKs
    rw [toNKs_ints k ns]
    rfl
theorem toNK_enc (s : Sx) : toNK nkD (enc s) = some (nk s) := by
  unfold nkD enc
  simp only [toNK, toNKs, toNKs_ints]
  rfl
theorem map_num_inj : ∀ {a b : List Int}, a.map NestedKey.num = b.map NestedKey.num → a = b
  | [], [], _ => rfl
  | x :: a, y :: b, e => by
    rw [List.map_cons, List.map_cons] at e
    injection e with e1 e2
    injection e1 with e1
    rw [e1, map_num_inj e2]
theorem nk_inj {a b : Sx} (e : nk a = nk b) : a = b := by
  unfold nk at e
  injection e with e
  injection e with e1 e
  injection e with e2 e
  injection e with e3 e
  injection e with e4 e
  injection e1 with e1
  injection e2 with e2
  injection e3 with e3
  injection e4 with e4
  obtain ⟨h1, a1, g1, l1⟩ := a
  obtain ⟨h2, a2, g2, l2⟩ := b
  cases map_num_inj e1
  cases map_num_inj e3
  cases e2
  cases e4
  rfl
abbrev sn (o : List Sx) : List (D × D) := o.map fun s => (enc s, D.bl true)
theorem lookN_sn (s : Sx) : ∀ o : List Sx, (lookN (nk s) (sn o)).isSome = decide (s ∈ o)
  | [] => rfl
  | x :: o => by
    have ih := lookN_sn s o
    rw [show sn (x :: o) = (enc x, D.bl true) :: sn o from rfl]
    unfold lookN
    rw [toNK_enc]
    by_cases c : s = x
    · subst c
      simp
    · rw [if_neg (fun z => c (nk_inj (Option.some.inj z)).symm), ih]
      simp [c]
def addS (o : List Sx) (s : Sx) : List Sx := if s ∈ o then o else o ++ [s]
theorem clos_ints : ∀ ns : List Int, closDs 0 (ns.map D.int) = true
  | [] => rfl
  | n :: ns => by
    show (closD 0 (D.int n) && closDs 0 (ns.map D.int)) = true
    rw [clos_ints ns]; rfl
theorem clos_enc (s : Sx) : closD 0 (enc s) = true := by
  show (closDs 0 (s.held.map D.int) && (true && (closDs 0 (s.gone.map D.int) && (true && true)))) = true
  rw [clos_ints, clos_ints]; rfl
theorem clos_encs : ∀ o : List Sx, closDs 0 (o.map enc) = true
  | [] => rfl
  | x :: o => by
    show (closD 0 (enc x) && closDs 0 (o.map enc)) = true
    rw [clos_enc, clos_encs o]; rfl
theorem dik_lt {h : Hh} {b : Nat} {ps : List (D × D)} (e : dikAt h b = some ps) : b < h.length := (List.getElem?_eq_some_iff.mp (dikAt_eq e)).1
/-- what the heap holds of the search -/
structure HI (h : Hh) (a b : Nat) (o : List Sx) : Prop where
  l : lstAt h a = some (o.map enc)
  d : dikAt h b = some (sn o)
theorem HI.ne {h : Hh} {a b : Nat} {o : List Sx} (i : HI h a b o) : a ≠ b := fun e => by
  subst e
  have := lstAt_eq i.l
  rw [dikAt_eq i.d] at this
  cases this
theorem l2_step (t p r M : Int) (x4 x7 x8 x9 x10 x11 x12 x13 x15 x16 : Option D) (s : Sx) (a b f : Nat) (o : List Sx) (fs : List D) (h : Hh) (i : HI h a b o) (ho : o.length ≤ 16000) (hf : lstAt h f = some fs) (nf : f ≠ a) :
    OkS (l2__law_possible (SL t p r M x4 (some (.ref b)) (some (.ref a)) x7 x8 x9 x10 x11 x12 x13 (some (enc s)) x15 x16) h)
      (fun sd' h' => sd' = SL t p r M x4 (some (.ref b)) (some (.ref a)) x7 x8 x9 x10 x11 x12 x13 (some (enc s)) x15 x16 ∧ HI h' a b (addS o s) ∧ lstAt h' f = some fs) (fun _ _ => False) := by
  have hb := dik_lt i.d
  have ha := lstAt_lt i.l
  have nab := i.ne
  have nfb : f ≠ b := fun e => by
    subst e
    have := lstAt_eq hf
    rw [dikAt_eq i.d] at this
    cases this
  have ein : oInX true (enc s) (.ref b) h = .ok (.bl (!decide (s ∈ o))) h := by
    unfold oInX
    simp only [i.d]
    have : inDik true (enc s) (sn o) h = .ok (.bl (!(lookN (nk s) (sn o)).isSome)) h := by
      have e := toNK_enc s
      unfold enc at e ⊢
      unfold inDik
      simp only [e]
      rfl
    rw [this, lookN_sn]
  unfold l2__law_possible SL
  refine s_if (o_tb (o_bin2 ?_))
  iterate 2 walk_at "s"
  refine o_eq ein (o_ok ?_)
  refine x_bl (i_nd (fun c => ?_) (fun c => ?_))
  · have eset : setDik (.ref b) (enc s) (.bl true) h = some (h.set b (.dik (sn (addS o s)))) := by
      have e := toNK_enc s
      have el := lookN_sn s o
      unfold setDik
      simp only [i.d]
      unfold enc at e ⊢
      simp only [e]
      rw [if_pos (by rw [List.length_map]; show o.length < 16777216; omega)]
      unfold putN
      rw [el, if_neg (by simpa using c)]
      unfold addS
      rw [if_neg c]
      simp [sn, enc]
    refine s_seq ?_
    refine s_eS (o_cst (s_eS (o_get rfl rfl (s_eS (o_get rfl rfl ?_)))))
    simp only [eset]
    refine s_nx ?_
    have hl2 : lstAt (h.set b (.dik (sn (addS o s)))) a = some (o.map enc) := lstAt_set_ne i.l (Ne.symm nab)
    have hlen : (o.map enc).length < 16777216 := by rw [List.length_map]; omega
    repeat walk_at "s"
    refine ⟨rfl, ⟨?_, ?_⟩, ?_⟩
    · refine (k_self (by simpa using ha)).trans ?_
      unfold addS
      rw [if_neg c]
      simp
    · unfold dikAt
      rw [List.getElem?_set_ne nab, List.getElem?_set_self hb]
    · exact lstAt_set_ne (lstAt_set_ne hf (Ne.symm nfb)) (Ne.symm nf)
  · refine s_sNx ⟨rfl, ?_, hf⟩
    unfold addS
    rw [if_pos c]
    exact i

theorem addS_len (o : List Sx) (s : Sx) : (addS o s).length ≤ o.length + 1 := by
  unfold addS
  split <;> simp
theorem addS_fold_len : ∀ (l o : List Sx), (l.foldl addS o).length ≤ o.length + l.length
  | [], o => by simp
  | x :: l, o => by
    have := addS_fold_len l (addS o x)
    have := addS_len o x
    rw [List.foldl_cons, List.length_cons]
    omega
theorem l2_loop (t p r M : Int) (x4 x7 x8 x9 x10 x11 x13 x15 x16 : Option D) (a b f : Nat) : ∀ (l : List Sx) (o : List Sx) (x14 : Option D) (fs : List Sx) (h : Hh), HI h a b o → o.length + l.length ≤ 16000 → lstAt h f = some (fs.map enc) → f ≠ a →
    OkS (loopF (tgN 14) (pinL f (fs.map enc)) l2__law_possible (l.map enc) (SL t p r M x4 (some (.ref b)) (some (.ref a)) x7 x8 x9 x10 x11 (some (.ref f)) x13 x14 x15 x16) h)
      (fun sd' h' => ∃ y14, sd' = SL t p r M x4 (some (.ref b)) (some (.ref a)) x7 x8 x9 x10 x11 (some (.ref f)) x13 y14 x15 x16 ∧ HI h' a b (l.foldl addS o)) (fun _ _ => False) := by
  intro l o x14 fs h i hl hf nf
  have pin : ∀ h' : Hh, lstAt h' f = some (fs.map enc) → pinL f (fs.map enc) h' = true := fun h' e => by
    unfold pinL
    rw [e]
    exact beqDs_self (clos_encs fs)
  refine s_loop (I := fun ds sd h' => ∃ (l' : List Sx) (o' : List Sx) (y14 : Option D), ds = l'.map enc ∧ sd = SL t p r M x4 (some (.ref b)) (some (.ref a)) x7 x8 x9 x10 x11 (some (.ref f)) x13 y14 x15 x16 ∧ HI h' a b o' ∧ o'.length + l'.length ≤ 16000 ∧ l'.foldl addS o' = l.foldl addS o ∧ lstAt h' f = some (fs.map enc)) ?_ ?_ ?_ _ _ _ ⟨l, o, x14, rfl, rfl, i, hl, rfl, hf⟩
  · rintro ds sd h' ⟨l', o', y14, _, _, _, _, _, e⟩
    exact pin h' e
  · rintro d ds sd h' ⟨l', o', y14, ed, rfl, i', hl', ef, e⟩
    cases l' with
    | nil => cases ed
    | cons x l' =>
      rw [List.map_cons] at ed
      obtain ⟨rfl, rfl⟩ := List.cons.inj ed
      refine ⟨_, rfl, ?_⟩
      rw [List.length_cons] at hl'
      refine OkS.imp (l2_step t p r M x4 x7 x8 x9 x10 x11 (some (.ref f)) x13 x15 x16 x a b f o' _ h' i' (by omega) e nf) (fun sd2 h2 ⟨e2, i2, f2⟩ => ⟨l', addS o' x, _, rfl, e2, i2, ?_, ef, f2⟩) fun _ _ z => z
      have := addS_len o' x
      omega
  · rintro sd h' ⟨l', o', y14, ed, rfl, i', hl', ef, e⟩
    cases l' with
    | cons x l' => cases ed
    | nil => exact ⟨y14, rfl, by rw [← ef]; exact i'⟩
def acc (s : Sx) : Bool := decide (s.atx = s.left - 1) && decide (s.atx = 0)
def m0 (s : Sx) : List Sx := if s.atx = s.left - 1 then [{ s with left := s.atx }] else []
def mg (r : Int) (s : Sx) : List Sx := if s.atx + 1 < s.left ∧ s.gone.getD s.atx.toNat 0 < r then [{ s with atx := s.atx + 1, gone := s.gone.set s.atx.toNat (s.gone.getD s.atx.toNat 0 + 1) }] else []
def moves (p : Nat) (t r : Int) (s : Sx) : List Sx := m0 s ++ mg r s ++ mvs p t s
structure Val (p t : Nat) (s : Sx) : Prop where
  h : s.held.length = p
  g : s.gone.length = t
  a : 0 ≤ s.atx
  l : s.left ≤ t
  n : ∀ x ∈ s.held, 0 ≤ x
theorem l3_rest (p t : Nat) (r M : Int) (x4 x13 x14 x15 x16 : Option D) (a b i : Nat) (o : List Sx) (s : Sx) (f : Nat) (h : Hh) (I : HI h a b o) (hp : p ≤ 3) (hp0 : 0 < p) (V : Val p t s) (ho : o.length ≤ 7000) (hf : lstAt h f = some ((m0 s ++ mg r s).map enc)) (nf : f ≠ a) (hacc : acc s = false) :
    OkS ((sSeq (sFor (fun sd => bnd ((aCons (getS 1) aNil) sd) srcR1) (tgN 13) l1__law_possible) (sSeq (sFor (fun sd => bnd ((getS 12) sd) srcAny) (tgN 14) l2__law_possible)
      (sIf (tb (bin2 oGt (vCall (f1 dLen) (aCons (getS 6) aNil)) (getS 3))) (sRet (cst .non)) sNx))) (SB t p r M x4 (some (.ref b)) (some (.ref a)) (some (.int i)) s f x13 x14 x15 x16) h)
      (fun sd' h' => (∃ y8 y9 y10 y11 y12 y13 y14 y15 y16, sd' = SL t p r M x4 (some (.ref b)) (some (.ref a)) (some (.int i)) y8 y9 y10 y11 y12 y13 y14 y15 y16) ∧ HI h' a b ((moves p t r s).foldl addS o) ∧ acc s = false ∧ (((moves p t r s).foldl addS o).length : Int) ≤ M) (fun d _ => d = .non ∨ d = .bl true ∧ acc s = true) := by
  have l2 : (m0 s ++ mg r s).length ≤ 2 := by
    rw [List.length_append]
    have h1 : (m0 s).length ≤ 1 := by unfold m0; split <;> simp
    have h2 : (mg r s).length ≤ 1 := by unfold mg; split <;> simp
    omega
  have nfb : f ≠ b := fun e => by
    subst e
    have := lstAt_eq hf
    rw [dikAt_eq I.d] at this
    cases this
  have hb := dik_lt I.d
  have ha := lstAt_lt I.l
  refine s_seq (s_for ?_)
  unfold SB SL
  refine o_bnd ?_
  iterate 3 walk_at "s"
  refine o_r1 (by omega) ?_
  rw [Int.toNat_natCast]
  refine OkS.imp (l1_loop t p r M x4 (some (.ref b)) (some (.ref a)) (some (.int i)) x14 x15 x16 s f p _ h V.h.symm hf (by simpa using l2) (by rw [V.h]; exact hp) x13) (fun sd1 h1 ⟨y13, y16, e1, kp, el⟩ => ?_) fun _ _ z => z.elim
  subst e1
  rw [← List.map_append] at el
  have I1 : HI h1 a b o := ⟨kp.lst I.l (Ne.symm nf), kp.dik I.d (Ne.symm nfb)⟩
  refine s_seq (s_for (o_bnd ?_))
  unfold SB SL
  walk_at "s"
  refine o_srcL el ?_
  have ml : (moves p t r s).length ≤ 8 := by
    unfold moves mvs
    rw [List.length_append]
    have := mv1s_len t s (List.range p)
    rw [List.length_range] at this
    omega
  refine OkS.imp (l2_loop t p r M x4 _ _ _ _ _ _ _ _ a b f (moves p t r s) o x14 (moves p t r s) h1 I1 (by omega) el nf) (fun sd2 h2 ⟨y14, e2, I2⟩ => ?_) fun _ _ z => z.elim
  subst e2
  have hl2 := I2.l
  unfold SL
  repeat walk_at "s"
  refine i_d (fun c => ?_) (fun c => ?_)
  · repeat walk_at "s"
    exact .inl rfl
  · repeat walk_at "s"
    refine ⟨⟨_, _, _, _, _, _, _, _, _, rfl⟩, I2, hacc, ?_⟩
    rw [List.length_map] at c
    omega
theorem l3_step (p t : Nat) (r M : Int) (x4 x8 x9 x10 x11 x12 x13 x14 x15 x16 : Option D) (a b i : Nat) (o : List Sx) (s : Sx) (h : Hh) (I : HI h a b o) (hp : p ≤ 3) (hp0 : 0 < p) (ht : t ≤ 7) (hi : o[i]? = some s) (V : Val p t s) (ho : o.length ≤ 7000) :
    OkS (l3__law_possible (SL t p r M x4 (some (.ref b)) (some (.ref a)) (some (.int i)) x8 x9 x10 x11 x12 x13 x14 x15 x16) h)
      (fun sd' h' => (∃ y8 y9 y10 y11 y12 y13 y14 y15 y16, sd' = SL t p r M x4 (some (.ref b)) (some (.ref a)) (some (.int i)) y8 y9 y10 y11 y12 y13 y14 y15 y16) ∧ HI h' a b ((moves p t r s).foldl addS o) ∧ acc s = false ∧ (((moves p t r s).foldl addS o).length : Int) ≤ M) (fun d _ => d = .non ∨ d = .bl true ∧ acc s = true) := by
  have hil : i < o.length := (List.getElem?_eq_some_iff.mp hi).1
  have hl := I.l
  have hd := I.d
  have ha := lstAt_lt I.l
  have hb := dik_lt I.d
  have e1 : atI (o.map enc) (i : Int) = some (.tup [.tup (s.held.map .int), .int s.atx, .tup (s.gone.map .int), .int s.left]) := atI_nat (by rw [List.getElem?_map, hi]; rfl)
  unfold l3__law_possible SL
  repeat walk_at "s"
  refine i_df (by rw [List.length_map]; omega) ?_
  repeat walk_at "s"
  refine i_dS (fun sd' h' => sd' = SB t p r M x4 (some (.ref b)) (some (.ref a)) (some (.int i)) s h.length x13 x14 x15 x16 ∧ HI h' a b o ∧ lstAt h' h.length = some ((m0 s).map enc) ∧ acc s = false) (fun c => ?_) (fun c => ?_) ?_
  · repeat walk_at "s"
    refine i_d (fun c2 => ?_) (fun c2 => ?_)
    · repeat walk_at "s"
      exact .inr ⟨rfl, by unfold acc; rw [decide_eq_true c, decide_eq_true c2]; rfl⟩
    · repeat walk_at "s"
      refine ⟨rfl, ⟨by walk_at "lk", ?_⟩, ?_, ?_⟩
      · exact Kp.dik (f := h.length) (by walk_at "kp") hd (by omega)
      · refine (show lstAt _ _ = some _ from by walk_at "lk").trans ?_
        unfold m0
        rw [if_pos c]
        simp [enc]
      · unfold acc
        rw [decide_eq_false c2, Bool.and_false]
  · repeat walk_at "s"
    refine ⟨rfl, ⟨by walk_at "lk", ?_⟩, ?_, ?_⟩
    · exact Kp.dik (f := h.length) (by walk_at "kp") hd (by omega)
    · refine (show lstAt _ _ = some _ from by walk_at "lk").trans ?_
      unfold m0
      rw [if_neg c]
      simp
    · unfold acc
      rw [decide_eq_false c, Bool.false_and]
  rintro sd' h1 ⟨rfl, I1, l1, hacc⟩
  unfold SB SL
  have hf : h.length < h1.length := lstAt_lt l1
  have ha1 := I1.l
  have hd1 := I1.d
  have m0l : (m0 s).length ≤ 1 := by unfold m0; split <;> simp
  clear hl hd
  have hgl : lstAt h1 h.length = some ((m0 s).map enc) := l1
  by_cases c3 : s.atx + 1 < s.left
  · have hg0 : s.atx.toNat < s.gone.length := by have := V.g; have := V.l; have := V.a; omega
    have eat : ((s.atx.toNat : Nat) : Int) = s.atx := Int.toNat_of_nonneg V.a
    obtain ⟨g, hg⟩ : ∃ g, s.gone.getD s.atx.toNat 0 = g := ⟨_, rfl⟩
    have e2 : atI (s.gone.map D.int) s.atx = some (.int g) := by
      rw [← eat]
      exact atI_nat (by rw [← hg]; simp [hg0])
    have e3 : ixN (s.gone.map D.int).length s.atx = some s.atx.toNat := by
      have := ixN_nat' (n := (s.gone.map D.int).length) (j := s.atx.toNat) (by simpa using hg0)
      rw [eat] at this
      exact this
    have e4 : (s.gone.map D.int).set s.atx.toNat (.int (g + 1)) = (s.gone.set s.atx.toNat (g + 1)).map D.int := by rw [List.map_set]
    repeat walk_at "s"
    refine i_dt c3 ?_
    repeat walk_at "s"
    refine i_d (fun c4 => ?_) (fun c4 => ?_)
    · have hm : mg r s = [{ s with atx := s.atx + 1, gone := s.gone.set s.atx.toNat (g + 1) }] := by
        unfold mg
        rw [hg, if_pos ⟨c3, c4⟩]
      have ml : ((m0 s).map enc).length ≤ 1 := by rw [List.length_map]; exact m0l
      repeat ((fail_if_success (with_reducible refine s_seq (g := sSeq (sFor _ _ l2__law_possible) _) ?_)); walk_at "s")
      refine l3_rest p t r M x4 x13 x14 _ x16 a b i o s h.length _ ⟨by walk_at "lk", ?_⟩ hp hp0 V ho ?_ (by omega) hacc
      · exact Kp.dik (f := h.length) (by walk_at "kp") hd1 (by omega)
      · refine (show lstAt _ _ = some _ from by walk_at "lk").trans ?_
        rw [hm, e4]
        simp [enc]
    · have hm : mg r s = [] := by
        unfold mg
        rw [hg, if_neg (fun z => c4 z.2)]
      repeat ((fail_if_success (with_reducible refine s_seq (g := sSeq (sFor _ _ l2__law_possible) _) ?_)); walk_at "s")
      exact l3_rest p t r M x4 x13 x14 x15 x16 a b i o s h.length _ I1 hp hp0 V ho (by rw [hm]; simpa using l1) (by omega) hacc
  · have hm : mg r s = [] := by
      unfold mg
      rw [if_neg (fun z => c3 z.1)]
    repeat walk_at "s"
    refine i_df c3 ?_
    repeat ((fail_if_success (with_reducible refine s_seq (g := sSeq (sFor _ _ l2__law_possible) _) ?_)); walk_at "s")
    exact l3_rest p t r M x4 x13 x14 x15 x16 a b i o s h.length _ I1 hp hp0 V ho (by rw [hm]; simpa using l1) (by omega) hacc

theorem o_disN {sd : Sl} {h : Hh} {QD : D → Hh → Prop} {fk fv : Sl → M D} (p : OkM (fk sd h) fun k h1 => OkM (fv sd h1) fun v h2 => ∃ ds x, k = .tup ds ∧ toNK nkD (.tup ds) = some x ∧ QD (.ref h2.length) (h2 ++ [.dik [(.tup ds, v)]])) : OkM (vDisN fk fv sd h) QD :=
  o_bnd (f := fk sd) (p.imp fun k h1 p => o_bnd (f := fv sd) (p.imp fun v h2 ⟨ds, x, e, e2, q⟩ => by
    subst e
    exact ⟨_, _, by simp only [e2], q⟩))
theorem m0_val {p t : Nat} {s x : Sx} (V : Val p t s) (hx : x ∈ m0 s) : Val p t x := by
  unfold m0 at hx
  split at hx
  · rename_i c
    rw [List.mem_singleton] at hx
    subst hx
    exact ⟨V.h, V.g, V.a, by show s.atx ≤ t; have := V.l; omega, V.n⟩
  · cases hx
theorem mg_val {p t : Nat} {r : Int} {s x : Sx} (V : Val p t s) (hx : x ∈ mg r s) : Val p t x := by
  unfold mg at hx
  split at hx
  · rw [List.mem_singleton] at hx
    subst hx
    exact ⟨V.h, by show (s.gone.set _ _).length = t; rw [List.length_set]; exact V.g, by show 0 ≤ s.atx + 1; have := V.a; omega, V.l, V.n⟩
  · cases hx
theorem mv1_val {p t k : Nat} {s x : Sx} (hp : 0 < p) (V : Val p t s) (hx : x ∈ mv1 t s k) : Val p t x := by
  have nn : ∀ k, 0 ≤ s.held.getD k 0 := fun k => by
    by_cases hk : k < s.held.length
    · simp only [List.getD_eq_getElem?_getD, List.getElem?_eq_getElem hk, Option.getD_some]
      exact V.n _ (List.getElem_mem hk)
    · simp [List.getElem?_eq_none (Nat.le_of_not_lt hk)]
  unfold mv1 at hx
  rcases List.mem_append.mp hx with hx | hx
  · split at hx
    · rw [List.mem_singleton] at hx
      subst hx
      exact ⟨V.h, V.g, nn k, V.l, V.n⟩
    · cases hx
  · split at hx
    · rw [List.mem_singleton] at hx
      subst hx
      refine ⟨?_, V.g, V.a, V.l, ?_⟩
      · show (_ :: sortI _).length = p
        rw [List.length_cons, sortI_length, List.length_drop, List.length_set, V.h]
        omega
      · intro z hz
        have hz : z ∈ s.held.getD 0 0 :: sortI ((s.held.set k s.atx).drop 1) := hz
        rcases List.mem_cons.mp hz with e | hz
        · rw [e]; exact nn 0
        · have h2 := List.mem_of_mem_drop ((sortI_perm _).mem_iff.mp hz)
          rcases List.mem_or_eq_of_mem_set h2 with h3 | h3
          · exact V.n _ h3
          · rw [h3]; exact V.a
    · cases hx
theorem moves_val {p t : Nat} {r : Int} {s x : Sx} (hp : 0 < p) (V : Val p t s) (hx : x ∈ moves p t r s) : Val p t x := by
  unfold moves mvs at hx
  rcases List.mem_append.mp hx with hx | hx
  · rcases List.mem_append.mp hx with hx | hx
    · exact m0_val V hx
    · exact mg_val V hx
  · obtain ⟨k, _, hk⟩ := List.mem_flatMap.mp hx
    exact mv1_val hp V hk
def s0 (p t : Nat) : Sx := ⟨0 :: List.replicate (p - 1) (t : Int), 0, List.replicate t 0, t⟩
inductive Reach (p t : Nat) (r : Int) : Sx → Prop
  | start : Reach p t r (s0 p t)
  | step {s x : Sx} : Reach p t r s → x ∈ moves p t r s → Reach p t r x
/-- a set of states, closed under the moves, none of them done -/
def CL (p t : Nat) (r : Int) (o : List Sx) : Prop := s0 p t ∈ o ∧ ∀ s, s ∈ o → acc s = false ∧ ∀ x, x ∈ moves p t r s → x ∈ o
theorem addS_mem {o : List Sx} {s x : Sx} : x ∈ addS o s ↔ x ∈ o ∨ x = s := by
  unfold addS
  split
  · rename_i c
    exact ⟨.inl, fun z => z.elim id fun e => by rw [e]; exact c⟩
  · rw [List.mem_append, List.mem_singleton]
theorem addS_pre (o : List Sx) (s : Sx) : ∃ g, addS o s = o ++ g := by
  unfold addS
  split
  · exact ⟨[], by simp⟩
  · exact ⟨[s], rfl⟩
theorem fold_mem {x : Sx} : ∀ {l o : List Sx}, x ∈ l.foldl addS o ↔ x ∈ o ∨ x ∈ l
  | [], o => by simp
  | y :: l, o => by
    rw [List.foldl_cons, fold_mem (l := l), addS_mem, List.mem_cons, or_assoc]
theorem fold_pre : ∀ (l o : List Sx), ∃ g, l.foldl addS o = o ++ g
  | [], o => ⟨[], by simp⟩
  | y :: l, o => by
    obtain ⟨g1, e1⟩ := addS_pre o y
    obtain ⟨g2, e2⟩ := fold_pre l (addS o y)
    exact ⟨g1 ++ g2, by rw [List.foldl_cons, e2, e1, List.append_assoc]⟩
def Found (p t : Nat) (r : Int) (d : D) : Prop := d = .non ∨ (d = .bl true ∧ ∃ s, Reach p t r s ∧ acc s = true) ∨ (d = .bl false ∧ ∃ o, CL p t r o)
/-- the search as it stands when turn i comes -/
structure At (p t : Nat) (r : Int) (i : Nat) (o : List Sx) : Prop where
  st : s0 p t ∈ o
  ok : ∀ s, s ∈ o → Val p t s ∧ Reach p t r s
  cl : ∀ j s, j < i → o[j]? = some s → acc s = false ∧ ∀ x, x ∈ moves p t r s → x ∈ o
theorem l3_end (p t : Nat) (r M : Int) (x4 x8 x9 x10 x11 x12 x13 x14 x15 x16 : Option D) (a b i : Nat) (o : List Sx) (h : Hh) (I : HI h a b o) (hi : o.length ≤ i) {N : Sl → Hh → Prop} :
    OkS (l3__law_possible (SL t p r M x4 (some (.ref b)) (some (.ref a)) (some (.int i)) x8 x9 x10 x11 x12 x13 x14 x15 x16) h) N (fun d _ => d = .bl false) := by
  have hl := I.l
  unfold l3__law_possible SL
  repeat walk_at "s"
  refine i_dt (by rw [List.length_map]; omega) ?_
  repeat walk_at "s"
  rfl
theorem l3_loop (p t : Nat) (r : Int) (x4 x7 x8 x9 x10 x11 x12 x13 x14 x15 x16 : Option D) (a b : Nat) (o : List Sx) (h : Hh) (I : HI h a b o) (A : At p t r 0 o) (hp : p ≤ 3) (hp0 : 0 < p) (ht : t ≤ 7) (ho : o.length ≤ 6000) :
    OkS (loopF (tgN 7) (fun _ => true) l3__law_possible (rangeD 0 6001) (SL t p r 6000 x4 (some (.ref b)) (some (.ref a)) x7 x8 x9 x10 x11 x12 x13 x14 x15 x16) h) (fun _ _ => True) (fun d _ => Found p t r d) := by
  refine s_loop (I := fun ds sd h' => ∃ i o' y7 y8 y9 y10 y11 y12 y13 y14 y15 y16, i ≤ 6001 ∧ ds = ((List.range 6001).drop i).map (fun (i : Nat) => D.int (0 + i)) ∧ sd = SL t p r 6000 x4 (some (.ref b)) (some (.ref a)) y7 y8 y9 y10 y11 y12 y13 y14 y15 y16 ∧ HI h' a b o' ∧ At p t r i o' ∧ o'.length ≤ 6000) (fun _ _ _ _ => rfl) ?_ (fun _ _ _ => trivial) _ _ _ ⟨0, o, _, _, _, _, _, _, _, _, _, _, Nat.zero_le _, by rw [List.drop_zero]; rfl, rfl, I, A, ho⟩
  rintro d ds sd h' ⟨i, o', y7, y8, y9, y10, y11, y12, y13, y14, y15, y16, hi, ed, rfl, I', A', ho'⟩
  by_cases hin : i < 6001
  · rw [range_drop hin, List.map_cons] at ed
    obtain ⟨rfl, rfl⟩ := List.cons.inj ed
    refine ⟨_, rfl, ?_⟩
    rw [show (0 : Int) + (i : Int) = (i : Int) by omega]
    by_cases c : i < o'.length
    · obtain ⟨s, hs⟩ : ∃ s, o'[i]? = some s := ⟨_, List.getElem?_eq_getElem c⟩
      have ms := List.mem_of_getElem? hs
      obtain ⟨V, Rs⟩ := A'.ok s ms
      refine OkS.imp (l3_step p t r 6000 x4 y8 y9 y10 y11 y12 y13 y14 y15 y16 a b i o' s h' I' hp hp0 ht hs V (by omega)) ?_ ?_
      · rintro sd2 h2 ⟨⟨z8, z9, z10, z11, z12, z13, z14, z15, z16, e⟩, I2, ac, len⟩
        refine ⟨i + 1, _, _, z8, z9, z10, z11, z12, z13, z14, z15, z16, hin, rfl, e, I2, ⟨fold_mem.mpr (.inl A'.st), fun x hx => ?_, fun j x hj hx => ?_⟩, by omega⟩
        · rcases fold_mem.mp hx with hx | hx
          · exact A'.ok x hx
          · exact ⟨moves_val hp0 V hx, .step Rs hx⟩
        · obtain ⟨g, eg⟩ := fold_pre (moves p t r s) o'
          have hjl : j < o'.length := by omega
          rw [eg, List.getElem?_append_left hjl] at hx
          by_cases hji : j = i
          · subst hji
            rw [hs] at hx
            cases hx
            exact ⟨ac, fun y hy => fold_mem.mpr (.inr hy)⟩
          · obtain ⟨q1, q2⟩ := A'.cl j x (by omega) hx
            exact ⟨q1, fun y hy => fold_mem.mpr (.inl (q2 y hy))⟩
      · rintro d h2 (e | ⟨e, ac⟩)
        · exact .inl e
        · exact .inr (.inl ⟨e, s, Rs, ac⟩)
    · refine OkS.imp (l3_end p t r 6000 x4 y8 y9 y10 y11 y12 y13 y14 y15 y16 a b i o' h' I' (by omega) (N := fun _ _ => False)) (fun _ _ z => z.elim) (fun d h2 e => .inr (.inr ⟨e, o', A'.st, fun s hs => ?_⟩))
      obtain ⟨j, hj⟩ := List.mem_iff_getElem?.mp hs
      exact A'.cl j s (by have := (List.getElem?_eq_some_iff.mp hj).1; omega) hj
  · rw [List.drop_of_length_le (by simp; omega)] at ed
    cases ed
end K73
set_option Elab.async false
set_option linter.all false
set_option maxRecDepth 100000
set_option maxHeartbeats 4000000
namespace K73
open PySem PySem.Spec L2 Ev
def walkP (p t : Nat) (r : Int) : Sx → List Nat → Option Sx
  | s, [] => some s
  | s, i :: l => match (moves p t r s)[i]? with
    | some x => walkP p t r x l
    | none => none
theorem walk_reach {p t : Nat} {r : Int} : ∀ {l : List Nat} {s x : Sx}, Reach p t r s → walkP p t r s l = some x → Reach p t r x
  | [], s, x, R, e => by cases e; exact R
  | i :: l, s, x, R, e => by
    unfold walkP at e
    cases q : (moves p t r s)[i]? with
    | none => rw [q] at e; cases e
    | some y =>
      rw [q] at e
      exact walk_reach (.step R (List.mem_of_getElem? q)) e
def accO : Option Sx → Bool
  | some s => acc s
  | none => false
theorem path_ok {p t : Nat} {r : Int} {l : List Nat} (h : accO (walkP p t r (s0 p t) l) = true) : ∃ s, Reach p t r s ∧ acc s = true := by
  cases e : walkP p t r (s0 p t) l with
  | none => rw [e] at h; cases h
  | some s => rw [e] at h; exact ⟨s, walk_reach .start e, h⟩
inductive Tr where
  | lf
  | nd (l : Tr) (k : Nat) (r : Tr)
def Tr.mem : Tr → Nat → Bool
  | .lf, _ => false
  | .nd l k r, x => bif Nat.beq x k then true else bif Nat.ble x k then l.mem x else r.mem x
def Tr.all (f : Nat → Bool) : Tr → Bool
  | .lf => true
  | .nd l k r => f k && (l.all f && r.all f)
theorem Tr.all_mem {f : Nat → Bool} : ∀ {T : Tr} {x : Nat}, T.all f = true → T.mem x = true → f x = true
  | .lf, _, _, e => by cases e
  | .nd l k r, x, h, e => by
    have h : (f k && (l.all f && r.all f)) = true := h
    rw [Bool.and_eq_true, Bool.and_eq_true] at h
    have e : (bif Nat.beq x k then true else bif Nat.ble x k then l.mem x else r.mem x) = true := e
    cases q : Nat.beq x k with
    | true => rw [Nat.eq_of_beq_eq_true q]; exact h.1
    | false =>
      rw [q] at e
      cases q2 : Nat.ble x k with
      | true => rw [q2] at e; exact all_mem h.2.1 e
      | false => rw [q2] at e; exact all_mem h.2.2 e
structure Sn where
  held : List Nat
  atx : Nat
  gone : List Nat
  left : Nat
def Sn.emb (s : Sn) : Sx := ⟨s.held.map Int.ofNat, Int.ofNat s.atx, s.gone.map Int.ofNat, Int.ofNat s.left⟩
def insN (x : Nat) : List Nat → List Nat
  | [] => [x]
  | y :: ys => bif Nat.ble x y then x :: y :: ys else y :: insN x ys
def sortN : List Nat → List Nat
  | [] => []
  | x :: xs => insN x (sortN xs)
theorem insN_ok (x : Nat) : ∀ l : List Nat, insI (Int.ofNat x) (l.map Int.ofNat) = (insN x l).map Int.ofNat
  | [] => rfl
  | y :: ys => by
    rw [List.map_cons]
    unfold insI insN
    by_cases c : x ≤ y
    · rw [if_pos (show Int.ofNat x ≤ Int.ofNat y from Int.ofNat_le.mpr c), Nat.ble_eq_true_of_le c]
      rfl
    · rw [if_neg (fun z : Int.ofNat x ≤ Int.ofNat y => c (Int.ofNat_le.mp z)), insN_ok x ys, show Nat.ble x y = false from Bool.eq_false_iff.mpr fun z => c (Nat.le_of_ble_eq_true z)]
      rfl
theorem sortN_ok : ∀ l : List Nat, sortI (l.map Int.ofNat) = (sortN l).map Int.ofNat
  | [] => rfl
  | x :: xs => by
    rw [List.map_cons]
    unfold sortI sortN
    rw [sortN_ok xs, insN_ok]
def nth : List Nat → Nat → Nat
  | [], _ => 0
  | x :: _, 0 => x
  | _ :: xs, k + 1 => nth xs k
theorem nth_ok : ∀ (l : List Nat) (k : Nat), (l.map Int.ofNat).getD k 0 = Int.ofNat (nth l k)
  | [], k => by simp [nth]
  | x :: xs, 0 => rfl
  | x :: xs, k + 1 => by
    rw [List.map_cons, List.getD_cons_succ, nth_ok xs k]
    rfl
def setN : List Nat → Nat → Nat → List Nat
  | [], _, _ => []
  | _ :: xs, 0, v => v :: xs
  | x :: xs, k + 1, v => x :: setN xs k v
theorem setN_ok (v : Nat) : ∀ (l : List Nat) (k : Nat), (l.map Int.ofNat).set k (Int.ofNat v) = (setN l k v).map Int.ofNat
  | [], k => by simp [setN]
  | x :: xs, 0 => rfl
  | x :: xs, k + 1 => by
    rw [List.map_cons, List.set_cons_succ, setN_ok v xs k]
    rfl
def tlN : List Nat → List Nat
  | [] => []
  | _ :: xs => xs
theorem tlN_ok (l : List Nat) : (l.map Int.ofNat).drop 1 = (tlN l).map Int.ofNat := by cases l <;> rfl
def mv1N (t : Nat) (s : Sn) (k : Nat) (rest : List Sn) : List Sn :=
  bif Nat.ble t (nth s.held k) then (bif Nat.beq k 0 then rest else { s with held := nth s.held 0 :: sortN (tlN (setN s.held k s.atx)) } :: rest)
  else { s with atx := nth s.held k } :: (bif Nat.beq k 0 then rest else { s with held := nth s.held 0 :: sortN (tlN (setN s.held k s.atx)) } :: rest)
theorem mv1N_ok (t : Nat) (s : Sn) (k : Nat) (rest : List Sn) : (mv1N t s k rest).map Sn.emb = mv1 t s.emb k ++ rest.map Sn.emb := by
  have e1 : s.emb.held.getD k 0 = Int.ofNat (nth s.held k) := nth_ok _ _
  have e0 : s.emb.held.getD 0 0 = Int.ofNat (nth s.held 0) := nth_ok _ _
  have e2 : sortI ((s.emb.held.set k s.emb.atx).drop 1) = (sortN (tlN (setN s.held k s.atx))).map Int.ofNat := by
    show sortI (((s.held.map Int.ofNat).set k (Int.ofNat s.atx)).drop 1) = _
    rw [setN_ok, tlN_ok, sortN_ok]
  unfold mv1 mv1N
  rw [e1, e0, e2]
  have z2 : ∀ rest : List Sn, (bif Nat.beq k 0 then rest else { s with held := nth s.held 0 :: sortN (tlN (setN s.held k s.atx)) } :: rest).map Sn.emb = (if 0 < k then [{ s.emb with held := Int.ofNat (nth s.held 0) :: (sortN (tlN (setN s.held k s.atx))).map Int.ofNat }] else []) ++ rest.map Sn.emb := fun rest => by
    cases k with
    | zero => rfl
    | succ k => rfl
  by_cases c : t ≤ nth s.held k
  · rw [Nat.ble_eq_true_of_le c, if_neg (show ¬ (Int.ofNat (nth s.held k) < (t : Int)) by simp; omega)]
    simp only [cond_true, List.nil_append]
    exact z2 rest
  · rw [show Nat.ble t (nth s.held k) = false from Bool.eq_false_iff.mpr fun z => c (Nat.le_of_ble_eq_true z), if_pos (show Int.ofNat (nth s.held k) < (t : Int) by simp; omega)]
    simp only [cond_false, List.map_cons, z2 rest]
    rfl
def mvsN (t : Nat) (s : Sn) : List Nat → List Sn
  | [] => []
  | k :: ks => mv1N t s k (mvsN t s ks)
theorem mvsN_ok (t : Nat) (s : Sn) : ∀ ks : List Nat, (mvsN t s ks).map Sn.emb = ks.flatMap (mv1 t s.emb)
  | [] => rfl
  | k :: ks => by
    unfold mvsN
    rw [mv1N_ok, mvsN_ok t s ks, List.flatMap_cons]
def mgN (r : Nat) (s : Sn) (rest : List Sn) : List Sn := bif Nat.ble s.left (s.atx + 1) then rest else bif Nat.ble r (nth s.gone s.atx) then rest else { s with atx := s.atx + 1, gone := setN s.gone s.atx (nth s.gone s.atx + 1) } :: rest
theorem mgN_ok (r : Nat) (s : Sn) (rest : List Sn) : (mgN r s rest).map Sn.emb = mg r s.emb ++ rest.map Sn.emb := by
  have e1 : s.emb.gone.getD s.emb.atx.toNat 0 = Int.ofNat (nth s.gone s.atx) := nth_ok _ _
  have e2 : s.emb.gone.set s.emb.atx.toNat (Int.ofNat (nth s.gone s.atx) + 1) = (setN s.gone s.atx (nth s.gone s.atx + 1)).map Int.ofNat := setN_ok _ _ _
  unfold mg mgN
  rw [e1, e2]
  by_cases c : s.left ≤ s.atx + 1
  · rw [Nat.ble_eq_true_of_le c, if_neg (fun z => by have z1 : (Int.ofNat s.atx) + 1 < Int.ofNat s.left := z.1; simp at z1; omega)]
    rfl
  · rw [show Nat.ble s.left (s.atx + 1) = false from Bool.eq_false_iff.mpr fun z => c (Nat.le_of_ble_eq_true z)]
    by_cases c2 : r ≤ nth s.gone s.atx
    · rw [Nat.ble_eq_true_of_le c2, if_neg (fun z => by have z1 : Int.ofNat (nth s.gone s.atx) < (r : Int) := z.2; simp at z1; omega)]
      rfl
    · rw [show Nat.ble r (nth s.gone s.atx) = false from Bool.eq_false_iff.mpr fun z => c2 (Nat.le_of_ble_eq_true z), if_pos ⟨by show (Int.ofNat s.atx) + 1 < Int.ofNat s.left; simp; omega, by simp; omega⟩]
      rfl
def m0N (s : Sn) (rest : List Sn) : List Sn := bif Nat.beq (s.atx + 1) s.left then { s with left := s.atx } :: rest else rest
theorem m0N_ok (s : Sn) (rest : List Sn) : (m0N s rest).map Sn.emb = m0 s.emb ++ rest.map Sn.emb := by
  unfold m0 m0N
  by_cases c : s.atx + 1 = s.left
  · rw [show Nat.beq (s.atx + 1) s.left = true from Nat.beq_eq.mpr c, if_pos (by show Int.ofNat s.atx = Int.ofNat s.left - 1; simp; omega)]
    rfl
  · rw [show Nat.beq (s.atx + 1) s.left = false from Bool.eq_false_iff.mpr fun z => c (Nat.beq_eq.mp z), if_neg (fun z => by have z1 : Int.ofNat s.atx = Int.ofNat s.left - 1 := z; simp at z1; omega)]
    rfl
def movesN (ps : List Nat) (t r : Nat) (s : Sn) : List Sn := m0N s (mgN r s (mvsN t s ps))
theorem movesN_ok (p t r : Nat) (s : Sn) : moves p t r s.emb = (movesN (List.range p) t r s).map Sn.emb := by
  unfold moves movesN mvs
  rw [m0N_ok, mgN_ok, mvsN_ok, List.append_assoc]
def digs : Nat → Nat → List Nat
  | 0, _ => []
  | n + 1, c => Nat.mod c 8 :: digs n (Nat.div c 8)
def und : List Nat → Nat
  | [] => 0
  | x :: xs => Nat.add x (Nat.mul 8 (und xs))
def dec (p t c : Nat) : Sn := ⟨digs p c, Nat.mod (Nat.div c (8 ^ p)) 8, digs t (Nat.div c (8 ^ (p + 2))), Nat.mod (Nat.div c (8 ^ (p + 1))) 8⟩
def code (p : Nat) (s : Sn) : Nat := Nat.add (und s.held) (Nat.mul (8 ^ p) (Nat.add s.atx (Nat.mul 8 (Nat.add s.left (Nat.mul 8 (und s.gone))))))
def beqN : List Nat → List Nat → Bool
  | [], [] => true
  | x :: xs, y :: ys => bif Nat.beq x y then beqN xs ys else false
  | _, _ => false
theorem beqN_eq : ∀ {a b : List Nat}, beqN a b = true → a = b
  | [], [], _ => rfl
  | x :: xs, y :: ys, e => by
    have e : (bif Nat.beq x y then beqN xs ys else false) = true := e
    cases q : Nat.beq x y with
    | false => rw [q] at e; cases e
    | true => rw [q] at e; rw [Nat.eq_of_beq_eq_true q, beqN_eq e]
def beqS (a b : Sn) : Bool := bif Nat.beq a.atx b.atx then (bif Nat.beq a.left b.left then (bif beqN a.held b.held then beqN a.gone b.gone else false) else false) else false
theorem beqS_eq {a b : Sn} (e : beqS a b = true) : a = b := by
  unfold beqS at e
  cases q1 : Nat.beq a.atx b.atx <;> rw [q1] at e <;> first | (cases e; done) | skip
  cases q2 : Nat.beq a.left b.left <;> rw [q2] at e <;> first | (cases e; done) | skip
  cases q3 : beqN a.held b.held <;> rw [q3] at e <;> first | (cases e; done) | skip
  have e4 := beqN_eq (show beqN a.gone b.gone = true from e)
  have e3 := beqN_eq q3
  have e2 := Nat.eq_of_beq_eq_true q2
  have e1 := Nat.eq_of_beq_eq_true q1
  obtain ⟨a1, a2, a3, a4⟩ := a
  obtain ⟨b1, b2, b3, b4⟩ := b
  cases e1; cases e2; cases e3; cases e4; rfl
def inT (p t : Nat) (T : Tr) (x : Sn) : Bool := bif T.mem (code p x) then beqS (dec p t (code p x)) x else false
def allB (f : Sn → Bool) : List Sn → Bool
  | [] => true
  | x :: xs => bif f x then allB f xs else false
theorem allB_mem {f : Sn → Bool} : ∀ {l : List Sn} {x : Sn}, allB f l = true → x ∈ l → f x = true
  | [], _, _, h => by cases h
  | y :: ys, x, e, h => by
    have e : (bif f y then allB f ys else false) = true := e
    cases q : f y with
    | false => rw [q] at e; cases e
    | true =>
      rw [q] at e
      rcases List.mem_cons.mp h with rfl | h
      · exact q
      · exact allB_mem e h
def accN (s : Sn) : Bool := bif Nat.beq s.atx 0 then Nat.beq s.left 1 else false
theorem accN_ok {s : Sn} (h : accN s = false) : acc s.emb = false := by
  unfold acc
  refine Bool.eq_false_iff.mpr fun z => ?_
  rw [Bool.and_eq_true] at z
  have z1 : Int.ofNat s.atx = Int.ofNat s.left - 1 := of_decide_eq_true z.1
  have z2 : Int.ofNat s.atx = 0 := of_decide_eq_true z.2
  simp at z1 z2
  have : accN s = true := by
    unfold accN
    rw [show Nat.beq s.atx 0 = true from Nat.beq_eq.mpr z2, show Nat.beq s.left 1 = true from Nat.beq_eq.mpr (by omega)]
    rfl
  rw [h] at this
  cases this
def s0N (p t : Nat) : Sn := ⟨0 :: List.replicate (p - 1) t, 0, List.replicate t 0, t⟩
theorem s0N_ok (p t : Nat) : s0 p t = (s0N p t).emb := by
  unfold s0 s0N Sn.emb
  simp
def chk (p : Nat) (ps : List Nat) (t r : Nat) (T : Tr) : Bool := inT p t T (s0N p t) && T.all fun c => bif accN (dec p t c) then false else allB (inT p t T) (movesN ps t r (dec p t c))
theorem clos_ok {p t r : Nat} {T : Tr} (h : chk p (List.range p) t r T = true) : ∀ s, Reach p t r s → acc s = false := by
  unfold chk at h
  rw [Bool.and_eq_true] at h
  have go : ∀ x, inT p t T x = true → ∃ c, T.mem c = true ∧ x.emb = (dec p t c).emb := fun x e => by
    unfold inT at e
    cases q : T.mem (code p x) with
    | false => rw [q] at e; cases e
    | true =>
      rw [q] at e
      exact ⟨code p x, q, by rw [beqS_eq (show beqS (dec p t (code p x)) x = true from e)]⟩
  have key : ∀ s, Reach p t r s → ∃ c, T.mem c = true ∧ s = (dec p t c).emb := by
    intro s R
    induction R with
    | start => rw [s0N_ok]; exact go _ h.1
    | step R hx ih =>
      obtain ⟨c, hc, rfl⟩ := ih
      have q := Tr.all_mem h.2 hc
      rw [movesN_ok] at hx
      obtain ⟨y, hy, rfl⟩ := List.mem_map.mp hx
      cases z : accN (dec p t c) with
      | true => rw [z] at q; cases q
      | false =>
        rw [z] at q
        exact go y (allB_mem q hy)
  intro s R
  obtain ⟨c, hc, rfl⟩ := key s R
  have q := Tr.all_mem h.2 hc
  cases z : accN (dec p t c) with
  | true => rw [z] at q; cases q
  | false => exact accN_ok z
theorem y_1_1_0 : ∃ s, Reach 1 1 0 s ∧ acc s = true := path_ok (l := []) (by decide +kernel)
theorem y_1_1_1 : ∃ s, Reach 1 1 1 s ∧ acc s = true := path_ok (l := []) (by decide +kernel)
def t_1_2_0 : Tr := (.nd .lf 128 .lf)
theorem n_1_2_0 : ∀ s, Reach 1 2 0 s → acc s = false := clos_ok (p := 1) (t := 2) (r := 0) (T := t_1_2_0) (by decide +kernel)
theorem y_1_2_1 : ∃ s, Reach 1 2 1 s ∧ acc s = true := path_ok (l := [0, 0, 0]) (by decide +kernel)
theorem y_1_2_2 : ∃ s, Reach 1 2 2 s ∧ acc s = true := path_ok (l := [0, 0, 0]) (by decide +kernel)
def t_1_3_1 : Tr := (.nd (.nd (.nd .lf 192 .lf) 704 (.nd .lf 712 .lf)) 4736 (.nd (.nd .lf 4752 .lf) 4800 (.nd .lf 4816 .lf)))
theorem n_1_3_1 : ∀ s, Reach 1 3 1 s → acc s = false := clos_ok (p := 1) (t := 3) (r := 1) (T := t_1_3_1) (by decide +kernel)
theorem y_1_3_2 : ∃ s, Reach 1 3 2 s ∧ acc s = true := path_ok (l := [0, 0, 0, 0, 0, 0, 0]) (by decide +kernel)
theorem y_1_3_3 : ∃ s, Reach 1 3 3 s ∧ acc s = true := path_ok (l := [0, 0, 0, 0, 0, 0, 0]) (by decide +kernel)
def t_1_4_2 : Tr := (.nd (.nd (.nd (.nd (.nd (.nd .lf 256 .lf) 768 .lf) 776 (.nd .lf 1280 .lf)) 1288 (.nd (.nd .lf 4864 .lf) 4880 (.nd .lf 5376 .lf))) 5384 (.nd (.nd (.nd (.nd .lf 5392 .lf) 9472 .lf) 9488 (.nd .lf 37568 .lf)) 37592 (.nd (.nd .lf 37632 .lf) 37656 (.nd .lf 38080 .lf)))) 38088 (.nd (.nd (.nd (.nd (.nd .lf 38104 .lf) 38144 .lf) 38152 (.nd .lf 38168 .lf)) 42112 (.nd (.nd .lf 42128 .lf) 42176 (.nd .lf 42192 .lf))) 42200 (.nd (.nd (.nd .lf 42240 .lf) 42256 (.nd .lf 42264 .lf)) 74944 (.nd (.nd .lf 74968 .lf) 75008 (.nd .lf 75032 .lf)))))
theorem n_1_4_2 : ∀ s, Reach 1 4 2 s → acc s = false := clos_ok (p := 1) (t := 4) (r := 2) (T := t_1_4_2) (by decide +kernel)
theorem y_1_4_3 : ∃ s, Reach 1 4 3 s ∧ acc s = true := path_ok (l := [0, 0, 0, 0, 0, 0, 0, 0, 0, 0, 0, 0]) (by decide +kernel)
def t_1_5_3 : Tr := (.nd (.nd (.nd (.nd (.nd (.nd (.nd (.nd .lf 320 .lf) 832 .lf) 840 (.nd .lf 1344 .lf)) 1352 (.nd (.nd (.nd .lf 1856 .lf) 1864 .lf) 4928 (.nd .lf 4944 .lf))) 5440 (.nd (.nd (.nd (.nd .lf 5448 .lf) 5456 .lf) 5952 (.nd .lf 5960 .lf)) 5968 (.nd (.nd (.nd .lf 9536 .lf) 9552 .lf) 10048 (.nd .lf 10056 .lf)))) 10064 (.nd (.nd (.nd (.nd (.nd .lf 14144 .lf) 14160 .lf) 37696 (.nd .lf 37720 .lf)) 38208 (.nd (.nd (.nd .lf 38216 .lf) 38232 .lf) 38720 (.nd .lf 38728 .lf))) 38744 (.nd (.nd (.nd (.nd .lf 42304 .lf) 42320 .lf) 42328 (.nd .lf 42816 .lf)) 42824 (.nd (.nd .lf 42832 .lf) 42840 (.nd .lf 46912 .lf))))) 46928 (.nd (.nd (.nd (.nd (.nd (.nd .lf 46936 .lf) 75072 .lf) 75096 (.nd .lf 75584 .lf)) 75592 (.nd (.nd (.nd .lf 75608 .lf) 79680 .lf) 79696 (.nd .lf 79704 .lf))) 112448 (.nd (.nd (.nd (.nd .lf 112472 .lf) 299776 .lf) 299808 (.nd .lf 299840 .lf)) 299872 (.nd (.nd (.nd .lf 300288 .lf) 300296 .lf) 300320 (.nd .lf 300352 .lf)))) 300360 (.nd (.nd (.nd (.nd (.nd .lf 300384 .lf) 300800 .lf) 300808 (.nd .lf 300832 .lf)) 300864 (.nd (.nd (.nd .lf 300872 .lf) 300896 .lf) 304384 (.nd .lf 304400 .lf))) 304416 (.nd (.nd (.nd (.nd .lf 304448 .lf) 304464 .lf) 304480 (.nd .lf 304896 .lf)) 304904 (.nd (.nd .lf 304912 .lf) 304928 (.nd .lf 304960 .lf)))))) 304968 (.nd (.nd (.nd (.nd (.nd (.nd (.nd .lf 304976 .lf) 304992 .lf) 308992 (.nd .lf 309008 .lf)) 309024 (.nd (.nd (.nd .lf 309056 .lf) 309072 .lf) 309088 (.nd .lf 337088 .lf))) 337112 (.nd (.nd (.nd (.nd .lf 337152 .lf) 337176 .lf) 337184 (.nd .lf 337216 .lf)) 337240 (.nd (.nd (.nd .lf 337248 .lf) 337600 .lf) 337608 (.nd .lf 337624 .lf)))) 337664 (.nd (.nd (.nd (.nd (.nd .lf 337672 .lf) 337688 .lf) 337696 (.nd .lf 337728 .lf)) 337736 (.nd (.nd (.nd .lf 337752 .lf) 337760 .lf) 341632 (.nd .lf 341648 .lf))) 341696 (.nd (.nd (.nd (.nd .lf 341712 .lf) 341720 .lf) 341760 (.nd .lf 341776 .lf)) 341784 (.nd (.nd .lf 341792 .lf) 341824 (.nd .lf 341840 .lf))))) 341848 (.nd (.nd (.nd (.nd (.nd (.nd .lf 341856 .lf) 374464 .lf) 374488 (.nd .lf 374528 .lf)) 374552 (.nd (.nd (.nd .lf 374560 .lf) 374592 .lf) 374616 (.nd .lf 374624 .lf))) 599296 (.nd (.nd (.nd (.nd .lf 599328 .lf) 599360 .lf) 599392 (.nd .lf 599808 .lf)) 599816 (.nd (.nd .lf 599840 .lf) 599872 (.nd .lf 599880 .lf)))) 599904 (.nd (.nd (.nd (.nd (.nd .lf 603904 .lf) 603920 .lf) 603936 (.nd .lf 603968 .lf)) 603984 (.nd (.nd (.nd .lf 604000 .lf) 636608 .lf) 636632 (.nd .lf 636672 .lf))) 636696 (.nd (.nd (.nd (.nd .lf 636704 .lf) 636736 .lf) 636760 (.nd .lf 636768 .lf)) 898816 (.nd (.nd .lf 898848 .lf) 898880 (.nd .lf 898912 .lf)))))))
theorem n_1_5_3 : ∀ s, Reach 1 5 3 s → acc s = false := clos_ok (p := 1) (t := 5) (r := 3) (T := t_1_5_3) (by decide +kernel)
theorem y_2_1_0 : ∃ s, Reach 2 1 0 s ∧ acc s = true := path_ok (l := []) (by decide +kernel)
def t_2_2_0 : Tr := (.nd (.nd .lf 1024 .lf) 1040 .lf)
theorem n_2_2_0 : ∀ s, Reach 2 2 0 s → acc s = false := clos_ok (p := 2) (t := 2) (r := 0) (T := t_2_2_0) (by decide +kernel)
theorem y_2_2_1 : ∃ s, Reach 2 2 1 s ∧ acc s = true := path_ok (l := [0, 0, 0]) (by decide +kernel)
theorem y_2_3_1 : ∃ s, Reach 2 3 1 s ∧ acc s = true := path_ok (l := [0, 2, 0, 0, 1, 0, 0]) (by decide +kernel)
def t_2_4_1 : Tr := (.nd (.nd (.nd (.nd (.nd (.nd .lf 2048 .lf) 2080 .lf) 6144 (.nd (.nd .lf 6152 .lf) 6176 .lf)) 6208 (.nd (.nd (.nd .lf 6216 .lf) 6240 .lf) 38912 (.nd (.nd .lf 38920 .lf) 38928 .lf))) 38944 (.nd (.nd (.nd (.nd .lf 38984 .lf) 39040 .lf) 39048 (.nd (.nd .lf 39056 .lf) 39072 .lf)) 300032 (.nd (.nd (.nd .lf 300048 .lf) 300176 .lf) 300544 (.nd .lf 300552 .lf)))) 300560 (.nd (.nd (.nd (.nd (.nd .lf 300568 .lf) 300576 .lf) 300616 (.nd (.nd .lf 300688 .lf) 300736 .lf)) 300744 (.nd (.nd (.nd .lf 300752 .lf) 300760 .lf) 300768 (.nd .lf 301056 .lf))) 301064 (.nd (.nd (.nd (.nd .lf 301072 .lf) 301080 .lf) 301088 (.nd (.nd .lf 301128 .lf) 301200 .lf)) 301248 (.nd (.nd (.nd .lf 301256 .lf) 301264 .lf) 301272 (.nd .lf 301280 .lf)))))
theorem n_2_4_1 : ∀ s, Reach 2 4 1 s → acc s = false := clos_ok (p := 2) (t := 4) (r := 1) (T := t_2_4_1) (by decide +kernel)
theorem y_2_5_2 : ∃ s, Reach 2 5 2 s ∧ acc s = true := path_ok (l := [0, 0, 2, 0, 0, 0, 1, 0, 0, 1, 0, 0, 0, 0, 0]) (by decide +kernel)
theorem y_2_6_2 : ∃ s, Reach 2 6 2 s ∧ acc s = true := path_ok (l := [0, 0, 0, 2, 0, 0, 0, 1, 0, 0, 1, 0, 0, 0, 3, 0, 0, 1, 0, 0]) (by decide +kernel)
def t_2_7_2 : Tr := (.nd (.nd (.nd (.nd (.nd (.nd (.nd (.nd (.nd (.nd (.nd (.nd (.nd .lf 3584 .lf) 3640 .lf) 7680 (.nd .lf 7688 .lf)) 7736 (.nd (.nd .lf 7744 .lf) 7752 (.nd .lf 7800 .lf))) 11776 (.nd (.nd (.nd .lf 11784 .lf) 11832 (.nd .lf 11840 .lf)) 11848 (.nd (.nd .lf 11896 .lf) 40448 (.nd .lf 40456 .lf)))) 40464 (.nd (.nd (.nd (.nd .lf 40504 .lf) 40520 (.nd .lf 40576 .lf)) 40584 (.nd (.nd .lf 40592 .lf) 40632 (.nd .lf 44544 .lf))) 44552 (.nd (.nd (.nd .lf 44560 .lf) 44600 (.nd .lf 44608 .lf)) 44616 (.nd (.nd .lf 44624 .lf) 44664 (.nd .lf 44672 .lf))))) 44680 (.nd (.nd (.nd (.nd (.nd .lf 44688 .lf) 44728 (.nd .lf 73216 .lf)) 73224 (.nd (.nd .lf 73232 .lf) 73288 (.nd .lf 73352 .lf))) 73360 (.nd (.nd (.nd .lf 77312 .lf) 77320 (.nd .lf 77328 .lf)) 77368 (.nd (.nd .lf 77376 .lf) 77384 (.nd .lf 77392 .lf)))) 77440 (.nd (.nd (.nd (.nd .lf 77448 .lf) 77456 (.nd .lf 77496 .lf)) 302592 (.nd (.nd .lf 302600 .lf) 302608 (.nd .lf 302616 .lf))) 302648 (.nd (.nd (.nd .lf 302664 .lf) 302736 (.nd .lf 302784 .lf)) 302792 (.nd (.nd .lf 302800 .lf) 302808 (.nd .lf 302840 .lf)))))) 306688 (.nd (.nd (.nd (.nd (.nd (.nd .lf 306696 .lf) 306704 (.nd .lf 306712 .lf)) 306744 (.nd (.nd .lf 306752 .lf) 306760 (.nd .lf 306768 .lf))) 306776 (.nd (.nd (.nd .lf 306808 .lf) 306832 (.nd .lf 306880 .lf)) 306888 (.nd (.nd .lf 306896 .lf) 306904 (.nd .lf 306936 .lf)))) 335360 (.nd (.nd (.nd (.nd .lf 335368 .lf) 335376 (.nd .lf 335384 .lf)) 335432 (.nd (.nd .lf 335496 .lf) 335504 (.nd .lf 335560 .lf))) 335568 (.nd (.nd (.nd .lf 335576 .lf) 339456 (.nd .lf 339464 .lf)) 339472 (.nd (.nd .lf 339480 .lf) 339512 (.nd .lf 339520 .lf))))) 339528 (.nd (.nd (.nd (.nd (.nd .lf 339536 .lf) 339544 (.nd .lf 339584 .lf)) 339592 (.nd (.nd .lf 339600 .lf) 339608 (.nd .lf 339640 .lf))) 339648 (.nd (.nd (.nd .lf 339656 .lf) 339664 (.nd .lf 339672 .lf)) 339704 (.nd (.nd .lf 564736 .lf) 564752 (.nd .lf 564760 .lf)))) 564880 (.nd (.nd (.nd (.nd .lf 564944 .lf) 564952 (.nd .lf 568832 .lf)) 568840 (.nd (.nd .lf 568848 .lf) 568856 (.nd .lf 568896 .lf))) 568904 (.nd (.nd (.nd .lf 568912 .lf) 568920 (.nd .lf 568976 .lf)) 569040 (.nd (.nd .lf 569048 .lf) 597504 (.nd .lf 597512 .lf))))))) 597520 (.nd (.nd (.nd (.nd (.nd (.nd (.nd (.nd .lf 597528 .lf) 597576 .lf) 597648 (.nd .lf 597704 .lf)) 597712 (.nd (.nd .lf 597720 .lf) 601600 (.nd .lf 601608 .lf))) 601616 (.nd (.nd (.nd .lf 601624 .lf) 601656 (.nd .lf 601664 .lf)) 601672 (.nd (.nd .lf 601680 .lf) 601688 (.nd .lf 601728 .lf)))) 601736 (.nd (.nd (.nd (.nd .lf 601744 .lf) 601752 (.nd .lf 601792 .lf)) 601800 (.nd (.nd .lf 601808 .lf) 601816 (.nd .lf 601848 .lf))) 2399744 (.nd (.nd (.nd .lf 2399752 .lf) 2399760 (.nd .lf 2399768 .lf)) 2399776 (.nd (.nd .lf 2399800 .lf) 2399816 (.nd .lf 2399888 .lf))))) 2399960 (.nd (.nd (.nd (.nd (.nd .lf 2400000 .lf) 2400008 (.nd .lf 2400016 .lf)) 2400024 (.nd (.nd .lf 2400032 .lf) 2400056 (.nd .lf 2403840 .lf))) 2403848 (.nd (.nd (.nd .lf 2403856 .lf) 2403864 (.nd .lf 2403872 .lf)) 2403896 (.nd (.nd .lf 2403904 .lf) 2403912 (.nd .lf 2403920 .lf)))) 2403928 (.nd (.nd (.nd (.nd .lf 2403936 .lf) 2403960 (.nd .lf 2403984 .lf)) 2404056 (.nd (.nd .lf 2404096 .lf) 2404104 (.nd .lf 2404112 .lf))) 2404120 (.nd (.nd (.nd .lf 2404128 .lf) 2404152 (.nd .lf 2432512 .lf)) 2432520 (.nd (.nd .lf 2432528 .lf) 2432536 (.nd .lf 2432544 .lf)))))) 2432584 (.nd (.nd (.nd (.nd (.nd (.nd .lf 2432648 .lf) 2432656 (.nd .lf 2432728 .lf)) 2432776 (.nd (.nd .lf 2432784 .lf) 2432792 (.nd .lf 2432800 .lf))) 2436608 (.nd (.nd (.nd .lf 2436616 .lf) 2436624 (.nd .lf 2436632 .lf)) 2436640 (.nd (.nd .lf 2436664 .lf) 2436672 (.nd .lf 2436680 .lf)))) 2436688 (.nd (.nd (.nd (.nd .lf 2436696 .lf) 2436704 (.nd .lf 2436736 .lf)) 2436744 (.nd (.nd .lf 2436752 .lf) 2436760 (.nd .lf 2436768 .lf))) 2436792 (.nd (.nd (.nd .lf 2436824 .lf) 2436864 (.nd .lf 2436872 .lf)) 2436880 (.nd (.nd .lf 2436888 .lf) 2436896 (.nd .lf 2436920 .lf))))) 2661888 (.nd (.nd (.nd (.nd (.nd .lf 2661904 .lf) 2661912 (.nd .lf 2661920 .lf)) 2662032 (.nd (.nd .lf 2662096 .lf) 2662104 (.nd .lf 2662160 .lf))) 2662168 (.nd (.nd (.nd .lf 2662176 .lf) 2665984 (.nd .lf 2665992 .lf)) 2666000 (.nd (.nd .lf 2666008 .lf) 2666016 (.nd .lf 2666048 .lf)))) 2666056 (.nd (.nd (.nd (.nd .lf 2666064 .lf) 2666072 (.nd .lf 2666080 .lf)) 2666128 (.nd (.nd .lf 2666192 .lf) 2666200 (.nd .lf 2666256 .lf))) 2666264 (.nd (.nd (.nd .lf 2666272 .lf) 2694656 (.nd .lf 2694664 .lf)) 2694672 (.nd (.nd .lf 2694680 .lf) 2694688 (.nd .lf 2694728 .lf)))))))) 2694800 (.nd (.nd (.nd (.nd (.nd (.nd (.nd (.nd (.nd .lf 2694856 .lf) 2694864 .lf) 2694872 (.nd .lf 2694920 .lf)) 2694928 (.nd (.nd .lf 2694936 .lf) 2694944 (.nd .lf 2698752 .lf))) 2698760 (.nd (.nd (.nd .lf 2698768 .lf) 2698776 (.nd .lf 2698784 .lf)) 2698808 (.nd (.nd .lf 2698816 .lf) 2698824 (.nd .lf 2698832 .lf)))) 2698840 (.nd (.nd (.nd (.nd .lf 2698848 .lf) 2698880 (.nd .lf 2698888 .lf)) 2698896 (.nd (.nd .lf 2698904 .lf) 2698912 (.nd .lf 2698944 .lf))) 2698952 (.nd (.nd (.nd .lf 2698960 .lf) 2698968 (.nd .lf 2698976 .lf)) 2699000 (.nd (.nd .lf 2699008 .lf) 2699016 (.nd .lf 2699024 .lf))))) 2699032 (.nd (.nd (.nd (.nd (.nd .lf 2699040 .lf) 2699064 (.nd .lf 4496896 .lf)) 4496920 (.nd (.nd .lf 4496928 .lf) 4497112 (.nd .lf 4497176 .lf))) 4497184 (.nd (.nd (.nd .lf 4500992 .lf) 4501000 (.nd .lf 4501016 .lf)) 4501024 (.nd (.nd .lf 4501056 .lf) 4501064 (.nd .lf 4501080 .lf)))) 4501088 (.nd (.nd (.nd (.nd .lf 4501208 .lf) 4501272 (.nd .lf 4501280 .lf)) 4529664 (.nd (.nd .lf 4529688 .lf) 4529696 (.nd .lf 4529880 .lf))) 4529944 (.nd (.nd (.nd .lf 4529952 .lf) 4533760 (.nd .lf 4533768 .lf)) 4533776 (.nd (.nd .lf 4533784 .lf) 4533792 (.nd .lf 4533824 .lf)))))) 4533832 (.nd (.nd (.nd (.nd (.nd (.nd .lf 4533848 .lf) 4533856 (.nd .lf 4533888 .lf)) 4533896 (.nd (.nd .lf 4533904 .lf) 4533912 (.nd .lf 4533920 .lf))) 4533976 (.nd (.nd (.nd .lf 4534040 .lf) 4534048 (.nd .lf 4759040 .lf)) 4759056 (.nd (.nd .lf 4759064 .lf) 4759072 (.nd .lf 4759184 .lf)))) 4759256 (.nd (.nd (.nd (.nd .lf 4759312 .lf) 4759320 (.nd .lf 4759328 .lf)) 4763136 (.nd (.nd .lf 4763144 .lf) 4763152 (.nd .lf 4763160 .lf))) 4763168 (.nd (.nd (.nd .lf 4763200 .lf) 4763208 (.nd .lf 4763216 .lf)) 4763224 (.nd (.nd .lf 4763232 .lf) 4763280 (.nd .lf 4763352 .lf))))) 4763408 (.nd (.nd (.nd (.nd (.nd .lf 4763416 .lf) 4763424 (.nd .lf 4791808 .lf)) 4791816 (.nd (.nd .lf 4791824 .lf) 4791832 (.nd .lf 4791840 .lf))) 4791880 (.nd (.nd (.nd .lf 4791952 .lf) 4792024 (.nd .lf 4792072 .lf)) 4792080 (.nd (.nd .lf 4792088 .lf) 4792096 (.nd .lf 4795904 .lf)))) 4795912 (.nd (.nd (.nd (.nd .lf 4795920 .lf) 4795928 (.nd .lf 4795936 .lf)) 4795960 (.nd (.nd .lf 4795968 .lf) 4795976 (.nd .lf 4795984 .lf))) 4795992 (.nd (.nd (.nd .lf 4796000 .lf) 4796032 (.nd .lf 4796040 .lf)) 4796048 (.nd (.nd .lf 4796056 .lf) 4796064 (.nd .lf 4796096 .lf))))))) 4796104 (.nd (.nd (.nd (.nd (.nd (.nd (.nd .lf 4796112 .lf) 4796120 (.nd .lf 4796128 .lf)) 4796160 (.nd (.nd .lf 4796168 .lf) 4796176 (.nd .lf 4796184 .lf))) 4796192 (.nd (.nd (.nd .lf 4796216 .lf) 19176960 (.nd .lf 19176968 .lf)) 19176976 (.nd (.nd .lf 19176984 .lf) 19176992 (.nd .lf 19177000 .lf)))) 19177016 (.nd (.nd (.nd (.nd .lf 19177032 .lf) 19177104 (.nd .lf 19177176 .lf)) 19177248 (.nd (.nd .lf 19177280 .lf) 19177288 (.nd .lf 19177296 .lf))) 19177304 (.nd (.nd (.nd .lf 19177312 .lf) 19177320 (.nd .lf 19177336 .lf)) 19181056 (.nd (.nd .lf 19181064 .lf) 19181072 (.nd .lf 19181080 .lf))))) 19181088 (.nd (.nd (.nd (.nd (.nd .lf 19181096 .lf) 19181112 (.nd .lf 19181120 .lf)) 19181128 (.nd (.nd .lf 19181136 .lf) 19181144 (.nd .lf 19181152 .lf))) 19181160 (.nd (.nd (.nd .lf 19181176 .lf) 19181200 (.nd .lf 19181272 .lf)) 19181344 (.nd (.nd .lf 19181376 .lf) 19181384 (.nd .lf 19181392 .lf)))) 19181400 (.nd (.nd (.nd (.nd .lf 19181408 .lf) 19181416 (.nd .lf 19181432 .lf)) 19209728 (.nd (.nd .lf 19209736 .lf) 19209744 (.nd .lf 19209752 .lf))) 19209760 (.nd (.nd (.nd .lf 19209768 .lf) 19209800 (.nd .lf 19209864 .lf)) 19209872 (.nd (.nd .lf 19209944 .lf) 19210016 (.nd .lf 19210056 .lf)))))) 19210064 (.nd (.nd (.nd (.nd (.nd (.nd .lf 19210072 .lf) 19210080 (.nd .lf 19210088 .lf)) 19213824 (.nd (.nd .lf 19213832 .lf) 19213840 (.nd .lf 19213848 .lf))) 19213856 (.nd (.nd (.nd .lf 19213864 .lf) 19213880 (.nd .lf 19213888 .lf)) 19213896 (.nd (.nd .lf 19213904 .lf) 19213912 (.nd .lf 19213920 .lf)))) 19213928 (.nd (.nd (.nd (.nd .lf 19213952 .lf) 19213960 (.nd .lf 19213968 .lf)) 19213976 (.nd (.nd .lf 19213984 .lf) 19213992 (.nd .lf 19214008 .lf))) 19214040 (.nd (.nd (.nd .lf 19214112 .lf) 19214144 (.nd .lf 19214152 .lf)) 19214160 (.nd (.nd .lf 19214168 .lf) 19214176 (.nd .lf 19214184 .lf))))) 19214200 (.nd (.nd (.nd (.nd (.nd .lf 19439104 .lf) 19439120 (.nd .lf 19439128 .lf)) 19439136 (.nd (.nd .lf 19439144 .lf) 19439248 (.nd .lf 19439312 .lf))) 19439320 (.nd (.nd (.nd .lf 19439392 .lf) 19439440 (.nd .lf 19439448 .lf)) 19439456 (.nd (.nd .lf 19439464 .lf) 19443200 (.nd .lf 19443208 .lf)))) 19443216 (.nd (.nd (.nd (.nd .lf 19443224 .lf) 19443232 (.nd .lf 19443240 .lf)) 19443264 (.nd (.nd .lf 19443272 .lf) 19443280 (.nd .lf 19443288 .lf))) 19443296 (.nd (.nd (.nd .lf 19443304 .lf) 19443344 (.nd .lf 19443408 .lf)) 19443416 (.nd (.nd .lf 19443488 .lf) 19443536 (.nd .lf 19443544 .lf))))))))) 19443552 (.nd (.nd (.nd (.nd (.nd (.nd (.nd (.nd (.nd (.nd .lf 19443560 .lf) 19471872 .lf) 19471880 (.nd .lf 19471888 .lf)) 19471896 (.nd (.nd .lf 19471904 .lf) 19471912 (.nd .lf 19471944 .lf))) 19472016 (.nd (.nd (.nd .lf 19472072 .lf) 19472080 (.nd .lf 19472088 .lf)) 19472160 (.nd (.nd .lf 19472200 .lf) 19472208 (.nd .lf 19472216 .lf)))) 19472224 (.nd (.nd (.nd (.nd .lf 19472232 .lf) 19475968 (.nd .lf 19475976 .lf)) 19475984 (.nd (.nd .lf 19475992 .lf) 19476000 (.nd .lf 19476008 .lf))) 19476024 (.nd (.nd (.nd .lf 19476032 .lf) 19476040 (.nd .lf 19476048 .lf)) 19476056 (.nd (.nd .lf 19476064 .lf) 19476072 (.nd .lf 19476096 .lf))))) 19476104 (.nd (.nd (.nd (.nd (.nd .lf 19476112 .lf) 19476120 (.nd .lf 19476128 .lf)) 19476136 (.nd (.nd .lf 19476160 .lf) 19476168 (.nd .lf 19476176 .lf))) 19476184 (.nd (.nd (.nd .lf 19476192 .lf) 19476200 (.nd .lf 19476216 .lf)) 19476256 (.nd (.nd .lf 19476288 .lf) 19476296 (.nd .lf 19476304 .lf)))) 19476312 (.nd (.nd (.nd (.nd .lf 19476320 .lf) 19476328 (.nd .lf 19476344 .lf)) 21274112 (.nd (.nd .lf 21274136 .lf) 21274144 (.nd .lf 21274152 .lf))) 21274328 (.nd (.nd (.nd .lf 21274392 .lf) 21274400 (.nd .lf 21274456 .lf)) 21274464 (.nd (.nd .lf 21274472 .lf) 21278208 (.nd .lf 21278216 .lf)))))) 21278232 (.nd (.nd (.nd (.nd (.nd (.nd .lf 21278240 .lf) 21278248 (.nd .lf 21278272 .lf)) 21278280 (.nd (.nd .lf 21278296 .lf) 21278304 (.nd .lf 21278312 .lf))) 21278424 (.nd (.nd (.nd .lf 21278488 .lf) 21278496 (.nd .lf 21278552 .lf)) 21278560 (.nd (.nd .lf 21278568 .lf) 21306880 (.nd .lf 21306904 .lf)))) 21306912 (.nd (.nd (.nd (.nd .lf 21306920 .lf) 21307096 (.nd .lf 21307160 .lf)) 21307168 (.nd (.nd .lf 21307224 .lf) 21307232 (.nd .lf 21307240 .lf))) 21310976 (.nd (.nd (.nd .lf 21310984 .lf) 21310992 (.nd .lf 21311000 .lf)) 21311008 (.nd (.nd .lf 21311016 .lf) 21311040 (.nd .lf 21311048 .lf))))) 21311064 (.nd (.nd (.nd (.nd (.nd .lf 21311072 .lf) 21311080 (.nd .lf 21311104 .lf)) 21311112 (.nd (.nd .lf 21311120 .lf) 21311128 (.nd .lf 21311136 .lf))) 21311144 (.nd (.nd (.nd .lf 21311192 .lf) 21311256 (.nd .lf 21311264 .lf)) 21311320 (.nd (.nd .lf 21311328 .lf) 21311336 (.nd .lf 21536256 .lf)))) 21536272 (.nd (.nd (.nd (.nd .lf 21536280 .lf) 21536288 (.nd .lf 21536296 .lf)) 21536400 (.nd (.nd .lf 21536472 .lf) 21536528 (.nd .lf 21536536 .lf))) 21536544 (.nd (.nd (.nd .lf 21536592 .lf) 21536600 (.nd .lf 21536608 .lf)) 21536616 (.nd (.nd .lf 21540352 .lf) 21540360 (.nd .lf 21540368 .lf))))))) 21540376 (.nd (.nd (.nd (.nd (.nd (.nd (.nd .lf 21540384 .lf) 21540392 (.nd .lf 21540416 .lf)) 21540424 (.nd (.nd .lf 21540432 .lf) 21540440 (.nd .lf 21540448 .lf))) 21540456 (.nd (.nd (.nd .lf 21540496 .lf) 21540568 (.nd .lf 21540624 .lf)) 21540632 (.nd (.nd .lf 21540640 .lf) 21540688 (.nd .lf 21540696 .lf)))) 21540704 (.nd (.nd (.nd (.nd .lf 21540712 .lf) 21569024 (.nd .lf 21569032 .lf)) 21569040 (.nd (.nd .lf 21569048 .lf) 21569056 (.nd .lf 21569064 .lf))) 21569096 (.nd (.nd (.nd .lf 21569168 .lf) 21569240 (.nd .lf 21569288 .lf)) 21569296 (.nd (.nd .lf 21569304 .lf) 21569312 (.nd .lf 21569352 .lf))))) 21569360 (.nd (.nd (.nd (.nd (.nd .lf 21569368 .lf) 21569376 (.nd .lf 21569384 .lf)) 21573120 (.nd (.nd .lf 21573128 .lf) 21573136 (.nd .lf 21573144 .lf))) 21573152 (.nd (.nd (.nd .lf 21573160 .lf) 21573176 (.nd .lf 21573184 .lf)) 21573192 (.nd (.nd .lf 21573200 .lf) 21573208 (.nd .lf 21573216 .lf)))) 21573224 (.nd (.nd (.nd (.nd .lf 21573248 .lf) 21573256 (.nd .lf 21573264 .lf)) 21573272 (.nd (.nd .lf 21573280 .lf) 21573288 (.nd .lf 21573312 .lf))) 21573320 (.nd (.nd (.nd .lf 21573328 .lf) 21573336 (.nd .lf 21573344 .lf)) 21573352 (.nd (.nd .lf 21573376 .lf) 21573384 (.nd .lf 21573392 .lf)))))) 21573400 (.nd (.nd (.nd (.nd (.nd (.nd .lf 21573408 .lf) 21573416 (.nd .lf 21573432 .lf)) 21573440 (.nd (.nd .lf 21573448 .lf) 21573456 (.nd .lf 21573464 .lf))) 21573472 (.nd (.nd (.nd .lf 21573480 .lf) 21573496 (.nd .lf 35954176 .lf)) 35954208 (.nd (.nd .lf 35954216 .lf) 35954464 (.nd .lf 35954528 .lf)))) 35954536 (.nd (.nd (.nd (.nd .lf 35958272 .lf) 35958280 (.nd .lf 35958304 .lf)) 35958312 (.nd (.nd .lf 35958336 .lf) 35958344 (.nd .lf 35958368 .lf))) 35958376 (.nd (.nd (.nd .lf 35958560 .lf) 35958624 (.nd .lf 35958632 .lf)) 35986944 (.nd (.nd .lf 35986976 .lf) 35986984 (.nd .lf 35987232 .lf))))) 35987296 (.nd (.nd (.nd (.nd (.nd .lf 35987304 .lf) 35991040 (.nd .lf 35991048 .lf)) 35991056 (.nd (.nd .lf 35991072 .lf) 35991080 (.nd .lf 35991104 .lf))) 35991112 (.nd (.nd (.nd .lf 35991136 .lf) 35991144 (.nd .lf 35991168 .lf)) 35991176 (.nd (.nd .lf 35991184 .lf) 35991200 (.nd .lf 35991208 .lf)))) 35991328 (.nd (.nd (.nd (.nd .lf 35991392 .lf) 35991400 (.nd .lf 36216320 .lf)) 36216352 (.nd (.nd .lf 36216360 .lf) 36216608 (.nd .lf 36216672 .lf))) 36216680 (.nd (.nd (.nd .lf 36220416 .lf) 36220424 (.nd .lf 36220448 .lf)) 36220456 (.nd (.nd .lf 36220480 .lf) 36220488 (.nd .lf 36220512 .lf)))))))) 36220520 (.nd (.nd (.nd (.nd (.nd (.nd (.nd (.nd (.nd .lf 36220704 .lf) 36220768 .lf) 36220776 (.nd .lf 36249088 .lf)) 36249120 (.nd (.nd .lf 36249128 .lf) 36249376 (.nd .lf 36249440 .lf))) 36249448 (.nd (.nd (.nd .lf 36253184 .lf) 36253192 (.nd .lf 36253200 .lf)) 36253208 (.nd (.nd .lf 36253216 .lf) 36253224 (.nd .lf 36253248 .lf)))) 36253256 (.nd (.nd (.nd (.nd .lf 36253280 .lf) 36253288 (.nd .lf 36253312 .lf)) 36253320 (.nd (.nd .lf 36253328 .lf) 36253344 (.nd .lf 36253352 .lf))) 36253376 (.nd (.nd (.nd .lf 36253384 .lf) 36253392 (.nd .lf 36253400 .lf)) 36253408 (.nd (.nd .lf 36253416 .lf) 36253472 (.nd .lf 36253536 .lf))))) 36253544 (.nd (.nd (.nd (.nd (.nd .lf 38051328 .lf) 38051352 (.nd .lf 38051360 .lf)) 38051368 (.nd (.nd .lf 38051544 .lf) 38051616 (.nd .lf 38051672 .lf))) 38051680 (.nd (.nd (.nd .lf 38051688 .lf) 38055424 (.nd .lf 38055432 .lf)) 38055448 (.nd (.nd .lf 38055456 .lf) 38055464 (.nd .lf 38055488 .lf)))) 38055496 (.nd (.nd (.nd (.nd .lf 38055512 .lf) 38055520 (.nd .lf 38055528 .lf)) 38055640 (.nd (.nd .lf 38055712 .lf) 38055768 (.nd .lf 38055776 .lf))) 38055784 (.nd (.nd (.nd .lf 38084096 .lf) 38084120 (.nd .lf 38084128 .lf)) 38084136 (.nd (.nd .lf 38084312 .lf) 38084384 (.nd .lf 38084440 .lf)))))) 38084448 (.nd (.nd (.nd (.nd (.nd (.nd .lf 38084456 .lf) 38088192 (.nd .lf 38088200 .lf)) 38088208 (.nd (.nd .lf 38088216 .lf) 38088224 (.nd .lf 38088232 .lf))) 38088256 (.nd (.nd (.nd .lf 38088264 .lf) 38088280 (.nd .lf 38088288 .lf)) 38088296 (.nd (.nd .lf 38088320 .lf) 38088328 (.nd .lf 38088336 .lf)))) 38088344 (.nd (.nd (.nd (.nd .lf 38088352 .lf) 38088360 (.nd .lf 38088408 .lf)) 38088480 (.nd (.nd .lf 38088536 .lf) 38088544 (.nd .lf 38088552 .lf))) 38313472 (.nd (.nd (.nd .lf 38313488 .lf) 38313496 (.nd .lf 38313504 .lf)) 38313512 (.nd (.nd .lf 38313616 .lf) 38313688 (.nd .lf 38313760 .lf))))) 38313808 (.nd (.nd (.nd (.nd (.nd .lf 38313816 .lf) 38313824 (.nd .lf 38313832 .lf)) 38317568 (.nd (.nd .lf 38317576 .lf) 38317584 (.nd .lf 38317592 .lf))) 38317600 (.nd (.nd (.nd .lf 38317608 .lf) 38317632 (.nd .lf 38317640 .lf)) 38317648 (.nd (.nd .lf 38317656 .lf) 38317664 (.nd .lf 38317672 .lf)))) 38317712 (.nd (.nd (.nd (.nd .lf 38317784 .lf) 38317856 (.nd .lf 38317904 .lf)) 38317912 (.nd (.nd .lf 38317920 .lf) 38317928 (.nd .lf 38346240 .lf))) 38346248 (.nd (.nd (.nd .lf 38346256 .lf) 38346264 (.nd .lf 38346272 .lf)) 38346280 (.nd (.nd .lf 38346312 .lf) 38346384 (.nd .lf 38346456 .lf))))))) 38346528 (.nd (.nd (.nd (.nd (.nd (.nd (.nd .lf 38346568 .lf) 38346576 (.nd .lf 38346584 .lf)) 38346592 (.nd (.nd .lf 38346600 .lf) 38350336 (.nd .lf 38350344 .lf))) 38350352 (.nd (.nd (.nd .lf 38350360 .lf) 38350368 (.nd .lf 38350376 .lf)) 38350392 (.nd (.nd .lf 38350400 .lf) 38350408 (.nd .lf 38350416 .lf)))) 38350424 (.nd (.nd (.nd (.nd .lf 38350432 .lf) 38350440 (.nd .lf 38350464 .lf)) 38350472 (.nd (.nd .lf 38350480 .lf) 38350488 (.nd .lf 38350496 .lf))) 38350504 (.nd (.nd (.nd .lf 38350528 .lf) 38350536 (.nd .lf 38350544 .lf)) 38350552 (.nd (.nd .lf 38350560 .lf) 38350568 (.nd .lf 38350592 .lf))))) 38350600 (.nd (.nd (.nd (.nd (.nd .lf 38350608 .lf) 38350616 (.nd .lf 38350624 .lf)) 38350632 (.nd (.nd .lf 38350656 .lf) 38350664 (.nd .lf 38350672 .lf))) 38350680 (.nd (.nd (.nd .lf 38350688 .lf) 38350696 (.nd .lf 38350712 .lf)) 153393664 (.nd (.nd .lf 153393704 .lf) 153394024 (.nd .lf 153394176 .lf)))) 153394184 (.nd (.nd (.nd (.nd .lf 153394192 .lf) 153394200 (.nd .lf 153394208 .lf)) 153394216 (.nd (.nd .lf 153394224 .lf) 153394232 (.nd .lf 153394248 .lf))) 153394320 (.nd (.nd (.nd .lf 153394392 .lf) 153394464 (.nd .lf 153394536 .lf)) 153394560 (.nd (.nd .lf 153394568 .lf) 153394576 (.nd .lf 153394584 .lf)))))) 153394592 (.nd (.nd (.nd (.nd (.nd (.nd .lf 153394600 .lf) 153394608 (.nd .lf 153394616 .lf)) 153394688 (.nd (.nd .lf 153394696 .lf) 153394704 (.nd .lf 153394712 .lf))) 153394720 (.nd (.nd (.nd .lf 153394728 .lf) 153394736 (.nd .lf 153394744 .lf)) 153394760 (.nd (.nd .lf 153394832 .lf) 153394904 (.nd .lf 153394976 .lf)))) 153395048 (.nd (.nd (.nd (.nd .lf 153395072 .lf) 153395080 (.nd .lf 153395088 .lf)) 153395096 (.nd (.nd .lf 153395104 .lf) 153395112 (.nd .lf 153395120 .lf))) 153395128 (.nd (.nd (.nd .lf 153397760 .lf) 153397768 (.nd .lf 153397800 .lf)) 153397824 (.nd (.nd .lf 153397832 .lf) 153397864 (.nd .lf 153398120 .lf))))) 153398272 (.nd (.nd (.nd (.nd (.nd .lf 153398280 .lf) 153398288 (.nd .lf 153398296 .lf)) 153398304 (.nd (.nd .lf 153398312 .lf) 153398320 (.nd .lf 153398328 .lf))) 153398336 (.nd (.nd (.nd .lf 153398344 .lf) 153398352 (.nd .lf 153398360 .lf)) 153398368 (.nd (.nd .lf 153398376 .lf) 153398384 (.nd .lf 153398392 .lf)))) 153398416 (.nd (.nd (.nd (.nd .lf 153398488 .lf) 153398560 (.nd .lf 153398632 .lf)) 153398656 (.nd (.nd .lf 153398664 .lf) 153398672 (.nd .lf 153398680 .lf))) 153398688 (.nd (.nd (.nd .lf 153398696 .lf) 153398704 (.nd .lf 153398712 .lf)) 153398784 (.nd (.nd .lf 153398792 .lf) 153398800 (.nd .lf 153398808 .lf)))))))))) 153398816 (.nd (.nd (.nd (.nd (.nd (.nd (.nd (.nd (.nd (.nd (.nd .lf 153398824 .lf) 153398832 .lf) 153398840 (.nd .lf 153398848 .lf)) 153398856 (.nd (.nd .lf 153398864 .lf) 153398872 (.nd .lf 153398880 .lf))) 153398888 (.nd (.nd (.nd .lf 153398896 .lf) 153398904 (.nd .lf 153398928 .lf)) 153399000 (.nd (.nd .lf 153399072 .lf) 153399144 (.nd .lf 153399168 .lf)))) 153399176 (.nd (.nd (.nd (.nd .lf 153399184 .lf) 153399192 (.nd .lf 153399200 .lf)) 153399208 (.nd (.nd .lf 153399216 .lf) 153399224 (.nd .lf 153426432 .lf))) 153426472 (.nd (.nd (.nd .lf 153426792 .lf) 153426944 (.nd .lf 153426952 .lf)) 153426960 (.nd (.nd .lf 153426968 .lf) 153426976 (.nd .lf 153426984 .lf))))) 153426992 (.nd (.nd (.nd (.nd (.nd .lf 153427016 .lf) 153427080 (.nd .lf 153427088 .lf)) 153427160 (.nd (.nd .lf 153427232 .lf) 153427304 (.nd .lf 153427336 .lf))) 153427344 (.nd (.nd (.nd .lf 153427352 .lf) 153427360 (.nd .lf 153427368 .lf)) 153427376 (.nd (.nd .lf 153427456 .lf) 153427464 (.nd .lf 153427472 .lf)))) 153427480 (.nd (.nd (.nd (.nd .lf 153427488 .lf) 153427496 (.nd .lf 153427504 .lf)) 153427528 (.nd (.nd .lf 153427592 .lf) 153427600 (.nd .lf 153427672 .lf))) 153427744 (.nd (.nd (.nd .lf 153427816 .lf) 153427848 (.nd .lf 153427856 .lf)) 153427864 (.nd (.nd .lf 153427872 .lf) 153427880 (.nd .lf 153427888 .lf)))))) 153430528 (.nd (.nd (.nd (.nd (.nd (.nd .lf 153430536 .lf) 153430544 (.nd .lf 153430568 .lf)) 153430592 (.nd (.nd .lf 153430600 .lf) 153430632 (.nd .lf 153430656 .lf))) 153430664 (.nd (.nd (.nd .lf 153430672 .lf) 153430696 (.nd .lf 153430888 .lf)) 153431040 (.nd (.nd .lf 153431048 .lf) 153431056 (.nd .lf 153431064 .lf)))) 153431072 (.nd (.nd (.nd (.nd .lf 153431080 .lf) 153431088 (.nd .lf 153431096 .lf)) 153431104 (.nd (.nd .lf 153431112 .lf) 153431120 (.nd .lf 153431128 .lf))) 153431136 (.nd (.nd (.nd .lf 153431144 .lf) 153431152 (.nd .lf 153431168 .lf)) 153431176 (.nd (.nd .lf 153431184 .lf) 153431192 (.nd .lf 153431200 .lf))))) 153431208 (.nd (.nd (.nd (.nd (.nd .lf 153431216 .lf) 153431224 (.nd .lf 153431256 .lf)) 153431328 (.nd (.nd .lf 153431400 .lf) 153431424 (.nd .lf 153431432 .lf))) 153431440 (.nd (.nd (.nd .lf 153431448 .lf) 153431456 (.nd .lf 153431464 .lf)) 153431472 (.nd (.nd .lf 153431480 .lf) 153431552 (.nd .lf 153431560 .lf)))) 153431568 (.nd (.nd (.nd (.nd .lf 153431576 .lf) 153431584 (.nd .lf 153431592 .lf)) 153431600 (.nd (.nd .lf 153431608 .lf) 153431616 (.nd .lf 153431624 .lf))) 153431632 (.nd (.nd (.nd .lf 153431640 .lf) 153431648 (.nd .lf 153431656 .lf)) 153431664 (.nd (.nd .lf 153431680 .lf) 153431688 (.nd .lf 153431696 .lf))))))) 153431704 (.nd (.nd (.nd (.nd (.nd (.nd (.nd (.nd .lf 153431712 .lf) 153431720 .lf) 153431728 (.nd .lf 153431736 .lf)) 153431768 (.nd (.nd .lf 153431840 .lf) 153431912 (.nd .lf 153431936 .lf))) 153431944 (.nd (.nd (.nd .lf 153431952 .lf) 153431960 (.nd .lf 153431968 .lf)) 153431976 (.nd (.nd .lf 153431984 .lf) 153431992 (.nd .lf 153655808 .lf)))) 153655848 (.nd (.nd (.nd (.nd .lf 153656168 .lf) 153656320 (.nd .lf 153656336 .lf)) 153656344 (.nd (.nd .lf 153656352 .lf) 153656360 (.nd .lf 153656368 .lf))) 153656464 (.nd (.nd (.nd .lf 153656528 .lf) 153656536 (.nd .lf 153656608 .lf)) 153656680 (.nd (.nd .lf 153656720 .lf) 153656728 (.nd .lf 153656736 .lf))))) 153656744 (.nd (.nd (.nd (.nd (.nd .lf 153656752 .lf) 153656832 (.nd .lf 153656848 .lf)) 153656856 (.nd (.nd .lf 153656864 .lf) 153656872 (.nd .lf 153656880 .lf))) 153656976 (.nd (.nd (.nd .lf 153657040 .lf) 153657048 (.nd .lf 153657120 .lf)) 153657192 (.nd (.nd .lf 153657232 .lf) 153657240 (.nd .lf 153657248 .lf)))) 153657256 (.nd (.nd (.nd (.nd .lf 153657264 .lf) 153659904 (.nd .lf 153659912 .lf)) 153659944 (.nd (.nd .lf 153659968 .lf) 153659976 (.nd .lf 153660008 .lf))) 153660264 (.nd (.nd (.nd .lf 153660416 .lf) 153660424 (.nd .lf 153660432 .lf)) 153660440 (.nd (.nd .lf 153660448 .lf) 153660456 (.nd .lf 153660464 .lf)))))) 153660480 (.nd (.nd (.nd (.nd (.nd (.nd .lf 153660488 .lf) 153660496 (.nd .lf 153660504 .lf)) 153660512 (.nd (.nd .lf 153660520 .lf) 153660528 (.nd .lf 153660560 .lf))) 153660624 (.nd (.nd (.nd .lf 153660632 .lf) 153660704 (.nd .lf 153660776 .lf)) 153660816 (.nd (.nd .lf 153660824 .lf) 153660832 (.nd .lf 153660840 .lf)))) 153660848 (.nd (.nd (.nd (.nd .lf 153660928 .lf) 153660936 (.nd .lf 153660944 .lf)) 153660952 (.nd (.nd .lf 153660960 .lf) 153660968 (.nd .lf 153660976 .lf))) 153660992 (.nd (.nd (.nd .lf 153661000 .lf) 153661008 (.nd .lf 153661016 .lf)) 153661024 (.nd (.nd .lf 153661032 .lf) 153661040 (.nd .lf 153661072 .lf))))) 153661136 (.nd (.nd (.nd (.nd (.nd .lf 153661144 .lf) 153661216 (.nd .lf 153661288 .lf)) 153661328 (.nd (.nd .lf 153661336 .lf) 153661344 (.nd .lf 153661352 .lf))) 153661360 (.nd (.nd (.nd .lf 153688576 .lf) 153688616 (.nd .lf 153688936 .lf)) 153689088 (.nd (.nd .lf 153689096 .lf) 153689104 (.nd .lf 153689112 .lf)))) 153689120 (.nd (.nd (.nd (.nd .lf 153689128 .lf) 153689136 (.nd .lf 153689160 .lf)) 153689232 (.nd (.nd .lf 153689288 .lf) 153689296 (.nd .lf 153689304 .lf))) 153689376 (.nd (.nd (.nd .lf 153689448 .lf) 153689480 (.nd .lf 153689488 .lf)) 153689496 (.nd (.nd .lf 153689504 .lf) 153689512 (.nd .lf 153689520 .lf)))))))) 153689600 (.nd (.nd (.nd (.nd (.nd (.nd (.nd (.nd (.nd .lf 153689608 .lf) 153689616 .lf) 153689624 (.nd .lf 153689632 .lf)) 153689640 (.nd (.nd .lf 153689648 .lf) 153689672 (.nd .lf 153689744 .lf))) 153689800 (.nd (.nd (.nd .lf 153689808 .lf) 153689816 (.nd .lf 153689888 .lf)) 153689960 (.nd (.nd .lf 153689992 .lf) 153690000 (.nd .lf 153690008 .lf)))) 153690016 (.nd (.nd (.nd (.nd .lf 153690024 .lf) 153690032 (.nd .lf 153692672 .lf)) 153692680 (.nd (.nd .lf 153692688 .lf) 153692696 (.nd .lf 153692712 .lf))) 153692736 (.nd (.nd (.nd .lf 153692744 .lf) 153692776 (.nd .lf 153692800 .lf)) 153692808 (.nd (.nd .lf 153692816 .lf) 153692840 (.nd .lf 153692864 .lf))))) 153692872 (.nd (.nd (.nd (.nd (.nd .lf 153692880 .lf) 153692888 (.nd .lf 153692904 .lf)) 153693032 (.nd (.nd .lf 153693184 .lf) 153693192 (.nd .lf 153693200 .lf))) 153693208 (.nd (.nd (.nd .lf 153693216 .lf) 153693224 (.nd .lf 153693232 .lf)) 153693240 (.nd (.nd .lf 153693248 .lf) 153693256 (.nd .lf 153693264 .lf)))) 153693272 (.nd (.nd (.nd (.nd .lf 153693280 .lf) 153693288 (.nd .lf 153693296 .lf)) 153693312 (.nd (.nd .lf 153693320 .lf) 153693328 (.nd .lf 153693336 .lf))) 153693344 (.nd (.nd (.nd .lf 153693352 .lf) 153693360 (.nd .lf 153693376 .lf)) 153693384 (.nd (.nd .lf 153693392 .lf) 153693400 (.nd .lf 153693408 .lf)))))) 153693416 (.nd (.nd (.nd (.nd (.nd (.nd .lf 153693424 .lf) 153693432 (.nd .lf 153693472 .lf)) 153693544 (.nd (.nd .lf 153693568 .lf) 153693576 (.nd .lf 153693584 .lf))) 153693592 (.nd (.nd (.nd .lf 153693600 .lf) 153693608 (.nd .lf 153693616 .lf)) 153693624 (.nd (.nd .lf 153693696 .lf) 153693704 (.nd .lf 153693712 .lf)))) 153693720 (.nd (.nd (.nd (.nd .lf 153693728 .lf) 153693736 (.nd .lf 153693744 .lf)) 153693752 (.nd (.nd .lf 153693760 .lf) 153693768 (.nd .lf 153693776 .lf))) 153693784 (.nd (.nd (.nd .lf 153693792 .lf) 153693800 (.nd .lf 153693808 .lf)) 153693824 (.nd (.nd .lf 153693832 .lf) 153693840 (.nd .lf 153693848 .lf))))) 153693856 (.nd (.nd (.nd (.nd (.nd .lf 153693864 .lf) 153693872 (.nd .lf 153693888 .lf)) 153693896 (.nd (.nd .lf 153693904 .lf) 153693912 (.nd .lf 153693920 .lf))) 153693928 (.nd (.nd (.nd .lf 153693936 .lf) 153693944 (.nd .lf 153693984 .lf)) 153694056 (.nd (.nd .lf 153694080 .lf) 153694088 (.nd .lf 153694096 .lf)))) 153694104 (.nd (.nd (.nd (.nd .lf 153694112 .lf) 153694120 (.nd .lf 153694128 .lf)) 153694136 (.nd (.nd .lf 155490816 .lf) 155490856 (.nd .lf 155491176 .lf))) 155491328 (.nd (.nd (.nd .lf 155491352 .lf) 155491360 (.nd .lf 155491368 .lf)) 155491376 (.nd (.nd .lf 155491544 .lf) 155491608 (.nd .lf 155491616 .lf))))))) 155491688 (.nd (.nd (.nd (.nd (.nd (.nd (.nd .lf 155491736 .lf) 155491744 (.nd .lf 155491752 .lf)) 155491760 (.nd (.nd .lf 155491840 .lf) 155491864 (.nd .lf 155491872 .lf))) 155491880 (.nd (.nd (.nd .lf 155491888 .lf) 155492056 (.nd .lf 155492120 .lf)) 155492128 (.nd (.nd .lf 155492200 .lf) 155492248 (.nd .lf 155492256 .lf)))) 155492264 (.nd (.nd (.nd (.nd .lf 155492272 .lf) 155494912 (.nd .lf 155494920 .lf)) 155494952 (.nd (.nd .lf 155494976 .lf) 155494984 (.nd .lf 155495016 .lf))) 155495272 (.nd (.nd (.nd .lf 155495424 .lf) 155495432 (.nd .lf 155495448 .lf)) 155495456 (.nd (.nd .lf 155495464 .lf) 155495472 (.nd .lf 155495488 .lf))))) 155495496 (.nd (.nd (.nd (.nd (.nd .lf 155495512 .lf) 155495520 (.nd .lf 155495528 .lf)) 155495536 (.nd (.nd .lf 155495640 .lf) 155495704 (.nd .lf 155495712 .lf))) 155495784 (.nd (.nd (.nd .lf 155495832 .lf) 155495840 (.nd .lf 155495848 .lf)) 155495856 (.nd (.nd .lf 155495936 .lf) 155495944 (.nd .lf 155495960 .lf)))) 155495968 (.nd (.nd (.nd (.nd .lf 155495976 .lf) 155495984 (.nd .lf 155496000 .lf)) 155496008 (.nd (.nd .lf 155496024 .lf) 155496032 (.nd .lf 155496040 .lf))) 155496048 (.nd (.nd (.nd .lf 155496152 .lf) 155496216 (.nd .lf 155496224 .lf)) 155496296 (.nd (.nd .lf 155496344 .lf) 155496352 (.nd .lf 155496360 .lf)))))) 155496368 (.nd (.nd (.nd (.nd (.nd (.nd .lf 155523584 .lf) 155523624 (.nd .lf 155523944 .lf)) 155524096 (.nd (.nd .lf 155524120 .lf) 155524128 (.nd .lf 155524136 .lf))) 155524144 (.nd (.nd (.nd .lf 155524312 .lf) 155524376 (.nd .lf 155524384 .lf)) 155524456 (.nd (.nd .lf 155524504 .lf) 155524512 (.nd .lf 155524520 .lf)))) 155524528 (.nd (.nd (.nd (.nd .lf 155524608 .lf) 155524632 (.nd .lf 155524640 .lf)) 155524648 (.nd (.nd .lf 155524656 .lf) 155524824 (.nd .lf 155524888 .lf))) 155524896 (.nd (.nd (.nd .lf 155524968 .lf) 155525016 (.nd .lf 155525024 .lf)) 155525032 (.nd (.nd .lf 155525040 .lf) 155527680 (.nd .lf 155527688 .lf))))) 155527696 (.nd (.nd (.nd (.nd (.nd .lf 155527720 .lf) 155527744 (.nd .lf 155527752 .lf)) 155527784 (.nd (.nd .lf 155527808 .lf) 155527816 (.nd .lf 155527824 .lf))) 155527848 (.nd (.nd (.nd .lf 155528040 .lf) 155528192 (.nd .lf 155528200 .lf)) 155528208 (.nd (.nd .lf 155528216 .lf) 155528224 (.nd .lf 155528232 .lf)))) 155528240 (.nd (.nd (.nd (.nd .lf 155528256 .lf) 155528264 (.nd .lf 155528280 .lf)) 155528288 (.nd (.nd .lf 155528296 .lf) 155528304 (.nd .lf 155528320 .lf))) 155528328 (.nd (.nd (.nd .lf 155528336 .lf) 155528344 (.nd .lf 155528352 .lf)) 155528360 (.nd (.nd .lf 155528368 .lf) 155528408 (.nd .lf 155528472 .lf))))))))) 155528480 (.nd (.nd (.nd (.nd (.nd (.nd (.nd (.nd (.nd (.nd .lf 155528552 .lf) 155528600 .lf) 155528608 (.nd .lf 155528616 .lf)) 155528624 (.nd (.nd .lf 155528704 .lf) 155528712 (.nd .lf 155528720 .lf))) 155528728 (.nd (.nd (.nd .lf 155528736 .lf) 155528744 (.nd .lf 155528752 .lf)) 155528768 (.nd (.nd .lf 155528776 .lf) 155528792 (.nd .lf 155528800 .lf)))) 155528808 (.nd (.nd (.nd (.nd .lf 155528816 .lf) 155528832 (.nd .lf 155528840 .lf)) 155528848 (.nd (.nd .lf 155528856 .lf) 155528864 (.nd .lf 155528872 .lf))) 155528880 (.nd (.nd (.nd .lf 155528920 .lf) 155528984 (.nd .lf 155528992 .lf)) 155529064 (.nd (.nd .lf 155529112 .lf) 155529120 (.nd .lf 155529128 .lf))))) 155529136 (.nd (.nd (.nd (.nd (.nd .lf 155752960 .lf) 155753000 (.nd .lf 155753320 .lf)) 155753472 (.nd (.nd .lf 155753488 .lf) 155753496 (.nd .lf 155753504 .lf))) 155753512 (.nd (.nd (.nd .lf 155753520 .lf) 155753616 (.nd .lf 155753688 .lf)) 155753744 (.nd (.nd .lf 155753752 .lf) 155753760 (.nd .lf 155753832 .lf)))) 155753872 (.nd (.nd (.nd (.nd .lf 155753880 .lf) 155753888 (.nd .lf 155753896 .lf)) 155753904 (.nd (.nd .lf 155753984 .lf) 155754000 (.nd .lf 155754008 .lf))) 155754016 (.nd (.nd (.nd .lf 155754024 .lf) 155754032 (.nd .lf 155754128 .lf)) 155754200 (.nd (.nd .lf 155754256 .lf) 155754264 (.nd .lf 155754272 .lf)))))) 155754344 (.nd (.nd (.nd (.nd (.nd (.nd .lf 155754384 .lf) 155754392 (.nd .lf 155754400 .lf)) 155754408 (.nd (.nd .lf 155754416 .lf) 155757056 (.nd .lf 155757064 .lf))) 155757096 (.nd (.nd (.nd .lf 155757120 .lf) 155757128 (.nd .lf 155757160 .lf)) 155757416 (.nd (.nd .lf 155757568 .lf) 155757576 (.nd .lf 155757584 .lf)))) 155757592 (.nd (.nd (.nd (.nd .lf 155757600 .lf) 155757608 (.nd .lf 155757616 .lf)) 155757632 (.nd (.nd .lf 155757640 .lf) 155757648 (.nd .lf 155757656 .lf))) 155757664 (.nd (.nd (.nd .lf 155757672 .lf) 155757680 (.nd .lf 155757712 .lf)) 155757784 (.nd (.nd .lf 155757840 .lf) 155757848 (.nd .lf 155757856 .lf))))) 155757928 (.nd (.nd (.nd (.nd (.nd .lf 155757968 .lf) 155757976 (.nd .lf 155757984 .lf)) 155757992 (.nd (.nd .lf 155758000 .lf) 155758080 (.nd .lf 155758088 .lf))) 155758096 (.nd (.nd (.nd .lf 155758104 .lf) 155758112 (.nd .lf 155758120 .lf)) 155758128 (.nd (.nd .lf 155758144 .lf) 155758152 (.nd .lf 155758160 .lf)))) 155758168 (.nd (.nd (.nd (.nd .lf 155758176 .lf) 155758184 (.nd .lf 155758192 .lf)) 155758224 (.nd (.nd .lf 155758296 .lf) 155758352 (.nd .lf 155758360 .lf))) 155758368 (.nd (.nd (.nd .lf 155758440 .lf) 155758480 (.nd .lf 155758488 .lf)) 155758496 (.nd (.nd .lf 155758504 .lf) 155758512 (.nd .lf 155785728 .lf))))))) 155785768 (.nd (.nd (.nd (.nd (.nd (.nd (.nd .lf 155786088 .lf) 155786240 (.nd .lf 155786248 .lf)) 155786256 (.nd (.nd .lf 155786264 .lf) 155786272 (.nd .lf 155786280 .lf))) 155786288 (.nd (.nd (.nd .lf 155786312 .lf) 155786384 (.nd .lf 155786456 .lf)) 155786504 (.nd (.nd .lf 155786512 .lf) 155786520 (.nd .lf 155786528 .lf)))) 155786600 (.nd (.nd (.nd (.nd .lf 155786632 .lf) 155786640 (.nd .lf 155786648 .lf)) 155786656 (.nd (.nd .lf 155786664 .lf) 155786672 (.nd .lf 155786752 .lf))) 155786760 (.nd (.nd (.nd .lf 155786768 .lf) 155786776 (.nd .lf 155786784 .lf)) 155786792 (.nd (.nd .lf 155786800 .lf) 155786824 (.nd .lf 155786896 .lf))))) 155786968 (.nd (.nd (.nd (.nd (.nd .lf 155787016 .lf) 155787024 (.nd .lf 155787032 .lf)) 155787040 (.nd (.nd .lf 155787112 .lf) 155787144 (.nd .lf 155787152 .lf))) 155787160 (.nd (.nd (.nd .lf 155787168 .lf) 155787176 (.nd .lf 155787184 .lf)) 155788800 (.nd (.nd .lf 155788824 .lf) 155789016 (.nd .lf 155789312 .lf)))) 155789320 (.nd (.nd (.nd (.nd .lf 155789328 .lf) 155789336 (.nd .lf 155789344 .lf)) 155789352 (.nd (.nd .lf 155789384 .lf) 155789456 (.nd .lf 155789528 .lf))) 155789568 (.nd (.nd (.nd .lf 155789576 .lf) 155789584 (.nd .lf 155789592 .lf)) 155789600 (.nd (.nd .lf 155789608 .lf) 155789672 (.nd .lf 155789824 .lf)))))) 155789832 (.nd (.nd (.nd (.nd (.nd (.nd .lf 155789840 .lf) 155789848 (.nd .lf 155789856 .lf)) 155789864 (.nd (.nd .lf 155789888 .lf) 155789896 (.nd .lf 155789928 .lf))) 155789952 (.nd (.nd (.nd .lf 155789960 .lf) 155789968 (.nd .lf 155789992 .lf)) 155790016 (.nd (.nd .lf 155790024 .lf) 155790032 (.nd .lf 155790040 .lf)))) 155790056 (.nd (.nd (.nd (.nd .lf 155790080 .lf) 155790088 (.nd .lf 155790096 .lf)) 155790104 (.nd (.nd .lf 155790112 .lf) 155790120 (.nd .lf 155790184 .lf))) 155790336 (.nd (.nd (.nd .lf 155790344 .lf) 155790352 (.nd .lf 155790360 .lf)) 155790368 (.nd (.nd .lf 155790376 .lf) 155790384 (.nd .lf 155790392 .lf))))) 155790400 (.nd (.nd (.nd (.nd (.nd .lf 155790408 .lf) 155790416 (.nd .lf 155790424 .lf)) 155790432 (.nd (.nd .lf 155790440 .lf) 155790448 (.nd .lf 155790464 .lf))) 155790472 (.nd (.nd (.nd .lf 155790480 .lf) 155790488 (.nd .lf 155790496 .lf)) 155790504 (.nd (.nd .lf 155790512 .lf) 155790528 (.nd .lf 155790536 .lf)))) 155790544 (.nd (.nd (.nd (.nd .lf 155790552 .lf) 155790560 (.nd .lf 155790568 .lf)) 155790576 (.nd (.nd .lf 155790592 .lf) 155790600 (.nd .lf 155790608 .lf))) 155790616 (.nd (.nd (.nd .lf 155790624 .lf) 155790632 (.nd .lf 155790640 .lf)) 155790648 (.nd (.nd .lf 155790696 .lf) 155790720 (.nd .lf 155790728 .lf)))))))) 155790736 (.nd (.nd (.nd (.nd (.nd (.nd (.nd (.nd (.nd .lf 155790744 .lf) 155790752 .lf) 155790760 (.nd .lf 155790768 .lf)) 155790776 (.nd (.nd .lf 155790848 .lf) 155790856 (.nd .lf 155790864 .lf))) 155790872 (.nd (.nd (.nd .lf 155790880 .lf) 155790888 (.nd .lf 155790896 .lf)) 155790904 (.nd (.nd .lf 155790912 .lf) 155790920 (.nd .lf 155790928 .lf)))) 155790936 (.nd (.nd (.nd (.nd .lf 155790944 .lf) 155790952 (.nd .lf 155790960 .lf)) 155790976 (.nd (.nd .lf 155790984 .lf) 155790992 (.nd .lf 155791000 .lf))) 155791008 (.nd (.nd (.nd .lf 155791016 .lf) 155791024 (.nd .lf 155791040 .lf)) 155791048 (.nd (.nd .lf 155791056 .lf) 155791064 (.nd .lf 155791072 .lf))))) 155791080 (.nd (.nd (.nd (.nd (.nd .lf 155791088 .lf) 155791104 (.nd .lf 155791112 .lf)) 155791120 (.nd (.nd .lf 155791128 .lf) 155791136 (.nd .lf 155791144 .lf))) 155791152 (.nd (.nd (.nd .lf 155791160 .lf) 155791208 (.nd .lf 155791232 .lf)) 155791240 (.nd (.nd .lf 155791248 .lf) 155791256 (.nd .lf 155791264 .lf)))) 155791272 (.nd (.nd (.nd (.nd .lf 155791280 .lf) 155791288 (.nd .lf 170170368 .lf)) 170170400 (.nd (.nd .lf 170170656 .lf) 170170880 (.nd .lf 170170912 .lf))) 170170920 (.nd (.nd (.nd .lf 170171168 .lf) 170171232 (.nd .lf 170171240 .lf)) 170171392 (.nd (.nd .lf 170171424 .lf) 170171432 (.nd .lf 170171440 .lf)))))) 170171680 (.nd (.nd (.nd (.nd (.nd (.nd .lf 170171744 .lf) 170171752 (.nd .lf 170171808 .lf)) 170171816 (.nd (.nd .lf 170171824 .lf) 170171904 (.nd .lf 170171936 .lf))) 170171944 (.nd (.nd (.nd .lf 170171952 .lf) 170172192 (.nd .lf 170172256 .lf)) 170172264 (.nd (.nd .lf 170172320 .lf) 170172328 (.nd .lf 170172336 .lf)))) 170174464 (.nd (.nd (.nd (.nd .lf 170174472 .lf) 170174496 (.nd .lf 170174528 .lf)) 170174536 (.nd (.nd .lf 170174560 .lf) 170174752 (.nd .lf 170174976 .lf))) 170174984 (.nd (.nd (.nd .lf 170175008 .lf) 170175016 (.nd .lf 170175040 .lf)) 170175048 (.nd (.nd .lf 170175072 .lf) 170175080 (.nd .lf 170175264 .lf))))) 170175328 (.nd (.nd (.nd (.nd (.nd .lf 170175336 .lf) 170175488 (.nd .lf 170175496 .lf)) 170175520 (.nd (.nd .lf 170175528 .lf) 170175536 (.nd .lf 170175552 .lf))) 170175560 (.nd (.nd (.nd .lf 170175584 .lf) 170175592 (.nd .lf 170175600 .lf)) 170175776 (.nd (.nd .lf 170175840 .lf) 170175848 (.nd .lf 170175904 .lf)))) 170175912 (.nd (.nd (.nd (.nd .lf 170175920 .lf) 170176000 (.nd .lf 170176008 .lf)) 170176032 (.nd (.nd .lf 170176040 .lf) 170176048 (.nd .lf 170176064 .lf))) 170176072 (.nd (.nd (.nd .lf 170176096 .lf) 170176104 (.nd .lf 170176112 .lf)) 170176288 (.nd (.nd .lf 170176352 .lf) 170176360 (.nd .lf 170176416 .lf))))))) 170176424 (.nd (.nd (.nd (.nd (.nd (.nd (.nd .lf 170176432 .lf) 170203136 (.nd .lf 170203168 .lf)) 170203424 (.nd (.nd .lf 170203648 .lf) 170203680 (.nd .lf 170203688 .lf))) 170203936 (.nd (.nd (.nd .lf 170204000 .lf) 170204008 (.nd .lf 170204160 .lf)) 170204192 (.nd (.nd .lf 170204200 .lf) 170204208 (.nd .lf 170204448 .lf)))) 170204512 (.nd (.nd (.nd (.nd .lf 170204520 .lf) 170204576 (.nd .lf 170204584 .lf)) 170204592 (.nd (.nd .lf 170204672 .lf) 170204704 (.nd .lf 170204712 .lf))) 170204720 (.nd (.nd (.nd .lf 170204960 .lf) 170205024 (.nd .lf 170205032 .lf)) 170205088 (.nd (.nd .lf 170205096 .lf) 170205104 (.nd .lf 170207232 .lf))))) 170207240 (.nd (.nd (.nd (.nd (.nd .lf 170207248 .lf) 170207264 (.nd .lf 170207296 .lf)) 170207304 (.nd (.nd .lf 170207328 .lf) 170207360 (.nd .lf 170207368 .lf))) 170207376 (.nd (.nd (.nd .lf 170207392 .lf) 170207520 (.nd .lf 170207744 .lf)) 170207752 (.nd (.nd .lf 170207760 .lf) 170207776 (.nd .lf 170207784 .lf)))) 170207808 (.nd (.nd (.nd (.nd .lf 170207816 .lf) 170207840 (.nd .lf 170207848 .lf)) 170207872 (.nd (.nd .lf 170207880 .lf) 170207888 (.nd .lf 170207904 .lf))) 170207912 (.nd (.nd (.nd .lf 170208032 .lf) 170208096 (.nd .lf 170208104 .lf)) 170208256 (.nd (.nd .lf 170208264 .lf) 170208272 (.nd .lf 170208288 .lf)))))) 170208296 (.nd (.nd (.nd (.nd (.nd (.nd .lf 170208304 .lf) 170208320 (.nd .lf 170208328 .lf)) 170208352 (.nd (.nd .lf 170208360 .lf) 170208368 (.nd .lf 170208384 .lf))) 170208392 (.nd (.nd (.nd .lf 170208400 .lf) 170208416 (.nd .lf 170208424 .lf)) 170208432 (.nd (.nd .lf 170208544 .lf) 170208608 (.nd .lf 170208616 .lf)))) 170208672 (.nd (.nd (.nd (.nd .lf 170208680 .lf) 170208688 (.nd .lf 170208768 .lf)) 170208776 (.nd (.nd .lf 170208784 .lf) 170208800 (.nd .lf 170208808 .lf))) 170208816 (.nd (.nd (.nd .lf 170208832 .lf) 170208840 (.nd .lf 170208864 .lf)) 170208872 (.nd (.nd .lf 170208880 .lf) 170208896 (.nd .lf 170208904 .lf))))) 170208912 (.nd (.nd (.nd (.nd (.nd .lf 170208928 .lf) 170208936 (.nd .lf 170208944 .lf)) 170209056 (.nd (.nd .lf 170209120 .lf) 170209128 (.nd .lf 170209184 .lf))) 170209192 (.nd (.nd (.nd .lf 170209200 .lf) 170432512 (.nd .lf 170432544 .lf)) 170432800 (.nd (.nd .lf 170433024 .lf) 170433056 (.nd .lf 170433064 .lf)))) 170433312 (.nd (.nd (.nd (.nd .lf 170433376 .lf) 170433384 (.nd .lf 170433536 .lf)) 170433568 (.nd (.nd .lf 170433576 .lf) 170433584 (.nd .lf 170433824 .lf))) 170433888 (.nd (.nd (.nd .lf 170433896 .lf) 170433952 (.nd .lf 170433960 .lf)) 170433968 (.nd (.nd .lf 170434048 .lf) 170434080 (.nd .lf 170434088 .lf))))))))))) 170434096 (.nd (.nd (.nd (.nd (.nd (.nd (.nd (.nd (.nd (.nd (.nd (.nd .lf 170434336 .lf) 170434400 .lf) 170434408 (.nd .lf 170434464 .lf)) 170434472 (.nd (.nd .lf 170434480 .lf) 170436608 (.nd .lf 170436616 .lf))) 170436640 (.nd (.nd (.nd .lf 170436672 .lf) 170436680 (.nd .lf 170436704 .lf)) 170436896 (.nd (.nd .lf 170437120 .lf) 170437128 (.nd .lf 170437152 .lf)))) 170437160 (.nd (.nd (.nd (.nd .lf 170437184 .lf) 170437192 (.nd .lf 170437216 .lf)) 170437224 (.nd (.nd .lf 170437408 .lf) 170437472 (.nd .lf 170437480 .lf))) 170437632 (.nd (.nd (.nd .lf 170437640 .lf) 170437664 (.nd .lf 170437672 .lf)) 170437680 (.nd (.nd .lf 170437696 .lf) 170437704 (.nd .lf 170437728 .lf))))) 170437736 (.nd (.nd (.nd (.nd (.nd .lf 170437744 .lf) 170437920 (.nd .lf 170437984 .lf)) 170437992 (.nd (.nd .lf 170438048 .lf) 170438056 (.nd .lf 170438064 .lf))) 170438144 (.nd (.nd (.nd .lf 170438152 .lf) 170438176 (.nd .lf 170438184 .lf)) 170438192 (.nd (.nd .lf 170438208 .lf) 170438216 (.nd .lf 170438240 .lf)))) 170438248 (.nd (.nd (.nd (.nd .lf 170438256 .lf) 170438432 (.nd .lf 170438496 .lf)) 170438504 (.nd (.nd .lf 170438560 .lf) 170438568 (.nd .lf 170438576 .lf))) 170465280 (.nd (.nd (.nd .lf 170465312 .lf) 170465568 (.nd .lf 170465792 .lf)) 170465824 (.nd (.nd .lf 170465832 .lf) 170466080 (.nd .lf 170466144 .lf)))))) 170466152 (.nd (.nd (.nd (.nd (.nd (.nd .lf 170466304 .lf) 170466336 (.nd .lf 170466344 .lf)) 170466352 (.nd (.nd .lf 170466592 .lf) 170466656 (.nd .lf 170466664 .lf))) 170466720 (.nd (.nd (.nd .lf 170466728 .lf) 170466736 (.nd .lf 170466816 .lf)) 170466848 (.nd (.nd .lf 170466856 .lf) 170466864 (.nd .lf 170467104 .lf)))) 170467168 (.nd (.nd (.nd (.nd .lf 170467176 .lf) 170467232 (.nd .lf 170467240 .lf)) 170467248 (.nd (.nd .lf 170468352 .lf) 170468368 (.nd .lf 170468496 .lf))) 170468864 (.nd (.nd (.nd .lf 170468872 .lf) 170468880 (.nd .lf 170468888 .lf)) 170468896 (.nd (.nd .lf 170468936 .lf) 170469008 (.nd .lf 170469056 .lf))))) 170469064 (.nd (.nd (.nd (.nd (.nd .lf 170469072 .lf) 170469080 (.nd .lf 170469088 .lf)) 170469152 (.nd (.nd .lf 170469376 .lf) 170469384 (.nd .lf 170469392 .lf))) 170469400 (.nd (.nd (.nd .lf 170469408 .lf) 170469440 (.nd .lf 170469448 .lf)) 170469472 (.nd (.nd .lf 170469504 .lf) 170469512 (.nd .lf 170469520 .lf)))) 170469536 (.nd (.nd (.nd (.nd .lf 170469568 .lf) 170469576 (.nd .lf 170469584 .lf)) 170469592 (.nd (.nd .lf 170469600 .lf) 170469664 (.nd .lf 170469888 .lf))) 170469896 (.nd (.nd (.nd .lf 170469904 .lf) 170469912 (.nd .lf 170469920 .lf)) 170469928 (.nd (.nd .lf 170469952 .lf) 170469960 (.nd .lf 170469984 .lf))))))) 170469992 (.nd (.nd (.nd (.nd (.nd (.nd (.nd (.nd .lf 170470016 .lf) 170470024 .lf) 170470032 (.nd .lf 170470048 .lf)) 170470056 (.nd (.nd .lf 170470080 .lf) 170470088 (.nd .lf 170470096 .lf))) 170470104 (.nd (.nd (.nd .lf 170470112 .lf) 170470120 (.nd .lf 170470176 .lf)) 170470240 (.nd (.nd .lf 170470248 .lf) 170470400 (.nd .lf 170470408 .lf)))) 170470416 (.nd (.nd (.nd (.nd .lf 170470424 .lf) 170470432 (.nd .lf 170470440 .lf)) 170470448 (.nd (.nd .lf 170470464 .lf) 170470472 (.nd .lf 170470496 .lf))) 170470504 (.nd (.nd (.nd .lf 170470512 .lf) 170470528 (.nd .lf 170470536 .lf)) 170470544 (.nd (.nd .lf 170470560 .lf) 170470568 (.nd .lf 170470576 .lf))))) 170470592 (.nd (.nd (.nd (.nd (.nd .lf 170470600 .lf) 170470608 (.nd .lf 170470616 .lf)) 170470624 (.nd (.nd .lf 170470632 .lf) 170470640 (.nd .lf 170470688 .lf))) 170470752 (.nd (.nd (.nd .lf 170470760 .lf) 170470816 (.nd .lf 170470824 .lf)) 170470832 (.nd (.nd .lf 170470912 .lf) 170470920 (.nd .lf 170470928 .lf)))) 170470936 (.nd (.nd (.nd (.nd .lf 170470944 .lf) 170470952 (.nd .lf 170470960 .lf)) 170470976 (.nd (.nd .lf 170470984 .lf) 170471008 (.nd .lf 170471016 .lf))) 170471024 (.nd (.nd (.nd .lf 170471040 .lf) 170471048 (.nd .lf 170471056 .lf)) 170471072 (.nd (.nd .lf 170471080 .lf) 170471088 (.nd .lf 170471104 .lf)))))) 170471112 (.nd (.nd (.nd (.nd (.nd (.nd .lf 170471120 .lf) 170471128 (.nd .lf 170471136 .lf)) 170471144 (.nd (.nd .lf 170471152 .lf) 170471200 (.nd .lf 170471264 .lf))) 170471272 (.nd (.nd (.nd .lf 170471328 .lf) 170471336 (.nd .lf 170471344 .lf)) 172267520 (.nd (.nd .lf 172267552 .lf) 172267808 (.nd .lf 172268032 .lf)))) 172268056 (.nd (.nd (.nd (.nd .lf 172268064 .lf) 172268072 (.nd .lf 172268248 .lf)) 172268320 (.nd (.nd .lf 172268376 .lf) 172268384 (.nd .lf 172268392 .lf))) 172268544 (.nd (.nd (.nd .lf 172268568 .lf) 172268576 (.nd .lf 172268584 .lf)) 172268592 (.nd (.nd .lf 172268760 .lf) 172268832 (.nd .lf 172268888 .lf))))) 172268896 (.nd (.nd (.nd (.nd (.nd .lf 172268904 .lf) 172268952 (.nd .lf 172268960 .lf)) 172268968 (.nd (.nd .lf 172268976 .lf) 172269056 (.nd .lf 172269080 .lf))) 172269088 (.nd (.nd (.nd .lf 172269096 .lf) 172269104 (.nd .lf 172269272 .lf)) 172269344 (.nd (.nd .lf 172269400 .lf) 172269408 (.nd .lf 172269416 .lf)))) 172269464 (.nd (.nd (.nd (.nd .lf 172269472 .lf) 172269480 (.nd .lf 172269488 .lf)) 172271616 (.nd (.nd .lf 172271624 .lf) 172271648 (.nd .lf 172271680 .lf))) 172271688 (.nd (.nd (.nd .lf 172271712 .lf) 172271904 (.nd .lf 172272128 .lf)) 172272136 (.nd (.nd .lf 172272152 .lf) 172272160 (.nd .lf 172272168 .lf)))))))) 172272192 (.nd (.nd (.nd (.nd (.nd (.nd (.nd (.nd (.nd .lf 172272200 .lf) 172272216 .lf) 172272224 (.nd .lf 172272232 .lf)) 172272344 (.nd (.nd .lf 172272416 .lf) 172272472 (.nd .lf 172272480 .lf))) 172272488 (.nd (.nd (.nd .lf 172272640 .lf) 172272648 (.nd .lf 172272664 .lf)) 172272672 (.nd (.nd .lf 172272680 .lf) 172272688 (.nd .lf 172272704 .lf)))) 172272712 (.nd (.nd (.nd (.nd .lf 172272728 .lf) 172272736 (.nd .lf 172272744 .lf)) 172272752 (.nd (.nd .lf 172272856 .lf) 172272928 (.nd .lf 172272984 .lf))) 172272992 (.nd (.nd (.nd .lf 172273000 .lf) 172273048 (.nd .lf 172273056 .lf)) 172273064 (.nd (.nd .lf 172273072 .lf) 172273152 (.nd .lf 172273160 .lf))))) 172273176 (.nd (.nd (.nd (.nd (.nd .lf 172273184 .lf) 172273192 (.nd .lf 172273200 .lf)) 172273216 (.nd (.nd .lf 172273224 .lf) 172273240 (.nd .lf 172273248 .lf))) 172273256 (.nd (.nd (.nd .lf 172273264 .lf) 172273368 (.nd .lf 172273440 .lf)) 172273496 (.nd (.nd .lf 172273504 .lf) 172273512 (.nd .lf 172273560 .lf)))) 172273568 (.nd (.nd (.nd (.nd .lf 172273576 .lf) 172273584 (.nd .lf 172300288 .lf)) 172300320 (.nd (.nd .lf 172300576 .lf) 172300800 (.nd .lf 172300824 .lf))) 172300832 (.nd (.nd (.nd .lf 172300840 .lf) 172301016 (.nd .lf 172301088 .lf)) 172301144 (.nd (.nd .lf 172301152 .lf) 172301160 (.nd .lf 172301312 .lf)))))) 172301336 (.nd (.nd (.nd (.nd (.nd (.nd .lf 172301344 .lf) 172301352 (.nd .lf 172301360 .lf)) 172301528 (.nd (.nd .lf 172301600 .lf) 172301656 (.nd .lf 172301664 .lf))) 172301672 (.nd (.nd (.nd .lf 172301720 .lf) 172301728 (.nd .lf 172301736 .lf)) 172301744 (.nd (.nd .lf 172301824 .lf) 172301848 (.nd .lf 172301856 .lf)))) 172301864 (.nd (.nd (.nd (.nd .lf 172301872 .lf) 172302040 (.nd .lf 172302112 .lf)) 172302168 (.nd (.nd .lf 172302176 .lf) 172302184 (.nd .lf 172302232 .lf))) 172302240 (.nd (.nd (.nd .lf 172302248 .lf) 172302256 (.nd .lf 172304384 .lf)) 172304392 (.nd (.nd .lf 172304400 .lf) 172304416 (.nd .lf 172304448 .lf))))) 172304456 (.nd (.nd (.nd (.nd (.nd .lf 172304480 .lf) 172304512 (.nd .lf 172304520 .lf)) 172304528 (.nd (.nd .lf 172304544 .lf) 172304672 (.nd .lf 172304896 .lf))) 172304904 (.nd (.nd (.nd .lf 172304912 .lf) 172304920 (.nd .lf 172304928 .lf)) 172304936 (.nd (.nd .lf 172304960 .lf) 172304968 (.nd .lf 172304984 .lf)))) 172304992 (.nd (.nd (.nd (.nd .lf 172305000 .lf) 172305024 (.nd .lf 172305032 .lf)) 172305040 (.nd (.nd .lf 172305048 .lf) 172305056 (.nd .lf 172305064 .lf))) 172305112 (.nd (.nd (.nd .lf 172305184 .lf) 172305240 (.nd .lf 172305248 .lf)) 172305256 (.nd (.nd .lf 172305408 .lf) 172305416 (.nd .lf 172305424 .lf))))))) 172305432 (.nd (.nd (.nd (.nd (.nd (.nd (.nd .lf 172305440 .lf) 172305448 (.nd .lf 172305456 .lf)) 172305472 (.nd (.nd .lf 172305480 .lf) 172305496 (.nd .lf 172305504 .lf))) 172305512 (.nd (.nd (.nd .lf 172305520 .lf) 172305536 (.nd .lf 172305544 .lf)) 172305552 (.nd (.nd .lf 172305560 .lf) 172305568 (.nd .lf 172305576 .lf)))) 172305584 (.nd (.nd (.nd (.nd .lf 172305624 .lf) 172305696 (.nd .lf 172305752 .lf)) 172305760 (.nd (.nd .lf 172305768 .lf) 172305816 (.nd .lf 172305824 .lf))) 172305832 (.nd (.nd (.nd .lf 172305840 .lf) 172305920 (.nd .lf 172305928 .lf)) 172305936 (.nd (.nd .lf 172305944 .lf) 172305952 (.nd .lf 172305960 .lf))))) 172305968 (.nd (.nd (.nd (.nd (.nd .lf 172305984 .lf) 172305992 (.nd .lf 172306008 .lf)) 172306016 (.nd (.nd .lf 172306024 .lf) 172306032 (.nd .lf 172306048 .lf))) 172306056 (.nd (.nd (.nd .lf 172306064 .lf) 172306072 (.nd .lf 172306080 .lf)) 172306088 (.nd (.nd .lf 172306096 .lf) 172306136 (.nd .lf 172306208 .lf)))) 172306264 (.nd (.nd (.nd (.nd .lf 172306272 .lf) 172306280 (.nd .lf 172306328 .lf)) 172306336 (.nd (.nd .lf 172306344 .lf) 172306352 (.nd .lf 172529664 .lf))) 172529696 (.nd (.nd (.nd .lf 172529952 .lf) 172530176 (.nd .lf 172530192 .lf)) 172530200 (.nd (.nd .lf 172530208 .lf) 172530216 (.nd .lf 172530320 .lf)))))) 172530392 (.nd (.nd (.nd (.nd (.nd (.nd .lf 172530464 .lf) 172530512 (.nd .lf 172530520 .lf)) 172530528 (.nd (.nd .lf 172530536 .lf) 172530688 (.nd .lf 172530704 .lf))) 172530712 (.nd (.nd (.nd .lf 172530720 .lf) 172530728 (.nd .lf 172530736 .lf)) 172530832 (.nd (.nd .lf 172530904 .lf) 172530976 (.nd .lf 172531024 .lf)))) 172531032 (.nd (.nd (.nd (.nd .lf 172531040 .lf) 172531048 (.nd .lf 172531088 .lf)) 172531096 (.nd (.nd .lf 172531104 .lf) 172531112 (.nd .lf 172531120 .lf))) 172531200 (.nd (.nd (.nd .lf 172531216 .lf) 172531224 (.nd .lf 172531232 .lf)) 172531240 (.nd (.nd .lf 172531248 .lf) 172531344 (.nd .lf 172531416 .lf))))) 172531488 (.nd (.nd (.nd (.nd (.nd .lf 172531536 .lf) 172531544 (.nd .lf 172531552 .lf)) 172531560 (.nd (.nd .lf 172531600 .lf) 172531608 (.nd .lf 172531616 .lf))) 172531624 (.nd (.nd (.nd .lf 172531632 .lf) 172533760 (.nd .lf 172533768 .lf)) 172533792 (.nd (.nd .lf 172533824 .lf) 172533832 (.nd .lf 172533856 .lf)))) 172534048 (.nd (.nd (.nd (.nd .lf 172534272 .lf) 172534280 (.nd .lf 172534288 .lf)) 172534296 (.nd (.nd .lf 172534304 .lf) 172534312 (.nd .lf 172534336 .lf))) 172534344 (.nd (.nd (.nd .lf 172534352 .lf) 172534360 (.nd .lf 172534368 .lf)) 172534376 (.nd (.nd .lf 172534416 .lf) 172534488 (.nd .lf 172534560 .lf))))))))) 172534608 (.nd (.nd (.nd (.nd (.nd (.nd (.nd (.nd (.nd (.nd .lf 172534616 .lf) 172534624 .lf) 172534632 (.nd .lf 172534784 .lf)) 172534792 (.nd (.nd .lf 172534800 .lf) 172534808 (.nd .lf 172534816 .lf))) 172534824 (.nd (.nd (.nd .lf 172534832 .lf) 172534848 (.nd .lf 172534856 .lf)) 172534864 (.nd (.nd .lf 172534872 .lf) 172534880 (.nd .lf 172534888 .lf)))) 172534896 (.nd (.nd (.nd (.nd .lf 172534928 .lf) 172535000 (.nd .lf 172535072 .lf)) 172535120 (.nd (.nd .lf 172535128 .lf) 172535136 (.nd .lf 172535144 .lf))) 172535184 (.nd (.nd (.nd .lf 172535192 .lf) 172535200 (.nd .lf 172535208 .lf)) 172535216 (.nd (.nd .lf 172535296 .lf) 172535304 (.nd .lf 172535312 .lf))))) 172535320 (.nd (.nd (.nd (.nd (.nd .lf 172535328 .lf) 172535336 (.nd .lf 172535344 .lf)) 172535360 (.nd (.nd .lf 172535368 .lf) 172535376 (.nd .lf 172535384 .lf))) 172535392 (.nd (.nd (.nd .lf 172535400 .lf) 172535408 (.nd .lf 172535440 .lf)) 172535512 (.nd (.nd .lf 172535584 .lf) 172535632 (.nd .lf 172535640 .lf)))) 172535648 (.nd (.nd (.nd (.nd .lf 172535656 .lf) 172535696 (.nd .lf 172535704 .lf)) 172535712 (.nd (.nd .lf 172535720 .lf) 172535728 (.nd .lf 172562432 .lf))) 172562464 (.nd (.nd (.nd .lf 172562720 .lf) 172562944 (.nd .lf 172562952 .lf)) 172562960 (.nd (.nd .lf 172562968 .lf) 172562976 (.nd .lf 172562984 .lf)))))) 172563016 (.nd (.nd (.nd (.nd (.nd (.nd .lf 172563088 .lf) 172563160 (.nd .lf 172563232 .lf)) 172563272 (.nd (.nd .lf 172563280 .lf) 172563288 (.nd .lf 172563296 .lf))) 172563304 (.nd (.nd (.nd .lf 172563456 .lf) 172563464 (.nd .lf 172563472 .lf)) 172563480 (.nd (.nd .lf 172563488 .lf) 172563496 (.nd .lf 172563504 .lf)))) 172563528 (.nd (.nd (.nd (.nd .lf 172563600 .lf) 172563672 (.nd .lf 172563744 .lf)) 172563784 (.nd (.nd .lf 172563792 .lf) 172563800 (.nd .lf 172563808 .lf))) 172563816 (.nd (.nd (.nd .lf 172563848 .lf) 172563856 (.nd .lf 172563864 .lf)) 172563872 (.nd (.nd .lf 172563880 .lf) 172563888 (.nd .lf 172563968 .lf))))) 172563976 (.nd (.nd (.nd (.nd (.nd .lf 172563984 .lf) 172563992 (.nd .lf 172564000 .lf)) 172564008 (.nd (.nd .lf 172564016 .lf) 172564040 (.nd .lf 172564112 .lf))) 172564184 (.nd (.nd (.nd .lf 172564256 .lf) 172564296 (.nd .lf 172564304 .lf)) 172564312 (.nd (.nd .lf 172564320 .lf) 172564328 (.nd .lf 172564360 .lf)))) 172564368 (.nd (.nd (.nd (.nd .lf 172564376 .lf) 172564384 (.nd .lf 172564392 .lf)) 172564400 (.nd (.nd .lf 172565504 .lf) 172565520 (.nd .lf 172565648 .lf))) 172566016 (.nd (.nd (.nd .lf 172566024 .lf) 172566032 (.nd .lf 172566040 .lf)) 172566048 (.nd (.nd .lf 172566088 .lf) 172566160 (.nd .lf 172566208 .lf))))))) 172566216 (.nd (.nd (.nd (.nd (.nd (.nd (.nd .lf 172566224 .lf) 172566232 (.nd .lf 172566240 .lf)) 172566304 (.nd (.nd .lf 172566528 .lf) 172566536 (.nd .lf 172566544 .lf))) 172566552 (.nd (.nd (.nd .lf 172566560 .lf) 172566568 (.nd .lf 172566592 .lf)) 172566600 (.nd (.nd .lf 172566624 .lf) 172566656 (.nd .lf 172566664 .lf)))) 172566672 (.nd (.nd (.nd (.nd .lf 172566688 .lf) 172566720 (.nd .lf 172566728 .lf)) 172566736 (.nd (.nd .lf 172566744 .lf) 172566752 (.nd .lf 172566784 .lf))) 172566792 (.nd (.nd (.nd .lf 172566800 .lf) 172566808 (.nd .lf 172566816 .lf)) 172566824 (.nd (.nd .lf 172566888 .lf) 172567040 (.nd .lf 172567048 .lf))))) 172567056 (.nd (.nd (.nd (.nd (.nd .lf 172567064 .lf) 172567072 (.nd .lf 172567080 .lf)) 172567088 (.nd (.nd .lf 172567096 .lf) 172567104 (.nd .lf 172567112 .lf))) 172567120 (.nd (.nd (.nd .lf 172567128 .lf) 172567136 (.nd .lf 172567144 .lf)) 172567168 (.nd (.nd .lf 172567176 .lf) 172567184 (.nd .lf 172567192 .lf)))) 172567200 (.nd (.nd (.nd (.nd .lf 172567208 .lf) 172567232 (.nd .lf 172567240 .lf)) 172567248 (.nd (.nd .lf 172567256 .lf) 172567264 (.nd .lf 172567272 .lf))) 172567296 (.nd (.nd (.nd .lf 172567304 .lf) 172567312 (.nd .lf 172567320 .lf)) 172567328 (.nd (.nd .lf 172567336 .lf) 172567360 (.nd .lf 172567368 .lf)))))) 172567376 (.nd (.nd (.nd (.nd (.nd (.nd .lf 172567384 .lf) 172567392 (.nd .lf 172567400 .lf)) 172567408 (.nd (.nd .lf 172567416 .lf) 172567472 (.nd .lf 172567552 .lf))) 172567560 (.nd (.nd (.nd .lf 172567568 .lf) 172567576 (.nd .lf 172567584 .lf)) 172567592 (.nd (.nd .lf 172567600 .lf) 172567608 (.nd .lf 172567616 .lf)))) 172567624 (.nd (.nd (.nd (.nd .lf 172567632 .lf) 172567640 (.nd .lf 172567648 .lf)) 172567656 (.nd (.nd .lf 172567664 .lf) 172567680 (.nd .lf 172567688 .lf))) 172567696 (.nd (.nd (.nd .lf 172567704 .lf) 172567712 (.nd .lf 172567720 .lf)) 172567728 (.nd (.nd .lf 172567744 .lf) 172567752 (.nd .lf 172567760 .lf))))) 172567768 (.nd (.nd (.nd (.nd (.nd .lf 172567776 .lf) 172567784 (.nd .lf 172567792 .lf)) 172567808 (.nd (.nd .lf 172567816 .lf) 172567824 (.nd .lf 172567832 .lf))) 172567840 (.nd (.nd (.nd .lf 172567848 .lf) 172567856 (.nd .lf 172567872 .lf)) 172567880 (.nd (.nd .lf 172567888 .lf) 172567896 (.nd .lf 172567904 .lf)))) 172567912 (.nd (.nd (.nd (.nd .lf 172567920 .lf) 172567928 (.nd .lf 172567936 .lf)) 172567944 (.nd (.nd .lf 172567952 .lf) 172567960 (.nd .lf 172567968 .lf))) 172567976 (.nd (.nd (.nd .lf 172567984 .lf) 172567992 (.nd .lf 172568064 .lf)) 172568072 (.nd (.nd .lf 172568080 .lf) 172568088 (.nd .lf 172568096 .lf)))))))) 172568104 (.nd (.nd (.nd (.nd (.nd (.nd (.nd (.nd (.nd .lf 172568112 .lf) 172568120 .lf) 172568128 (.nd .lf 172568136 .lf)) 172568144 (.nd (.nd .lf 172568152 .lf) 172568160 (.nd .lf 172568168 .lf))) 172568176 (.nd (.nd (.nd .lf 172568192 .lf) 172568200 (.nd .lf 172568208 .lf)) 172568216 (.nd (.nd .lf 172568224 .lf) 172568232 (.nd .lf 172568240 .lf)))) 172568256 (.nd (.nd (.nd (.nd .lf 172568264 .lf) 172568272 (.nd .lf 172568280 .lf)) 172568288 (.nd (.nd .lf 172568296 .lf) 172568304 (.nd .lf 172568320 .lf))) 172568328 (.nd (.nd (.nd .lf 172568336 .lf) 172568344 (.nd .lf 172568352 .lf)) 172568360 (.nd (.nd .lf 172568368 .lf) 172568384 (.nd .lf 172568392 .lf))))) 172568400 (.nd (.nd (.nd (.nd (.nd .lf 172568408 .lf) 172568416 (.nd .lf 172568424 .lf)) 172568432 (.nd (.nd .lf 172568440 .lf) 172568448 (.nd .lf 172568456 .lf))) 172568464 (.nd (.nd (.nd .lf 172568472 .lf) 172568480 (.nd .lf 172568488 .lf)) 172568496 (.nd (.nd .lf 172568504 .lf) 287611392 (.nd .lf 287611432 .lf)))) 287611752 (.nd (.nd (.nd (.nd .lf 287611904 .lf) 287611944 (.nd .lf 287611952 .lf)) 287612264 (.nd (.nd .lf 287612328 .lf) 287612336 (.nd .lf 287612416 .lf))) 287612456 (.nd (.nd (.nd .lf 287612464 .lf) 287612776 (.nd .lf 287612840 .lf)) 287612848 (.nd (.nd .lf 287615488 .lf) 287615496 (.nd .lf 287615528 .lf)))))) 287615552 (.nd (.nd (.nd (.nd (.nd (.nd .lf 287615560 .lf) 287615592 (.nd .lf 287615848 .lf)) 287616000 (.nd (.nd .lf 287616008 .lf) 287616040 (.nd .lf 287616048 .lf))) 287616064 (.nd (.nd (.nd .lf 287616072 .lf) 287616104 (.nd .lf 287616112 .lf)) 287616360 (.nd (.nd .lf 287616424 .lf) 287616432 (.nd .lf 287616512 .lf)))) 287616520 (.nd (.nd (.nd (.nd .lf 287616552 .lf) 287616560 (.nd .lf 287616576 .lf)) 287616584 (.nd (.nd .lf 287616616 .lf) 287616624 (.nd .lf 287616872 .lf))) 287616936 (.nd (.nd (.nd .lf 287616944 .lf) 287644160 (.nd .lf 287644200 .lf)) 287644520 (.nd (.nd .lf 287644672 .lf) 287644712 (.nd .lf 287644720 .lf))))) 287645032 (.nd (.nd (.nd (.nd (.nd .lf 287645096 .lf) 287645104 (.nd .lf 287645184 .lf)) 287645224 (.nd (.nd .lf 287645232 .lf) 287645544 (.nd .lf 287645608 .lf))) 287645616 (.nd (.nd (.nd .lf 287648256 .lf) 287648264 (.nd .lf 287648272 .lf)) 287648296 (.nd (.nd .lf 287648320 .lf) 287648328 (.nd .lf 287648360 .lf)))) 287648384 (.nd (.nd (.nd (.nd .lf 287648392 .lf) 287648400 (.nd .lf 287648424 .lf)) 287648616 (.nd (.nd .lf 287648768 .lf) 287648776 (.nd .lf 287648784 .lf))) 287648808 (.nd (.nd (.nd .lf 287648816 .lf) 287648832 (.nd .lf 287648840 .lf)) 287648872 (.nd (.nd .lf 287648880 .lf) 287648896 (.nd .lf 287648904 .lf))))))) 287648912 (.nd (.nd (.nd (.nd (.nd (.nd (.nd .lf 287648936 .lf) 287648944 (.nd .lf 287649128 .lf)) 287649192 (.nd (.nd .lf 287649200 .lf) 287649280 (.nd .lf 287649288 .lf))) 287649296 (.nd (.nd (.nd .lf 287649320 .lf) 287649328 (.nd .lf 287649344 .lf)) 287649352 (.nd (.nd .lf 287649384 .lf) 287649392 (.nd .lf 287649408 .lf)))) 287649416 (.nd (.nd (.nd (.nd .lf 287649424 .lf) 287649448 (.nd .lf 287649456 .lf)) 287649640 (.nd (.nd .lf 287649704 .lf) 287649712 (.nd .lf 287873536 .lf))) 287873576 (.nd (.nd (.nd .lf 287873896 .lf) 287874048 (.nd .lf 287874088 .lf)) 287874096 (.nd (.nd .lf 287874408 .lf) 287874472 (.nd .lf 287874480 .lf))))) 287874560 (.nd (.nd (.nd (.nd (.nd .lf 287874600 .lf) 287874608 (.nd .lf 287874920 .lf)) 287874984 (.nd (.nd .lf 287874992 .lf) 287877632 (.nd .lf 287877640 .lf))) 287877672 (.nd (.nd (.nd .lf 287877696 .lf) 287877704 (.nd .lf 287877736 .lf)) 287877992 (.nd (.nd .lf 287878144 .lf) 287878152 (.nd .lf 287878184 .lf)))) 287878192 (.nd (.nd (.nd (.nd .lf 287878208 .lf) 287878216 (.nd .lf 287878248 .lf)) 287878256 (.nd (.nd .lf 287878504 .lf) 287878568 (.nd .lf 287878576 .lf))) 287878656 (.nd (.nd (.nd .lf 287878664 .lf) 287878696 (.nd .lf 287878704 .lf)) 287878720 (.nd (.nd .lf 287878728 .lf) 287878760 (.nd .lf 287878768 .lf)))))) 287879016 (.nd (.nd (.nd (.nd (.nd (.nd .lf 287879080 .lf) 287879088 (.nd .lf 287906304 .lf)) 287906344 (.nd (.nd .lf 287906664 .lf) 287906816 (.nd .lf 287906856 .lf))) 287906864 (.nd (.nd (.nd .lf 287907176 .lf) 287907240 (.nd .lf 287907248 .lf)) 287907328 (.nd (.nd .lf 287907368 .lf) 287907376 (.nd .lf 287907688 .lf)))) 287907752 (.nd (.nd (.nd (.nd .lf 287907760 .lf) 287910400 (.nd .lf 287910408 .lf)) 287910416 (.nd (.nd .lf 287910424 .lf) 287910440 (.nd .lf 287910464 .lf))) 287910472 (.nd (.nd (.nd .lf 287910504 .lf) 287910528 (.nd .lf 287910536 .lf)) 287910544 (.nd (.nd .lf 287910568 .lf) 287910592 (.nd .lf 287910600 .lf))))) 287910608 (.nd (.nd (.nd (.nd (.nd .lf 287910616 .lf) 287910632 (.nd .lf 287910760 .lf)) 287910912 (.nd (.nd .lf 287910920 .lf) 287910928 (.nd .lf 287910936 .lf))) 287910952 (.nd (.nd (.nd .lf 287910960 .lf) 287910976 (.nd .lf 287910984 .lf)) 287911016 (.nd (.nd .lf 287911024 .lf) 287911040 (.nd .lf 287911048 .lf)))) 287911056 (.nd (.nd (.nd (.nd .lf 287911080 .lf) 287911088 (.nd .lf 287911104 .lf)) 287911112 (.nd (.nd .lf 287911120 .lf) 287911128 (.nd .lf 287911144 .lf))) 287911152 (.nd (.nd (.nd .lf 287911272 .lf) 287911336 (.nd .lf 287911344 .lf)) 287911424 (.nd (.nd .lf 287911432 .lf) 287911440 (.nd .lf 287911448 .lf)))))))))) 287911464 (.nd (.nd (.nd (.nd (.nd (.nd (.nd (.nd (.nd (.nd (.nd .lf 287911472 .lf) 287911488 .lf) 287911496 (.nd .lf 287911528 .lf)) 287911536 (.nd (.nd .lf 287911552 .lf) 287911560 (.nd .lf 287911568 .lf))) 287911592 (.nd (.nd (.nd .lf 287911600 .lf) 287911616 (.nd .lf 287911624 .lf)) 287911632 (.nd (.nd .lf 287911640 .lf) 287911656 (.nd .lf 287911664 .lf)))) 287911784 (.nd (.nd (.nd (.nd .lf 287911848 .lf) 287911856 (.nd .lf 289708544 .lf)) 289708584 (.nd (.nd .lf 289708904 .lf) 289709056 (.nd .lf 289709096 .lf))) 289709104 (.nd (.nd (.nd .lf 289709416 .lf) 289709480 (.nd .lf 289709488 .lf)) 289709568 (.nd (.nd .lf 289709608 .lf) 289709616 (.nd .lf 289709928 .lf))))) 289709992 (.nd (.nd (.nd (.nd (.nd .lf 289710000 .lf) 289712640 (.nd .lf 289712648 .lf)) 289712680 (.nd (.nd .lf 289712704 .lf) 289712712 (.nd .lf 289712744 .lf))) 289713000 (.nd (.nd (.nd .lf 289713152 .lf) 289713160 (.nd .lf 289713192 .lf)) 289713200 (.nd (.nd .lf 289713216 .lf) 289713224 (.nd .lf 289713256 .lf)))) 289713264 (.nd (.nd (.nd (.nd .lf 289713512 .lf) 289713576 (.nd .lf 289713584 .lf)) 289713664 (.nd (.nd .lf 289713672 .lf) 289713704 (.nd .lf 289713712 .lf))) 289713728 (.nd (.nd (.nd .lf 289713736 .lf) 289713768 (.nd .lf 289713776 .lf)) 289714024 (.nd (.nd .lf 289714088 .lf) 289714096 (.nd .lf 289741312 .lf)))))) 289741352 (.nd (.nd (.nd (.nd (.nd (.nd .lf 289741672 .lf) 289741824 (.nd .lf 289741864 .lf)) 289741872 (.nd (.nd .lf 289742184 .lf) 289742248 (.nd .lf 289742256 .lf))) 289742336 (.nd (.nd (.nd .lf 289742376 .lf) 289742384 (.nd .lf 289742696 .lf)) 289742760 (.nd (.nd .lf 289742768 .lf) 289745408 (.nd .lf 289745416 .lf)))) 289745424 (.nd (.nd (.nd (.nd .lf 289745448 .lf) 289745472 (.nd .lf 289745480 .lf)) 289745512 (.nd (.nd .lf 289745536 .lf) 289745544 (.nd .lf 289745552 .lf))) 289745576 (.nd (.nd (.nd .lf 289745768 .lf) 289745920 (.nd .lf 289745928 .lf)) 289745936 (.nd (.nd .lf 289745960 .lf) 289745968 (.nd .lf 289745984 .lf))))) 289745992 (.nd (.nd (.nd (.nd (.nd .lf 289746024 .lf) 289746032 (.nd .lf 289746048 .lf)) 289746056 (.nd (.nd .lf 289746064 .lf) 289746088 (.nd .lf 289746096 .lf))) 289746280 (.nd (.nd (.nd .lf 289746344 .lf) 289746352 (.nd .lf 289746432 .lf)) 289746440 (.nd (.nd .lf 289746448 .lf) 289746472 (.nd .lf 289746480 .lf)))) 289746496 (.nd (.nd (.nd (.nd .lf 289746504 .lf) 289746536 (.nd .lf 289746544 .lf)) 289746560 (.nd (.nd .lf 289746568 .lf) 289746576 (.nd .lf 289746600 .lf))) 289746608 (.nd (.nd (.nd .lf 289746792 .lf) 289746856 (.nd .lf 289746864 .lf)) 289970688 (.nd (.nd .lf 289970728 .lf) 289971048 (.nd .lf 289971200 .lf))))))) 289971240 (.nd (.nd (.nd (.nd (.nd (.nd (.nd .lf 289971248 .lf) 289971560 (.nd .lf 289971624 .lf)) 289971632 (.nd (.nd .lf 289971712 .lf) 289971752 (.nd .lf 289971760 .lf))) 289972072 (.nd (.nd (.nd .lf 289972136 .lf) 289972144 (.nd .lf 289974784 .lf)) 289974792 (.nd (.nd .lf 289974824 .lf) 289974848 (.nd .lf 289974856 .lf)))) 289974888 (.nd (.nd (.nd (.nd .lf 289975144 .lf) 289975296 (.nd .lf 289975304 .lf)) 289975336 (.nd (.nd .lf 289975344 .lf) 289975360 (.nd .lf 289975368 .lf))) 289975400 (.nd (.nd (.nd .lf 289975408 .lf) 289975656 (.nd .lf 289975720 .lf)) 289975728 (.nd (.nd .lf 289975808 .lf) 289975816 (.nd .lf 289975848 .lf))))) 289975856 (.nd (.nd (.nd (.nd (.nd .lf 289975872 .lf) 289975880 (.nd .lf 289975912 .lf)) 289975920 (.nd (.nd .lf 289976168 .lf) 289976232 (.nd .lf 289976240 .lf))) 290003456 (.nd (.nd (.nd .lf 290003496 .lf) 290003816 (.nd .lf 290003968 .lf)) 290004008 (.nd (.nd .lf 290004016 .lf) 290004328 (.nd .lf 290004392 .lf)))) 290004400 (.nd (.nd (.nd (.nd .lf 290004480 .lf) 290004520 (.nd .lf 290004528 .lf)) 290004840 (.nd (.nd .lf 290004904 .lf) 290004912 (.nd .lf 290006528 .lf))) 290006552 (.nd (.nd (.nd .lf 290006744 .lf) 290007040 (.nd .lf 290007048 .lf)) 290007056 (.nd (.nd .lf 290007064 .lf) 290007072 (.nd .lf 290007080 .lf)))))) 290007112 (.nd (.nd (.nd (.nd (.nd (.nd .lf 290007184 .lf) 290007256 (.nd .lf 290007296 .lf)) 290007304 (.nd (.nd .lf 290007312 .lf) 290007320 (.nd .lf 290007328 .lf))) 290007336 (.nd (.nd (.nd .lf 290007400 .lf) 290007552 (.nd .lf 290007560 .lf)) 290007568 (.nd (.nd .lf 290007576 .lf) 290007584 (.nd .lf 290007592 .lf)))) 290007616 (.nd (.nd (.nd (.nd .lf 290007624 .lf) 290007656 (.nd .lf 290007680 .lf)) 290007688 (.nd (.nd .lf 290007696 .lf) 290007720 (.nd .lf 290007744 .lf))) 290007752 (.nd (.nd (.nd .lf 290007760 .lf) 290007768 (.nd .lf 290007784 .lf)) 290007808 (.nd (.nd .lf 290007816 .lf) 290007824 (.nd .lf 290007832 .lf))))) 290007840 (.nd (.nd (.nd (.nd (.nd .lf 290007848 .lf) 290007912 (.nd .lf 290008064 .lf)) 290008072 (.nd (.nd .lf 290008080 .lf) 290008088 (.nd .lf 290008096 .lf))) 290008104 (.nd (.nd (.nd .lf 290008112 .lf) 290008128 (.nd .lf 290008136 .lf)) 290008168 (.nd (.nd .lf 290008176 .lf) 290008192 (.nd .lf 290008200 .lf)))) 290008208 (.nd (.nd (.nd (.nd .lf 290008232 .lf) 290008240 (.nd .lf 290008256 .lf)) 290008264 (.nd (.nd .lf 290008272 .lf) 290008280 (.nd .lf 290008296 .lf))) 290008304 (.nd (.nd (.nd .lf 290008320 .lf) 290008328 (.nd .lf 290008336 .lf)) 290008344 (.nd (.nd .lf 290008352 .lf) 290008360 (.nd .lf 290008368 .lf)))))))) 290008424 (.nd (.nd (.nd (.nd (.nd (.nd (.nd (.nd (.nd .lf 290008488 .lf) 290008496 .lf) 290008576 (.nd .lf 290008584 .lf)) 290008592 (.nd (.nd .lf 290008600 .lf) 290008608 (.nd .lf 290008616 .lf))) 290008624 (.nd (.nd (.nd .lf 290008640 .lf) 290008648 (.nd .lf 290008680 .lf)) 290008688 (.nd (.nd .lf 290008704 .lf) 290008712 (.nd .lf 290008720 .lf)))) 290008744 (.nd (.nd (.nd (.nd .lf 290008752 .lf) 290008768 (.nd .lf 290008776 .lf)) 290008784 (.nd (.nd .lf 290008792 .lf) 290008808 (.nd .lf 290008816 .lf))) 290008832 (.nd (.nd (.nd .lf 290008840 .lf) 290008848 (.nd .lf 290008856 .lf)) 290008864 (.nd (.nd .lf 290008872 .lf) 290008880 (.nd .lf 290008936 .lf))))) 290009000 (.nd (.nd (.nd (.nd (.nd .lf 290009008 .lf) 304388608 (.nd .lf 304388648 .lf)) 304388968 (.nd (.nd .lf 304389120 .lf) 304389152 (.nd .lf 304389160 .lf))) 304389168 (.nd (.nd (.nd .lf 304389408 .lf) 304389480 (.nd .lf 304389536 .lf)) 304389544 (.nd (.nd .lf 304389552 .lf) 304389632 (.nd .lf 304389664 .lf)))) 304389672 (.nd (.nd (.nd (.nd .lf 304389680 .lf) 304389920 (.nd .lf 304389992 .lf)) 304390048 (.nd (.nd .lf 304390056 .lf) 304390064 (.nd .lf 304392704 .lf))) 304392712 (.nd (.nd (.nd .lf 304392744 .lf) 304392768 (.nd .lf 304392776 .lf)) 304392808 (.nd (.nd .lf 304393064 .lf) 304393216 (.nd .lf 304393224 .lf)))))) 304393248 (.nd (.nd (.nd (.nd (.nd (.nd .lf 304393256 .lf) 304393264 (.nd .lf 304393280 .lf)) 304393288 (.nd (.nd .lf 304393312 .lf) 304393320 (.nd .lf 304393328 .lf))) 304393504 (.nd (.nd (.nd .lf 304393576 .lf) 304393632 (.nd .lf 304393640 .lf)) 304393648 (.nd (.nd .lf 304393728 .lf) 304393736 (.nd .lf 304393760 .lf)))) 304393768 (.nd (.nd (.nd (.nd .lf 304393776 .lf) 304393792 (.nd .lf 304393800 .lf)) 304393824 (.nd (.nd .lf 304393832 .lf) 304393840 (.nd .lf 304394016 .lf))) 304394088 (.nd (.nd (.nd .lf 304394144 .lf) 304394152 (.nd .lf 304394160 .lf)) 304421376 (.nd (.nd .lf 304421416 .lf) 304421736 (.nd .lf 304421888 .lf))))) 304421920 (.nd (.nd (.nd (.nd (.nd .lf 304421928 .lf) 304421936 (.nd .lf 304422176 .lf)) 304422248 (.nd (.nd .lf 304422304 .lf) 304422312 (.nd .lf 304422320 .lf))) 304422400 (.nd (.nd (.nd .lf 304422432 .lf) 304422440 (.nd .lf 304422448 .lf)) 304422688 (.nd (.nd .lf 304422760 .lf) 304422816 (.nd .lf 304422824 .lf)))) 304422832 (.nd (.nd (.nd (.nd .lf 304425472 .lf) 304425480 (.nd .lf 304425488 .lf)) 304425512 (.nd (.nd .lf 304425536 .lf) 304425544 (.nd .lf 304425576 .lf))) 304425600 (.nd (.nd (.nd .lf 304425608 .lf) 304425616 (.nd .lf 304425640 .lf)) 304425832 (.nd (.nd .lf 304425984 .lf) 304425992 (.nd .lf 304426000 .lf))))))) 304426016 (.nd (.nd (.nd (.nd (.nd (.nd (.nd .lf 304426024 .lf) 304426032 (.nd .lf 304426048 .lf)) 304426056 (.nd (.nd .lf 304426080 .lf) 304426088 (.nd .lf 304426096 .lf))) 304426112 (.nd (.nd (.nd .lf 304426120 .lf) 304426128 (.nd .lf 304426144 .lf)) 304426152 (.nd (.nd .lf 304426160 .lf) 304426272 (.nd .lf 304426344 .lf)))) 304426400 (.nd (.nd (.nd (.nd .lf 304426408 .lf) 304426416 (.nd .lf 304426496 .lf)) 304426504 (.nd (.nd .lf 304426512 .lf) 304426528 (.nd .lf 304426536 .lf))) 304426544 (.nd (.nd (.nd .lf 304426560 .lf) 304426568 (.nd .lf 304426592 .lf)) 304426600 (.nd (.nd .lf 304426608 .lf) 304426624 (.nd .lf 304426632 .lf))))) 304426640 (.nd (.nd (.nd (.nd (.nd .lf 304426656 .lf) 304426664 (.nd .lf 304426672 .lf)) 304426784 (.nd (.nd .lf 304426856 .lf) 304426912 (.nd .lf 304426920 .lf))) 304426928 (.nd (.nd (.nd .lf 304650752 .lf) 304650792 (.nd .lf 304651112 .lf)) 304651264 (.nd (.nd .lf 304651296 .lf) 304651304 (.nd .lf 304651312 .lf)))) 304651552 (.nd (.nd (.nd (.nd .lf 304651624 .lf) 304651680 (.nd .lf 304651688 .lf)) 304651696 (.nd (.nd .lf 304651776 .lf) 304651808 (.nd .lf 304651816 .lf))) 304651824 (.nd (.nd (.nd .lf 304652064 .lf) 304652136 (.nd .lf 304652192 .lf)) 304652200 (.nd (.nd .lf 304652208 .lf) 304654848 (.nd .lf 304654856 .lf)))))) 304654888 (.nd (.nd (.nd (.nd (.nd (.nd .lf 304654912 .lf) 304654920 (.nd .lf 304654952 .lf)) 304655208 (.nd (.nd .lf 304655360 .lf) 304655368 (.nd .lf 304655392 .lf))) 304655400 (.nd (.nd (.nd .lf 304655408 .lf) 304655424 (.nd .lf 304655432 .lf)) 304655456 (.nd (.nd .lf 304655464 .lf) 304655472 (.nd .lf 304655648 .lf)))) 304655720 (.nd (.nd (.nd (.nd .lf 304655776 .lf) 304655784 (.nd .lf 304655792 .lf)) 304655872 (.nd (.nd .lf 304655880 .lf) 304655904 (.nd .lf 304655912 .lf))) 304655920 (.nd (.nd (.nd .lf 304655936 .lf) 304655944 (.nd .lf 304655968 .lf)) 304655976 (.nd (.nd .lf 304655984 .lf) 304656160 (.nd .lf 304656232 .lf))))) 304656288 (.nd (.nd (.nd (.nd (.nd .lf 304656296 .lf) 304656304 (.nd .lf 304683520 .lf)) 304683560 (.nd (.nd .lf 304683880 .lf) 304684032 (.nd .lf 304684064 .lf))) 304684072 (.nd (.nd (.nd .lf 304684080 .lf) 304684320 (.nd .lf 304684392 .lf)) 304684448 (.nd (.nd .lf 304684456 .lf) 304684464 (.nd .lf 304684544 .lf)))) 304684576 (.nd (.nd (.nd (.nd .lf 304684584 .lf) 304684592 (.nd .lf 304684832 .lf)) 304684904 (.nd (.nd .lf 304684960 .lf) 304684968 (.nd .lf 304684976 .lf))) 304687616 (.nd (.nd (.nd .lf 304687624 .lf) 304687632 (.nd .lf 304687640 .lf)) 304687656 (.nd (.nd .lf 304687680 .lf) 304687688 (.nd .lf 304687720 .lf))))))))) 304687744 (.nd (.nd (.nd (.nd (.nd (.nd (.nd (.nd (.nd (.nd .lf 304687752 .lf) 304687760 .lf) 304687784 (.nd .lf 304687808 .lf)) 304687816 (.nd (.nd .lf 304687824 .lf) 304687832 (.nd .lf 304687848 .lf))) 304687976 (.nd (.nd (.nd .lf 304688128 .lf) 304688136 (.nd .lf 304688144 .lf)) 304688152 (.nd (.nd .lf 304688160 .lf) 304688168 (.nd .lf 304688176 .lf)))) 304688192 (.nd (.nd (.nd (.nd .lf 304688200 .lf) 304688224 (.nd .lf 304688232 .lf)) 304688240 (.nd (.nd .lf 304688256 .lf) 304688264 (.nd .lf 304688272 .lf))) 304688288 (.nd (.nd (.nd .lf 304688296 .lf) 304688304 (.nd .lf 304688320 .lf)) 304688328 (.nd (.nd .lf 304688336 .lf) 304688344 (.nd .lf 304688352 .lf))))) 304688360 (.nd (.nd (.nd (.nd (.nd .lf 304688368 .lf) 304688416 (.nd .lf 304688488 .lf)) 304688544 (.nd (.nd .lf 304688552 .lf) 304688560 (.nd .lf 304688640 .lf))) 304688648 (.nd (.nd (.nd .lf 304688656 .lf) 304688664 (.nd .lf 304688672 .lf)) 304688680 (.nd (.nd .lf 304688688 .lf) 304688704 (.nd .lf 304688712 .lf)))) 304688736 (.nd (.nd (.nd (.nd .lf 304688744 .lf) 304688752 (.nd .lf 304688768 .lf)) 304688776 (.nd (.nd .lf 304688784 .lf) 304688800 (.nd .lf 304688808 .lf))) 304688816 (.nd (.nd (.nd .lf 304688832 .lf) 304688840 (.nd .lf 304688848 .lf)) 304688856 (.nd (.nd .lf 304688864 .lf) 304688872 (.nd .lf 304688880 .lf)))))) 304688928 (.nd (.nd (.nd (.nd (.nd (.nd .lf 304689000 .lf) 304689056 (.nd .lf 304689064 .lf)) 304689072 (.nd (.nd .lf 306485760 .lf) 306485800 (.nd .lf 306486120 .lf))) 306486272 (.nd (.nd (.nd .lf 306486296 .lf) 306486304 (.nd .lf 306486312 .lf)) 306486320 (.nd (.nd .lf 306486488 .lf) 306486560 (.nd .lf 306486632 .lf)))) 306486680 (.nd (.nd (.nd (.nd .lf 306486688 .lf) 306486696 (.nd .lf 306486704 .lf)) 306486784 (.nd (.nd .lf 306486808 .lf) 306486816 (.nd .lf 306486824 .lf))) 306486832 (.nd (.nd (.nd .lf 306487000 .lf) 306487072 (.nd .lf 306487144 .lf)) 306487192 (.nd (.nd .lf 306487200 .lf) 306487208 (.nd .lf 306487216 .lf))))) 306489856 (.nd (.nd (.nd (.nd (.nd .lf 306489864 .lf) 306489896 (.nd .lf 306489920 .lf)) 306489928 (.nd (.nd .lf 306489960 .lf) 306490216 (.nd .lf 306490368 .lf))) 306490376 (.nd (.nd (.nd .lf 306490392 .lf) 306490400 (.nd .lf 306490408 .lf)) 306490416 (.nd (.nd .lf 306490432 .lf) 306490440 (.nd .lf 306490456 .lf)))) 306490464 (.nd (.nd (.nd (.nd .lf 306490472 .lf) 306490480 (.nd .lf 306490584 .lf)) 306490656 (.nd (.nd .lf 306490728 .lf) 306490776 (.nd .lf 306490784 .lf))) 306490792 (.nd (.nd (.nd .lf 306490800 .lf) 306490880 (.nd .lf 306490888 .lf)) 306490904 (.nd (.nd .lf 306490912 .lf) 306490920 (.nd .lf 306490928 .lf))))))) 306490944 (.nd (.nd (.nd (.nd (.nd (.nd (.nd .lf 306490952 .lf) 306490968 (.nd .lf 306490976 .lf)) 306490984 (.nd (.nd .lf 306490992 .lf) 306491096 (.nd .lf 306491168 .lf))) 306491240 (.nd (.nd (.nd .lf 306491288 .lf) 306491296 (.nd .lf 306491304 .lf)) 306491312 (.nd (.nd .lf 306518528 .lf) 306518568 (.nd .lf 306518888 .lf)))) 306519040 (.nd (.nd (.nd (.nd .lf 306519064 .lf) 306519072 (.nd .lf 306519080 .lf)) 306519088 (.nd (.nd .lf 306519256 .lf) 306519328 (.nd .lf 306519400 .lf))) 306519448 (.nd (.nd (.nd .lf 306519456 .lf) 306519464 (.nd .lf 306519472 .lf)) 306519552 (.nd (.nd .lf 306519576 .lf) 306519584 (.nd .lf 306519592 .lf))))) 306519600 (.nd (.nd (.nd (.nd (.nd .lf 306519768 .lf) 306519840 (.nd .lf 306519912 .lf)) 306519960 (.nd (.nd .lf 306519968 .lf) 306519976 (.nd .lf 306519984 .lf))) 306522624 (.nd (.nd (.nd .lf 306522632 .lf) 306522640 (.nd .lf 306522664 .lf)) 306522688 (.nd (.nd .lf 306522696 .lf) 306522728 (.nd .lf 306522752 .lf)))) 306522760 (.nd (.nd (.nd (.nd .lf 306522768 .lf) 306522792 (.nd .lf 306522984 .lf)) 306523136 (.nd (.nd .lf 306523144 .lf) 306523152 (.nd .lf 306523160 .lf))) 306523168 (.nd (.nd (.nd .lf 306523176 .lf) 306523184 (.nd .lf 306523200 .lf)) 306523208 (.nd (.nd .lf 306523224 .lf) 306523232 (.nd .lf 306523240 .lf)))))) 306523248 (.nd (.nd (.nd (.nd (.nd (.nd .lf 306523264 .lf) 306523272 (.nd .lf 306523280 .lf)) 306523288 (.nd (.nd .lf 306523296 .lf) 306523304 (.nd .lf 306523312 .lf))) 306523352 (.nd (.nd (.nd .lf 306523424 .lf) 306523496 (.nd .lf 306523544 .lf)) 306523552 (.nd (.nd .lf 306523560 .lf) 306523568 (.nd .lf 306523648 .lf)))) 306523656 (.nd (.nd (.nd (.nd .lf 306523664 .lf) 306523672 (.nd .lf 306523680 .lf)) 306523688 (.nd (.nd .lf 306523696 .lf) 306523712 (.nd .lf 306523720 .lf))) 306523736 (.nd (.nd (.nd .lf 306523744 .lf) 306523752 (.nd .lf 306523760 .lf)) 306523776 (.nd (.nd .lf 306523784 .lf) 306523792 (.nd .lf 306523800 .lf))))) 306523808 (.nd (.nd (.nd (.nd (.nd .lf 306523816 .lf) 306523824 (.nd .lf 306523864 .lf)) 306523936 (.nd (.nd .lf 306524008 .lf) 306524056 (.nd .lf 306524064 .lf))) 306524072 (.nd (.nd (.nd .lf 306524080 .lf) 306747904 (.nd .lf 306747944 .lf)) 306748264 (.nd (.nd .lf 306748416 .lf) 306748432 (.nd .lf 306748440 .lf)))) 306748448 (.nd (.nd (.nd (.nd .lf 306748456 .lf) 306748464 (.nd .lf 306748560 .lf)) 306748632 (.nd (.nd .lf 306748704 .lf) 306748776 (.nd .lf 306748816 .lf))) 306748824 (.nd (.nd (.nd .lf 306748832 .lf) 306748840 (.nd .lf 306748848 .lf)) 306748928 (.nd (.nd .lf 306748944 .lf) 306748952 (.nd .lf 306748960 .lf)))))))) 306748968 (.nd (.nd (.nd (.nd (.nd (.nd (.nd (.nd (.nd .lf 306748976 .lf) 306749072 .lf) 306749144 (.nd .lf 306749216 .lf)) 306749288 (.nd (.nd .lf 306749328 .lf) 306749336 (.nd .lf 306749344 .lf))) 306749352 (.nd (.nd (.nd .lf 306749360 .lf) 306752000 (.nd .lf 306752008 .lf)) 306752040 (.nd (.nd .lf 306752064 .lf) 306752072 (.nd .lf 306752104 .lf)))) 306752360 (.nd (.nd (.nd (.nd .lf 306752512 .lf) 306752520 (.nd .lf 306752528 .lf)) 306752536 (.nd (.nd .lf 306752544 .lf) 306752552 (.nd .lf 306752560 .lf))) 306752576 (.nd (.nd (.nd .lf 306752584 .lf) 306752592 (.nd .lf 306752600 .lf)) 306752608 (.nd (.nd .lf 306752616 .lf) 306752624 (.nd .lf 306752656 .lf))))) 306752728 (.nd (.nd (.nd (.nd (.nd .lf 306752800 .lf) 306752872 (.nd .lf 306752912 .lf)) 306752920 (.nd (.nd .lf 306752928 .lf) 306752936 (.nd .lf 306752944 .lf))) 306753024 (.nd (.nd (.nd .lf 306753032 .lf) 306753040 (.nd .lf 306753048 .lf)) 306753056 (.nd (.nd .lf 306753064 .lf) 306753072 (.nd .lf 306753088 .lf)))) 306753096 (.nd (.nd (.nd (.nd .lf 306753104 .lf) 306753112 (.nd .lf 306753120 .lf)) 306753128 (.nd (.nd .lf 306753136 .lf) 306753168 (.nd .lf 306753240 .lf))) 306753312 (.nd (.nd (.nd .lf 306753384 .lf) 306753424 (.nd .lf 306753432 .lf)) 306753440 (.nd (.nd .lf 306753448 .lf) 306753456 (.nd .lf 306780672 .lf)))))) 306780712 (.nd (.nd (.nd (.nd (.nd (.nd .lf 306781032 .lf) 306781184 (.nd .lf 306781192 .lf)) 306781200 (.nd (.nd .lf 306781208 .lf) 306781216 (.nd .lf 306781224 .lf))) 306781232 (.nd (.nd (.nd .lf 306781256 .lf) 306781328 (.nd .lf 306781400 .lf)) 306781472 (.nd (.nd .lf 306781544 .lf) 306781576 (.nd .lf 306781584 .lf)))) 306781592 (.nd (.nd (.nd (.nd .lf 306781600 .lf) 306781608 (.nd .lf 306781616 .lf)) 306781696 (.nd (.nd .lf 306781704 .lf) 306781712 (.nd .lf 306781720 .lf))) 306781728 (.nd (.nd (.nd .lf 306781736 .lf) 306781744 (.nd .lf 306781768 .lf)) 306781840 (.nd (.nd .lf 306781912 .lf) 306781984 (.nd .lf 306782056 .lf))))) 306782088 (.nd (.nd (.nd (.nd (.nd .lf 306782096 .lf) 306782104 (.nd .lf 306782112 .lf)) 306782120 (.nd (.nd .lf 306782128 .lf) 306783744 (.nd .lf 306783768 .lf))) 306783960 (.nd (.nd (.nd .lf 306784256 .lf) 306784264 (.nd .lf 306784272 .lf)) 306784280 (.nd (.nd .lf 306784288 .lf) 306784296 (.nd .lf 306784328 .lf)))) 306784400 (.nd (.nd (.nd (.nd .lf 306784472 .lf) 306784512 (.nd .lf 306784520 .lf)) 306784528 (.nd (.nd .lf 306784536 .lf) 306784544 (.nd .lf 306784552 .lf))) 306784616 (.nd (.nd (.nd .lf 306784768 .lf) 306784776 (.nd .lf 306784784 .lf)) 306784792 (.nd (.nd .lf 306784800 .lf) 306784808 (.nd .lf 306784816 .lf))))))) 306784832 (.nd (.nd (.nd (.nd (.nd (.nd (.nd .lf 306784840 .lf) 306784872 (.nd .lf 306784896 .lf)) 306784904 (.nd (.nd .lf 306784912 .lf) 306784936 (.nd .lf 306784960 .lf))) 306784968 (.nd (.nd (.nd .lf 306784976 .lf) 306784984 (.nd .lf 306785000 .lf)) 306785024 (.nd (.nd .lf 306785032 .lf) 306785040 (.nd .lf 306785048 .lf)))) 306785056 (.nd (.nd (.nd (.nd .lf 306785064 .lf) 306785088 (.nd .lf 306785096 .lf)) 306785104 (.nd (.nd .lf 306785112 .lf) 306785120 (.nd .lf 306785128 .lf))) 306785136 (.nd (.nd (.nd .lf 306785200 .lf) 306785280 (.nd .lf 306785288 .lf)) 306785296 (.nd (.nd .lf 306785304 .lf) 306785312 (.nd .lf 306785320 .lf))))) 306785328 (.nd (.nd (.nd (.nd (.nd .lf 306785336 .lf) 306785344 (.nd .lf 306785352 .lf)) 306785360 (.nd (.nd .lf 306785368 .lf) 306785376 (.nd .lf 306785384 .lf))) 306785392 (.nd (.nd (.nd .lf 306785408 .lf) 306785416 (.nd .lf 306785424 .lf)) 306785432 (.nd (.nd .lf 306785440 .lf) 306785448 (.nd .lf 306785456 .lf)))) 306785472 (.nd (.nd (.nd (.nd .lf 306785480 .lf) 306785488 (.nd .lf 306785496 .lf)) 306785504 (.nd (.nd .lf 306785512 .lf) 306785520 (.nd .lf 306785536 .lf))) 306785544 (.nd (.nd (.nd .lf 306785552 .lf) 306785560 (.nd .lf 306785568 .lf)) 306785576 (.nd (.nd .lf 306785584 .lf) 306785600 (.nd .lf 306785608 .lf)))))) 306785616 (.nd (.nd (.nd (.nd (.nd (.nd .lf 306785624 .lf) 306785632 (.nd .lf 306785640 .lf)) 306785648 (.nd (.nd .lf 306785664 .lf) 306785672 (.nd .lf 306785680 .lf))) 306785688 (.nd (.nd (.nd .lf 306785696 .lf) 306785704 (.nd .lf 306785712 .lf)) 306785720 (.nd (.nd .lf 306785792 .lf) 306785800 (.nd .lf 306785808 .lf)))) 306785816 (.nd (.nd (.nd (.nd .lf 306785824 .lf) 306785832 (.nd .lf 306785840 .lf)) 306785848 (.nd (.nd .lf 306785856 .lf) 306785864 (.nd .lf 306785872 .lf))) 306785880 (.nd (.nd (.nd .lf 306785888 .lf) 306785896 (.nd .lf 306785904 .lf)) 306785920 (.nd (.nd .lf 306785928 .lf) 306785936 (.nd .lf 306785944 .lf))))) 306785952 (.nd (.nd (.nd (.nd (.nd .lf 306785960 .lf) 306785968 (.nd .lf 306785984 .lf)) 306785992 (.nd (.nd .lf 306786000 .lf) 306786008 (.nd .lf 306786016 .lf))) 306786024 (.nd (.nd (.nd .lf 306786032 .lf) 306786048 (.nd .lf 306786056 .lf)) 306786064 (.nd (.nd .lf 306786072 .lf) 306786080 (.nd .lf 306786088 .lf)))) 306786096 (.nd (.nd (.nd (.nd .lf 306786112 .lf) 306786120 (.nd .lf 306786128 .lf)) 306786136 (.nd (.nd .lf 306786144 .lf) 306786152 (.nd .lf 306786160 .lf))) 306786176 (.nd (.nd (.nd .lf 306786184 .lf) 306786192 (.nd .lf 306786200 .lf)) 306786208 (.nd (.nd .lf 306786216 .lf) 306786224 (.nd .lf 306786232 .lf))))))))))))
theorem n_2_7_2 : ∀ s, Reach 2 7 2 s → acc s = false := clos_ok (p := 2) (t := 7) (r := 2) (T := t_2_7_2) (by decide +kernel)
theorem y_3_1_0 : ∃ s, Reach 3 1 0 s ∧ acc s = true := path_ok (l := []) (by decide +kernel)
def t_3_2_0 : Tr := (.nd (.nd .lf 8192 .lf) 8320 (.nd .lf 8336 .lf))
theorem n_3_2_0 : ∀ s, Reach 3 2 0 s → acc s = false := clos_ok (p := 3) (t := 2) (r := 0) (T := t_3_2_0) (by decide +kernel)
theorem y_3_3_1 : ∃ s, Reach 3 3 1 s ∧ acc s = true := path_ok (l := [0, 2, 0, 0, 1, 0, 0]) (by decide +kernel)
theorem y_3_4_1 : ∃ s, Reach 3 4 1 s ∧ acc s = true := path_ok (l := [0, 2, 0, 4, 0, 0, 3, 0, 1, 0, 0]) (by decide +kernel)
def t_3_5_1 : Tr := (.nd (.nd (.nd (.nd (.nd (.nd (.nd (.nd .lf 20480 .lf) 20800 (.nd .lf 20840 .lf)) 53248 (.nd (.nd .lf 53312 .lf) 53320 (.nd .lf 53568 .lf))) 53576 (.nd (.nd (.nd .lf 53608 .lf) 53760 (.nd .lf 53824 .lf)) 53832 (.nd (.nd .lf 54080 .lf) 54088 (.nd .lf 54120 .lf)))) 315392 (.nd (.nd (.nd (.nd .lf 315456 .lf) 315464 (.nd .lf 315520 .lf)) 315528 (.nd (.nd .lf 315536 .lf) 315712 (.nd .lf 315720 .lf))) 315728 (.nd (.nd (.nd .lf 315752 .lf) 315968 (.nd .lf 315976 .lf)) 316040 (.nd (.nd .lf 316232 .lf) 316416 .lf)))) 316480 (.nd (.nd (.nd (.nd (.nd .lf 316488 .lf) 316544 (.nd .lf 316552 .lf)) 316560 (.nd (.nd .lf 316736 .lf) 316744 (.nd .lf 316752 .lf))) 316776 (.nd (.nd (.nd .lf 2412544 .lf) 2412608 (.nd .lf 2412616 .lf)) 2412672 (.nd (.nd .lf 2412680 .lf) 2412688 .lf))) 2412736 (.nd (.nd (.nd (.nd .lf 2412744 .lf) 2412752 (.nd .lf 2412760 .lf)) 2412864 (.nd (.nd .lf 2412872 .lf) 2412880 (.nd .lf 2412888 .lf))) 2412904 (.nd (.nd (.nd .lf 2413120 .lf) 2413128 (.nd .lf 2413192 .lf)) 2413256 (.nd (.nd .lf 2413384 .lf) 2413696 .lf))))) 2413704 (.nd (.nd (.nd (.nd (.nd (.nd .lf 2413712 .lf) 2413776 (.nd .lf 2413904 .lf)) 2414080 (.nd (.nd .lf 2414144 .lf) 2414152 (.nd .lf 2414208 .lf))) 2414216 (.nd (.nd (.nd .lf 2414224 .lf) 2414272 (.nd .lf 2414280 .lf)) 2414288 (.nd (.nd .lf 2414296 .lf) 2414400 .lf))) 2414408 (.nd (.nd (.nd (.nd .lf 2414416 .lf) 2414424 (.nd .lf 2414440 .lf)) 19177472 (.nd (.nd .lf 19177600 .lf) 19177616 (.nd .lf 19177664 .lf))) 19177680 (.nd (.nd (.nd .lf 19177688 .lf) 19178624 (.nd .lf 19178640 .lf)) 19178704 (.nd (.nd .lf 19179200 .lf) 19179216 .lf)))) 19179224 (.nd (.nd (.nd (.nd (.nd .lf 19181568 .lf) 19181632 (.nd .lf 19181640 .lf)) 19181696 (.nd (.nd .lf 19181712 .lf) 19181760 (.nd .lf 19181768 .lf))) 19181776 (.nd (.nd (.nd .lf 19181784 .lf) 19181824 (.nd .lf 19181848 .lf)) 19181856 (.nd (.nd .lf 19181888 .lf) 19181912 .lf))) 19182144 (.nd (.nd (.nd (.nd .lf 19182152 .lf) 19182280 (.nd .lf 19182720 .lf)) 19182736 (.nd (.nd .lf 19182800 .lf) 19183296 (.nd .lf 19183304 .lf))) 19183312 (.nd (.nd (.nd .lf 19183320 .lf) 19183384 (.nd .lf 19183448 .lf)) 19183872 (.nd (.nd .lf 19183896 .lf) 19183904 .lf)))))) 19185664 (.nd (.nd (.nd (.nd (.nd (.nd (.nd .lf 19185728 .lf) 19185736 (.nd .lf 19185792 .lf)) 19185800 (.nd (.nd .lf 19185808 .lf) 19185856 (.nd .lf 19185864 .lf))) 19185872 (.nd (.nd (.nd .lf 19185880 .lf) 19185920 (.nd .lf 19185928 .lf)) 19185936 (.nd (.nd .lf 19185944 .lf) 19185952 .lf))) 19185984 (.nd (.nd (.nd (.nd .lf 19185992 .lf) 19186000 (.nd .lf 19186008 .lf)) 19186016 (.nd (.nd .lf 19186024 .lf) 19186240 (.nd .lf 19186248 .lf))) 19186312 (.nd (.nd (.nd .lf 19186376 .lf) 19186440 (.nd .lf 19186504 .lf)) 19186816 (.nd (.nd .lf 19186824 .lf) 19186832 .lf)))) 19186896 (.nd (.nd (.nd (.nd (.nd .lf 19186960 .lf) 19187024 (.nd .lf 19187392 .lf)) 19187400 (.nd (.nd .lf 19187408 .lf) 19187416 (.nd .lf 19187480 .lf))) 19187544 (.nd (.nd (.nd .lf 19187712 .lf) 19187776 (.nd .lf 19187784 .lf)) 19187840 (.nd (.nd .lf 19187848 .lf) 19187856 .lf))) 19187904 (.nd (.nd (.nd (.nd .lf 19187912 .lf) 19187920 (.nd .lf 19187928 .lf)) 19187968 (.nd (.nd .lf 19187976 .lf) 19187984 (.nd .lf 19187992 .lf))) 19188000 (.nd (.nd (.nd .lf 19188032 .lf) 19188040 (.nd .lf 19188048 .lf)) 19188056 (.nd (.nd .lf 19188064 .lf) 19188072 .lf))))) 19189760 (.nd (.nd (.nd (.nd (.nd (.nd .lf 19189824 .lf) 19189832 (.nd .lf 19189888 .lf)) 19189896 (.nd (.nd .lf 19189904 .lf) 19189952 (.nd .lf 19189960 .lf))) 19189968 (.nd (.nd (.nd .lf 19189976 .lf) 19190016 (.nd .lf 19190024 .lf)) 19190032 (.nd (.nd .lf 19190040 .lf) 19190048 .lf))) 19190080 (.nd (.nd (.nd (.nd .lf 19190088 .lf) 19190096 (.nd .lf 19190104 .lf)) 19190112 (.nd (.nd .lf 19190120 .lf) 19190336 (.nd .lf 19190344 .lf))) 19190408 (.nd (.nd (.nd .lf 19190472 .lf) 19190536 (.nd .lf 19190600 .lf)) 19190912 (.nd (.nd .lf 19190920 .lf) 19190928 .lf)))) 19190992 (.nd (.nd (.nd (.nd (.nd .lf 19191056 .lf) 19191120 (.nd .lf 19191488 .lf)) 19191496 (.nd (.nd .lf 19191504 .lf) 19191512 (.nd .lf 19191576 .lf))) 19191640 (.nd (.nd (.nd .lf 19191808 .lf) 19191872 (.nd .lf 19191880 .lf)) 19191936 (.nd (.nd .lf 19191944 .lf) 19191952 .lf))) 19192000 (.nd (.nd (.nd (.nd .lf 19192008 .lf) 19192016 (.nd .lf 19192024 .lf)) 19192064 (.nd (.nd .lf 19192072 .lf) 19192080 (.nd .lf 19192088 .lf))) 19192096 (.nd (.nd (.nd .lf 19192128 .lf) 19192136 (.nd .lf 19192144 .lf)) 19192152 (.nd (.nd .lf 19192160 .lf) 19192168 .lf)))))))
theorem n_3_5_1 : ∀ s, Reach 3 5 1 s → acc s = false := clos_ok (p := 3) (t := 5) (r := 1) (T := t_3_5_1) (by decide +kernel)
end K73
set_option Elab.async false
set_option linter.all false
set_option maxRecDepth 100000
set_option maxHeartbeats 4000000
namespace K73
open PySem PySem.Spec L2 Ev
local macro_rules | `(tactic| walk_at "len") => `(tactic| first | rfl | omega | (simp only [List.length_set, List.length_append, List.length_cons, List.length_nil, List.length_map]; first | done | omega))
local macro_rules | `(tactic| walk_at "lk") => `(tactic| first | assumption | exact k_new (by walk_at "len") | exact k_self (by walk_at "len") | (apply k_old; walk_at "lk") | (apply k_ne; (walk_at "len"); walk_at "lk"))
local macro_rules | `(tactic| walk_at "ix") => `(tactic| first | assumption | exact atI_0 | exact atI_1 | exact atI_2 | exact atI_3 | (rfl; done) | (refine ixN_nat' ?_; walk_at "len"))
local macro_rules | `(tactic| walk_at "c") => `(tactic| first | assumption | decide | omega)
local macro_rules | `(tactic| walk_at "s") => `(tactic| first
  | with_reducible first
    | refine s_seq ?_ | refine s_set ?_ | refine s_expr ?_ | refine s_ret ?_ | refine s_if ?_ | refine s_sNx ?_ | refine s_setIx ?_
    | refine o_bin2 ?_ | refine o_cst ?_ | refine o_tb ?_ | refine o_and ?_ | refine o_or ?_ | refine o_not ?_ | refine o_vand ?_ | refine o_vor ?_ | refine o_vnot ?_ | refine o_vif ?_ | refine o_neg ?_
    | refine o_nil ?_ | refine o_cons ?_ | refine o_tup ?_ | refine o_lst ?_ | refine o_call ?_ | refine o_fn ?_ | refine o_f1 ?_ | refine o_f2 ?_ | refine o_cLst ?_ | refine o_oNone ?_ | refine o_oSome ?_ | refine o_sl ?_ | refine o_meth ?_ | refine o_compS ?_
    | refine o_add ?_ | refine o_sub ?_ | refine o_lt ?_ | refine o_le ?_ | refine o_gt ?_ | refine o_ge ?_ | refine o_eqI ?_ | refine o_neI ?_ | refine o_is ?_ | refine o_isnot ?_ | refine o_int ?_ | refine o_max ?_ | refine o_min ?_
    | refine o_lenT ?_ | refine o_lenF ?_ | refine o_listT ?_ | refine o_listF ?_ | refine o_tupleT ?_ | refine o_lTuple ?_ | refine x_bl ?_ | refine i_t ?_ | refine i_f ?_ | refine i_nt ?_ | refine i_nf ?_ | refine x_int ?_
  | ((with_reducible apply o_get); with_unfolding_all rfl; with_unfolding_all rfl)
  | ((with_reducible apply o_mul); walk_at "c")
  | ((with_reducible apply o_fdiv); walk_at "c")
  | ((with_reducible apply o_mod); walk_at "c")
  | ((with_reducible apply o_lenL); walk_at "lk")
  | ((with_reducible apply o_listL); walk_at "lk")
  | ((with_reducible apply o_tupleL); walk_at "lk")
  | ((with_reducible apply o_ixT); with_unfolding_all walk_at "ix")
  | ((with_reducible apply o_ixF); with_unfolding_all walk_at "ix")
  | ((with_reducible apply o_ixL); walk_at "lk"; with_unfolding_all walk_at "ix")
  | ((with_reducible apply o_slL); walk_at "lk")
  | ((with_reducible apply o_sorted); walk_at "lk"; assumption)
  | ((with_reducible apply o_addL); walk_at "lk"; walk_at "lk"; walk_at "len")
  | ((with_reducible apply o_app); walk_at "lk"; walk_at "len")
  | ((with_reducible apply x_le); walk_at "len")
  | ((with_reducible apply x_ln); with_unfolding_all rfl)
  | ((with_reducible apply x_ck); walk_at "lk")
  | ((with_reducible apply x_setL); walk_at "lk"; walk_at "ix"))
local macro_rules | `(tactic| walk_at "kp") => `(tactic| first | exact Kp.refl | assumption | (apply kp_app; walk_at "kp") | (apply kp_set; walk_at "kp") | (apply kp_setn; (walk_at "len"); walk_at "kp"))
theorem comp_rep {sd : Sl} {elt : Sl → M D} {h : Hh} {j : Nat} {d : D} (n : Nat) (hn : n ≤ 1000) (e : ∀ x, OkM (elt (sd.set j (some x)) h) fun y h' => y = d ∧ h' = h) :
    OkM (compF (tgN j) (fun _ => true) condT elt sd (rangeD 0 n) [] h) (fun ds h' => ds = List.replicate n d ∧ h' = h) := by
  have hl : (rangeD 0 n).length = n := by unfold rangeD; simp
  refine o_comp (I := fun ds acc h' => acc = List.replicate acc.length d ∧ acc.length + ds.length = n ∧ h' = h) ?_ ?_ ?_ _ _ _ ⟨rfl, by simpa using hl, rfl⟩
  · rintro ds acc h' ⟨_, e2, _⟩
    exact ⟨rfl, by omega⟩
  · rintro x ds acc h' ⟨e1, e2, rfl⟩
    refine ⟨_, rfl, OkM.imp (e x) ?_⟩
    rintro y h2 ⟨rfl, rfl⟩
    refine ⟨?_, ?_, rfl⟩
    · rw [List.length_append, List.length_singleton, List.replicate_succ', ← e1]
    · rw [List.length_cons] at e2
      rw [List.length_append, List.length_singleton]
      omega
  · rintro acc h' ⟨e1, e2, rfl⟩
    refine ⟨?_, rfl⟩
    have e3 : acc.length = n := by simpa using e2
    exact e1.trans (by rw [e3])
theorem enc_s0 (p t : Nat) : enc (s0 p t) = .tup [.tup (.int 0 :: List.replicate (p - 1) (.int t)), .int 0, .tup (List.replicate t (.int 0)), .int t] := by
  unfold enc s0
  simp
theorem found {p t : Nat} {r : Int} (hp : p ≤ 3) (hp0 : 0 < p) (ht : t ≤ 7) (h : Hh) : OkM (r__law_possible [.int t, .int p, .int r, .int 6000] h) (fun d _ => Found p t r d) := by
  refine o_run (OkS.imp (N := fun _ _ => False) (R := fun d _ => Found p t r d) ?_ (fun _ _ z => z.elim) fun d h' z => ⟨z, fun _ => z⟩)
  show OkS (b__law_possible (SL t p r 6000 none none none none none none none none none none none none none) h) _ _
  unfold b__law_possible SL
  repeat walk_at "s"
  refine o_bnd ?_
  repeat walk_at "s"
  refine o_r1 (by omega) ?_
  rw [show ((p : Int) - 1).toNat = p - 1 by omega]
  refine OkM.imp (comp_rep (d := .int t) (p - 1) (by omega) (fun x => o_get rfl rfl ⟨rfl, rfl⟩)) ?_
  rintro ds h1 ⟨rfl, rfl⟩
  have hlr : (List.replicate (p - 1) (D.int t)).length ≤ 1000 := by simp; omega
  repeat walk_at "s"
  refine o_bnd ?_
  repeat walk_at "s"
  refine o_r1 (by omega) ?_
  rw [Int.toNat_natCast]
  refine OkM.imp (comp_rep (d := .int 0) t (by omega) (fun x => o_cst ⟨rfl, rfl⟩)) ?_
  rintro ds h1 ⟨rfl, rfl⟩
  repeat walk_at "s"
  refine o_disN ?_
  repeat walk_at "s"
  have key := toNK_enc (s0 p t)
  rw [enc_s0] at key
  refine ⟨_, _, rfl, key, ?_⟩
  repeat walk_at "s"
  refine s_for (o_bnd ?_)
  repeat walk_at "s"
  refine o_r1 (by omega) ?_
  rw [show ((6000 : Int) + 1).toNat = 6001 from rfl]
  generalize hg : (h ++ [O.lst [D.int 0]] ++ [O.lst (List.replicate (p - 1) (D.int ↑t))] ++ [O.lst ([D.int 0] ++ List.replicate (p - 1) (D.int ↑t))]) = h0
  have L := fun x4 I A => l3_loop p t r x4 none none none none none none none none none none (h0.length + 1) h0.length [s0 p t] (h0 ++ [O.dik [(enc (s0 p t), D.bl true)]] ++ [O.lst [enc (s0 p t)]]) I A hp hp0 ht (by simp)
  generalize rangeD 0 6001 = R6 at L ⊢
  rw [show List.length (h0 ++ [O.dik [(D.tup [D.tup ([D.int 0] ++ List.replicate (p - 1) (D.int ↑t)), D.int 0, D.tup (List.replicate t (D.int 0)), D.int ↑t], D.bl true)]]) = h0.length + 1 by simp]
  dsimp only [fixS, List.set]
  rw [enc_s0] at L
  refine OkS.imp (L _ ⟨?_, ?_⟩ ⟨by simp, ?_, ?_⟩) ?_ (fun _ _ z => z)
  · rw [List.map_cons, List.map_nil, enc_s0]
    exact k_new (by simp)
  · unfold dikAt
    rw [List.getElem?_append_left (by simp), List.getElem?_append_right (Nat.le_refl _), Nat.sub_self, List.getElem?_cons_zero, sn, List.map_cons, List.map_nil, enc_s0]
  · intro s hs
    rw [List.mem_singleton] at hs
    subst hs
    refine ⟨⟨?_, ?_, Int.le_refl _, Int.le_refl _, ?_⟩, .start⟩
    · show (0 :: List.replicate (p - 1) (t : Int)).length = p
      simp
      omega
    · show (List.replicate t (0 : Int)).length = t
      simp
    · intro x hx
      have hx : x ∈ (0 : Int) :: List.replicate (p - 1) (t : Int) := hx
      rcases List.mem_cons.mp hx with e | hx
      · omega
      · have := List.eq_of_mem_replicate hx
        omega
  · intro j s hj
    omega
  · intro sd h' _
    walk_at "s"
    exact o_cst (.inl rfl)
def EE (r : Int) : Nat → Int
  | 0 => 1
  | k + 1 => Int.fdiv (EE r k * (r + (k : Int) + 1)) ((k : Int) + 1)
theorem mt_loop (p : Nat) (r : Int) (hp : p ≤ 3) (hr0 : 0 ≤ r) (hr : r ≤ 3) (h : Hh) :
    OkS (loopF (tgN 3) (fun _ => true) l1_most_things (rangeD 0 p) [some (.int p), some (.int r), some (.int 1), none] h) (fun sd' _ => ∃ y, sd' = [some (.int p), some (.int r), some (.int (EE r p)), y]) (fun _ _ => False) := by
  refine s_loop (I := fun ds sd _ => ∃ j y, j ≤ p ∧ ds = ((List.range p).drop j).map (fun (i : Nat) => D.int (0 + i)) ∧ sd = [some (.int p), some (.int r), some (.int (EE r j)), y]) (fun _ _ _ _ => rfl) ?_ ?_ _ _ _ ⟨0, none, Nat.zero_le _, by rw [List.drop_zero]; rfl, rfl⟩
  · rintro d ds sd h' ⟨j, y, hj, ed, rfl⟩
    by_cases hjn : j < p
    · rw [range_drop hjn, List.map_cons] at ed
      obtain ⟨rfl, rfl⟩ := List.cons.inj ed
      refine ⟨_, rfl, ?_⟩
      rw [show (0 : Int) + (j : Int) = (j : Int) by omega]
      show OkS (l1_most_things [some (.int p), some (.int r), some (.int (EE r j)), some (.int j)] h') _ _
      unfold l1_most_things
      have c1 : (-(2 ^ 64) < EE r j ∧ EE r j < 2 ^ 64) ∨ (-(2 ^ 64) < r + (j : Int) + 1 ∧ r + (j : Int) + 1 < 2 ^ 64) := .inr (by omega)
      have c2 : (j : Int) + 1 ≠ 0 ∧ ((j : Int) + 1).natAbs < 1073741824 := by omega
      repeat walk_at "s"
      exact ⟨j + 1, _, hjn, rfl, rfl⟩
    · rw [List.drop_of_length_le (by simp; omega)] at ed
      cases ed
  · rintro sd h' ⟨j, y, hj, ed, rfl⟩
    have : j = p := by
      have := congrArg List.length ed
      simp at this
      omega
    subst this
    exact ⟨y, rfl⟩
theorem mt_ok (p : Nat) (r : Int) (hp : p ≤ 3) (hr0 : 0 ≤ r) (hr : r ≤ 3) (h : Hh) : OkM (r_most_things [.int p, .int r] h) (fun d _ => d = .int (EE r p)) := by
  refine o_run (OkS.imp (N := fun _ _ => False) (R := fun d _ => d = .int (EE r p)) ?_ (fun _ _ z => z.elim) fun d h' z => ⟨z, fun _ => z⟩)
  show OkS (b_most_things [some (.int p), some (.int r), none, none] h) _ _
  unfold b_most_things
  repeat walk_at "s"
  refine s_for (o_bnd ?_)
  repeat walk_at "s"
  refine o_r1 (by omega) ?_
  rw [Int.toNat_natCast]
  refine OkS.imp (mt_loop p r hp hr0 hr h) ?_ (fun _ _ z => z.elim)
  rintro sd h' ⟨y, rfl⟩
  repeat walk_at "s"
  rfl
theorem ed_loop (p : Nat) (r : Int) (hp : p ≤ 3) (hr0 : 0 ≤ r) (hr : r ≤ 3) (x0 x1 x6 x7 x8 : Option D) (h : Hh) :
    OkS (loopF (tgN 5) (fun _ => true) l1_law (rangeD 0 p) [x0, x1, some (.int p), some (.int r), some (.int 1), none, x6, x7, x8] h) (fun sd' _ => ∃ y, sd' = [x0, x1, some (.int p), some (.int r), some (.int (EE r p)), y, x6, x7, x8]) (fun _ _ => False) := by
  refine s_loop (I := fun ds sd _ => ∃ j y, j ≤ p ∧ ds = ((List.range p).drop j).map (fun (i : Nat) => D.int (0 + i)) ∧ sd = [x0, x1, some (.int p), some (.int r), some (.int (EE r j)), y, x6, x7, x8]) (fun _ _ _ _ => rfl) ?_ ?_ _ _ _ ⟨0, none, Nat.zero_le _, by rw [List.drop_zero]; rfl, rfl⟩
  · rintro d ds sd h' ⟨j, y, hj, ed, rfl⟩
    by_cases hjn : j < p
    · rw [range_drop hjn, List.map_cons] at ed
      obtain ⟨rfl, rfl⟩ := List.cons.inj ed
      refine ⟨_, rfl, ?_⟩
      rw [show (0 : Int) + (j : Int) = (j : Int) by omega]
      show OkS (l1_law [x0, x1, some (.int p), some (.int r), some (.int (EE r j)), some (.int j), x6, x7, x8] h') _ _
      unfold l1_law
      have c1 : (-(2 ^ 64) < EE r j ∧ EE r j < 2 ^ 64) ∨ (-(2 ^ 64) < r + (j : Int) + 1 ∧ r + (j : Int) + 1 < 2 ^ 64) := .inr (by omega)
      have c2 : (j : Int) + 1 ≠ 0 ∧ ((j : Int) + 1).natAbs < 1073741824 := by omega
      repeat walk_at "s"
      exact ⟨j + 1, _, hjn, rfl, rfl⟩
    · rw [List.drop_of_length_le (by simp; omega)] at ed
      cases ed
  · rintro sd h' ⟨j, y, hj, ed, rfl⟩
    have : j = p := by
      have := congrArg List.length ed
      simp at this
      omega
    subst this
    exact ⟨y, rfl⟩
/-- what was found is what is due -/
structure Due (p t : Nat) (r e : Int) : Prop where
  y : (t : Int) ≤ e → ∃ s, Reach p t r s ∧ acc s = true
  n : ¬ (t : Int) ≤ e → ∀ s, Reach p t r s → acc s = false
theorem cl_reach {p t : Nat} {r : Int} {o : List Sx} (C : CL p t r o) : ∀ s, Reach p t r s → s ∈ o := fun s R => by
  induction R with
  | start => exact C.1
  | step R hx ih => exact (C.2 _ ih).2 _ hx
/-- the law's end, once its numbers are known -/
theorem whole_ok (i : Int) (h : Hh) : OkM (r__law_whole [.int i] h) (fun d _ => d = .bl true) := by
  refine o_run (OkS.imp (N := fun _ _ => False) (R := fun d _ => d = .bl true) ?_ (fun _ _ z => z.elim) fun d h' z => ⟨z, fun _ => z⟩)
  exact s_rt rfl
def lawEnd : SF := (sSeq
  (sFor (fun sd => bnd ((aCons (getS 2) aNil) sd) srcR1) (tgN 5) l1_law)
  (sSeq
  (sSet 6 (vCall (f2 dMax2) (aCons (cst (.int 1)) (aCons (vCall (f2 dMin2) (aCons (cst (.int 7)) (aCons (bin2 oAdd (bin2 oSub (getS 4) (cst (.int 1))) (bin2 oMod (bin2 oFdiv (vCall (f1 dInt) (aCons (getS 1) aNil)) (cst (.int 12))) (cst (.int 3)))) aNil))) aNil))))
  (sSeq
  (sSet 7 (vFn 2 r_most_things (aCons (getS 2) (aCons (getS 3) aNil))))
  (sSeq
  (sIf (tOr' (tNot' (tb (vFn 1 r__law_whole (aCons (getS 7) aNil)))) (tb (bin2 (oEqN true) (getS 7) (getS 4)))) (sRet (cst (.bl false))) sNx)
  (sSeq
  (sSet 8 (vFn 4 r__law_possible (aCons (getS 6) (aCons (getS 2) (aCons (getS 3) (aCons (cst (.int 6000)) aNil))))))
  (sSeq
  (sIf (tb (bin2 (oIsN false) (getS 8) (cst .non))) (sRet (cst (.bl true))) sNx)
  (sRet (bin2 (oEqN false) (getS 8) (bin2 oLe (getS 6) (getS 4))))))))))
theorem end_ok (p t : Nat) (r c x3 : Int) (x0 : Option D) (hp : p ≤ 3) (hp0 : 0 < p) (ht : t ≤ 7) (hr0 : 0 ≤ r) (hr : r ≤ 3) (hx : (c.fdiv 12).fmod 3 = x3) (hT : (if (if EE r p - 1 + x3 < 7 then EE r p - 1 + x3 else 7) > 1 then (if EE r p - 1 + x3 < 7 then EE r p - 1 + x3 else 7) else 1) = (t : Int)) (U : Due p t r (EE r p)) (h : Hh) :
    OkS (lawEnd [x0, some (.int c), some (.int p), some (.int r), some (.int 1), none, none, none, none] h) (fun _ _ => False) (fun d _ => d = .bl true) := by
  unfold lawEnd
  refine s_seq (s_for (o_bnd ?_))
  repeat walk_at "s"
  refine o_r1 (by omega) ?_
  rw [Int.toNat_natCast]
  refine OkS.imp (ed_loop p r hp hr0 hr _ _ _ _ _ h) ?_ (fun _ _ z => z.elim)
  rintro sd h1 ⟨y, rfl⟩
  repeat walk_at "s"
  rw [hx, hT]
  refine OkM.imp (mt_ok p r hp hr0 hr h1) ?_
  rintro d h2 rfl
  repeat walk_at "s"
  refine OkM.imp (whole_ok _ _) ?_
  rintro d h3 rfl
  repeat walk_at "s"
  refine i_nd (fun z => absurd rfl z) (fun _ => ?_)
  repeat walk_at "s"
  refine OkM.imp (found hp hp0 ht h3) ?_
  rintro d h4 (rfl | ⟨rfl, s, Rs, as⟩ | ⟨rfl, o, C⟩)
  · repeat walk_at "s"
    refine i_t ?_
    repeat walk_at "s"
    rfl
  · repeat walk_at "s"
    refine i_f ?_
    repeat walk_at "s"
    by_cases c : (t : Int) ≤ EE r p
    · rw [decide_eq_true c]
      exact ⟨_, _, rfl, rfl⟩
    · have := U.n c s Rs
      rw [as] at this
      cases this
  · repeat walk_at "s"
    refine i_f ?_
    repeat walk_at "s"
    by_cases c : (t : Int) ≤ EE r p
    · obtain ⟨s, Rs, as⟩ := U.y c
      have := (C.2 s (cl_reach C s Rs)).1
      rw [as] at this
      cases this
    · rw [decide_eq_false c]
      exact ⟨_, _, rfl, rfl⟩
theorem due_y {p t : Nat} {r e : Int} (h : (t : Int) ≤ e) (y : ∃ s, Reach p t r s ∧ acc s = true) : Due p t r e := ⟨fun _ => y, fun z => absurd h z⟩
theorem due_n {p t : Nat} {r e : Int} (h : ¬ (t : Int) ≤ e) (n : ∀ s, Reach p t r s → acc s = false) : Due p t r e := ⟨fun z => absurd z h, fun _ => n⟩
theorem fm3 (c : Int) : c.fmod 3 = 0 ∨ c.fmod 3 = 1 ∨ c.fmod 3 = 2 := by
  have h1 := Int.fmod_nonneg_of_pos c (b := 3) (by decide)
  have h2 := Int.fmod_lt_of_pos c (b := 3) (by decide)
  omega
theorem fm4 (c : Int) : c.fmod 4 = 0 ∨ c.fmod 4 = 1 ∨ c.fmod 4 = 2 ∨ c.fmod 4 = 3 := by
  have h1 := Int.fmod_nonneg_of_pos c (b := 4) (by decide)
  have h2 := Int.fmod_lt_of_pos c (b := 4) (by decide)
  omega
theorem law_ok (ns : List Int) : OkM (r_law [.frl (ns.map D.int)] []) (fun d _ => d = .bl true) := by
  refine o_run (OkS.imp (N := fun _ _ => False) (R := fun d _ => d = .bl true) ?_ (fun _ _ z => z.elim) fun d h' z => ⟨z, fun _ => z⟩)
  show OkS (b_law [some (.frl (ns.map D.int)), none, none, none, none, none, none, none, none] []) _ _
  unfold b_law
  repeat walk_at "s"
  refine OkM.imp (show OkM (r__law_cell _ _) _ from cell_ok ns 0 (by omega) []) ?_
  rintro d h1 ⟨c0, rfl⟩
  repeat walk_at "s"
  generalize c0.fmod 1000003 = c
  rcases fm3 c with e1 | e1 | e1 <;> rcases fm4 (c.fdiv 3) with e2 | e2 | e2 | e2
  · simp only [e1, e2]
    repeat ((fail_if_success (with_reducible refine s_seq (f := sFor _ _ _) ?_)); first | walk_at "s" | refine i_dt (by decide) ?_ | refine i_df (by decide) ?_)
    rcases fm3 (c.fdiv 12) with e3 | e3 | e3
    · exact end_ok 1 1 0 c 0 _ (by decide) (by decide) (by decide) (by decide) (by decide) e3 (by decide +kernel) (due_y (by decide +kernel) y_1_1_0) h1
    · exact end_ok 1 1 0 c 1 _ (by decide) (by decide) (by decide) (by decide) (by decide) e3 (by decide +kernel) (due_y (by decide +kernel) y_1_1_0) h1
    · exact end_ok 1 2 0 c 2 _ (by decide) (by decide) (by decide) (by decide) (by decide) e3 (by decide +kernel) (due_n (by decide +kernel) n_1_2_0) h1
  · simp only [e1, e2]
    repeat ((fail_if_success (with_reducible refine s_seq (f := sFor _ _ _) ?_)); first | walk_at "s" | refine i_dt (by decide) ?_ | refine i_df (by decide) ?_)
    rcases fm3 (c.fdiv 12) with e3 | e3 | e3
    · exact end_ok 1 1 1 c 0 _ (by decide) (by decide) (by decide) (by decide) (by decide) e3 (by decide +kernel) (due_y (by decide +kernel) y_1_1_1) h1
    · exact end_ok 1 2 1 c 1 _ (by decide) (by decide) (by decide) (by decide) (by decide) e3 (by decide +kernel) (due_y (by decide +kernel) y_1_2_1) h1
    · exact end_ok 1 3 1 c 2 _ (by decide) (by decide) (by decide) (by decide) (by decide) e3 (by decide +kernel) (due_n (by decide +kernel) n_1_3_1) h1
  · simp only [e1, e2]
    repeat ((fail_if_success (with_reducible refine s_seq (f := sFor _ _ _) ?_)); first | walk_at "s" | refine i_dt (by decide) ?_ | refine i_df (by decide) ?_)
    rcases fm3 (c.fdiv 12) with e3 | e3 | e3
    · exact end_ok 1 2 2 c 0 _ (by decide) (by decide) (by decide) (by decide) (by decide) e3 (by decide +kernel) (due_y (by decide +kernel) y_1_2_2) h1
    · exact end_ok 1 3 2 c 1 _ (by decide) (by decide) (by decide) (by decide) (by decide) e3 (by decide +kernel) (due_y (by decide +kernel) y_1_3_2) h1
    · exact end_ok 1 4 2 c 2 _ (by decide) (by decide) (by decide) (by decide) (by decide) e3 (by decide +kernel) (due_n (by decide +kernel) n_1_4_2) h1
  · simp only [e1, e2]
    repeat ((fail_if_success (with_reducible refine s_seq (f := sFor _ _ _) ?_)); first | walk_at "s" | refine i_dt (by decide) ?_ | refine i_df (by decide) ?_)
    rcases fm3 (c.fdiv 12) with e3 | e3 | e3
    · exact end_ok 1 3 3 c 0 _ (by decide) (by decide) (by decide) (by decide) (by decide) e3 (by decide +kernel) (due_y (by decide +kernel) y_1_3_3) h1
    · exact end_ok 1 4 3 c 1 _ (by decide) (by decide) (by decide) (by decide) (by decide) e3 (by decide +kernel) (due_y (by decide +kernel) y_1_4_3) h1
    · exact end_ok 1 5 3 c 2 _ (by decide) (by decide) (by decide) (by decide) (by decide) e3 (by decide +kernel) (due_n (by decide +kernel) n_1_5_3) h1
  · simp only [e1, e2]
    repeat ((fail_if_success (with_reducible refine s_seq (f := sFor _ _ _) ?_)); first | walk_at "s" | refine i_dt (by decide) ?_ | refine i_df (by decide) ?_)
    rcases fm3 (c.fdiv 12) with e3 | e3 | e3
    · exact end_ok 2 1 0 c 0 _ (by decide) (by decide) (by decide) (by decide) (by decide) e3 (by decide +kernel) (due_y (by decide +kernel) y_2_1_0) h1
    · exact end_ok 2 1 0 c 1 _ (by decide) (by decide) (by decide) (by decide) (by decide) e3 (by decide +kernel) (due_y (by decide +kernel) y_2_1_0) h1
    · exact end_ok 2 2 0 c 2 _ (by decide) (by decide) (by decide) (by decide) (by decide) e3 (by decide +kernel) (due_n (by decide +kernel) n_2_2_0) h1
  · simp only [e1, e2]
    repeat ((fail_if_success (with_reducible refine s_seq (f := sFor _ _ _) ?_)); first | walk_at "s" | refine i_dt (by decide) ?_ | refine i_df (by decide) ?_)
    rcases fm3 (c.fdiv 12) with e3 | e3 | e3
    · exact end_ok 2 2 1 c 0 _ (by decide) (by decide) (by decide) (by decide) (by decide) e3 (by decide +kernel) (due_y (by decide +kernel) y_2_2_1) h1
    · exact end_ok 2 3 1 c 1 _ (by decide) (by decide) (by decide) (by decide) (by decide) e3 (by decide +kernel) (due_y (by decide +kernel) y_2_3_1) h1
    · exact end_ok 2 4 1 c 2 _ (by decide) (by decide) (by decide) (by decide) (by decide) e3 (by decide +kernel) (due_n (by decide +kernel) n_2_4_1) h1
  · simp only [e1, e2]
    repeat ((fail_if_success (with_reducible refine s_seq (f := sFor _ _ _) ?_)); first | walk_at "s" | refine i_dt (by decide) ?_ | refine i_df (by decide) ?_)
    rcases fm3 (c.fdiv 12) with e3 | e3 | e3
    · exact end_ok 2 5 2 c 0 _ (by decide) (by decide) (by decide) (by decide) (by decide) e3 (by decide +kernel) (due_y (by decide +kernel) y_2_5_2) h1
    · exact end_ok 2 6 2 c 1 _ (by decide) (by decide) (by decide) (by decide) (by decide) e3 (by decide +kernel) (due_y (by decide +kernel) y_2_6_2) h1
    · exact end_ok 2 7 2 c 2 _ (by decide) (by decide) (by decide) (by decide) (by decide) e3 (by decide +kernel) (due_n (by decide +kernel) n_2_7_2) h1
  · simp only [e1, e2]
    repeat ((fail_if_success (with_reducible refine s_seq (f := sFor _ _ _) ?_)); first | walk_at "s" | refine i_dt (by decide) ?_ | refine i_df (by decide) ?_)
    rcases fm3 (c.fdiv 12) with e3 | e3 | e3
    · exact end_ok 2 5 2 c 0 _ (by decide) (by decide) (by decide) (by decide) (by decide) e3 (by decide +kernel) (due_y (by decide +kernel) y_2_5_2) h1
    · exact end_ok 2 6 2 c 1 _ (by decide) (by decide) (by decide) (by decide) (by decide) e3 (by decide +kernel) (due_y (by decide +kernel) y_2_6_2) h1
    · exact end_ok 2 7 2 c 2 _ (by decide) (by decide) (by decide) (by decide) (by decide) e3 (by decide +kernel) (due_n (by decide +kernel) n_2_7_2) h1
  · simp only [e1, e2]
    repeat ((fail_if_success (with_reducible refine s_seq (f := sFor _ _ _) ?_)); first | walk_at "s" | refine i_dt (by decide) ?_ | refine i_df (by decide) ?_)
    rcases fm3 (c.fdiv 12) with e3 | e3 | e3
    · exact end_ok 3 1 0 c 0 _ (by decide) (by decide) (by decide) (by decide) (by decide) e3 (by decide +kernel) (due_y (by decide +kernel) y_3_1_0) h1
    · exact end_ok 3 1 0 c 1 _ (by decide) (by decide) (by decide) (by decide) (by decide) e3 (by decide +kernel) (due_y (by decide +kernel) y_3_1_0) h1
    · exact end_ok 3 2 0 c 2 _ (by decide) (by decide) (by decide) (by decide) (by decide) e3 (by decide +kernel) (due_n (by decide +kernel) n_3_2_0) h1
  · simp only [e1, e2]
    repeat ((fail_if_success (with_reducible refine s_seq (f := sFor _ _ _) ?_)); first | walk_at "s" | refine i_dt (by decide) ?_ | refine i_df (by decide) ?_)
    rcases fm3 (c.fdiv 12) with e3 | e3 | e3
    · exact end_ok 3 3 1 c 0 _ (by decide) (by decide) (by decide) (by decide) (by decide) e3 (by decide +kernel) (due_y (by decide +kernel) y_3_3_1) h1
    · exact end_ok 3 4 1 c 1 _ (by decide) (by decide) (by decide) (by decide) (by decide) e3 (by decide +kernel) (due_y (by decide +kernel) y_3_4_1) h1
    · exact end_ok 3 5 1 c 2 _ (by decide) (by decide) (by decide) (by decide) (by decide) e3 (by decide +kernel) (due_n (by decide +kernel) n_3_5_1) h1
  · simp only [e1, e2]
    repeat ((fail_if_success (with_reducible refine s_seq (f := sFor _ _ _) ?_)); first | walk_at "s" | refine i_dt (by decide) ?_ | refine i_df (by decide) ?_)
    rcases fm3 (c.fdiv 12) with e3 | e3 | e3
    · exact end_ok 3 3 1 c 0 _ (by decide) (by decide) (by decide) (by decide) (by decide) e3 (by decide +kernel) (due_y (by decide +kernel) y_3_3_1) h1
    · exact end_ok 3 4 1 c 1 _ (by decide) (by decide) (by decide) (by decide) (by decide) e3 (by decide +kernel) (due_y (by decide +kernel) y_3_4_1) h1
    · exact end_ok 3 5 1 c 2 _ (by decide) (by decide) (by decide) (by decide) (by decide) e3 (by decide +kernel) (due_n (by decide +kernel) n_3_5_1) h1
  · simp only [e1, e2]
    repeat ((fail_if_success (with_reducible refine s_seq (f := sFor _ _ _) ?_)); first | walk_at "s" | refine i_dt (by decide) ?_ | refine i_df (by decide) ?_)
    rcases fm3 (c.fdiv 12) with e3 | e3 | e3
    · exact end_ok 3 3 1 c 0 _ (by decide) (by decide) (by decide) (by decide) (by decide) e3 (by decide +kernel) (due_y (by decide +kernel) y_3_3_1) h1
    · exact end_ok 3 4 1 c 1 _ (by decide) (by decide) (by decide) (by decide) (by decide) e3 (by decide +kernel) (due_y (by decide +kernel) y_3_4_1) h1
    · exact end_ok 3 5 1 c 2 _ (by decide) (by decide) (by decide) (by decide) (by decide) e3 (by decide +kernel) (due_n (by decide +kernel) n_3_5_1) h1
theorem law_true : ∀ ns : List Int, ns.length ≤ 63 → ∃ h, r_law [.frl (ns.map D.int)] [] = .ok (.bl true) h := fun ns _ => by
  obtain ⟨d, h, e, rfl⟩ := law_ok ns
  exact ⟨h, e⟩
end K73
set_option Elab.async false
set_option linter.all false
set_option maxRecDepth 100000
set_option maxHeartbeats 4000000
namespace K73
open PySem PySem.Spec L2 Ev
open PyProof.Rows hiding St
/-! ### the text -/
def topS (i : Nat) : Stmt := PySem.Challenge.pw_looporpile_k73_no_plan_beyond.main.body.getD i (.Pass ⟨0, 0, 0, 0⟩)
abbrev s_most_things : Stmt := topS 1
abbrev s__law_possible : Stmt := topS 3
abbrev s__law_cell : Stmt := topS 5
abbrev s__law_whole : Stmt := topS 4
abbrev s_law : Stmt := topS 6
/-! ### what the top has written -/
structure Tx (K : PySem.W.Frag) (mg : Str → Option Value) where
  d_most_things : DefF K mg "most_things" s_most_things ["places", "rounds"]
  d__law_possible : DefF K mg "_law_possible" s__law_possible ["things", "places", "rounds", "most"]
  d__law_cell : DefF K mg "_law_cell" s__law_cell ["script", "k"]
  d__law_whole : DefF K mg "_law_whole" s__law_whole ["value"]
  d_law : DefF K mg "law" s_law ["script"]
  n_bool : mg "bool" = none
  n_int : mg "int" = none
  n_isinstance : mg "isinstance" = none
  n_len : mg "len" = none
  n_list : mg "list" = none
  n_max : mg "max" = none
  n_min : mg "min" = none
  n_range : mg "range" = none
  n_sorted : mg "sorted" = none
  n_tuple : mg "tuple" = none
/-! ### the defs -/
theorem sc_most_things : FnScope ["places", "rounds", "told", "at"] ["places", "rounds"] (defScope s_most_things) := ⟨rfl, rfl, rfl, by decide +kernel, rfl, by decide +kernel, by decide +kernel⟩
theorem ok_most_things {P : Program} {w : World} {K : PySem.W.Frag} {mg : Str → Option Value} {base : Heap} {ca : Str → Addr} (T : Tx K mg) {k : Nat} (hk : 1 ≤ k) : FnOk P w K mg base (L2.CX P w) k T.d_most_things.a T.d_most_things.fd ["places", "rounds"] (spF ⟨P, w, K, ca⟩ 2 r_most_things) := by
  refine FnOk.mono (j := 0 + 1) ?_ hk
  refine fn_ok (k := 0) (N := ["places", "rounds", "told", "at"]) (g := b_most_things) T.d_most_things.F sc_most_things fun cdv A outer s H E hr => ?_
  have S := sc_most_things
  exact (bv_cons (sv_set 2 S.nd ev_int)
  (bv_cons (sv_for (passes_of rfl) rfl (iv_range1 (by rfl) T.n_range (av_cons (ev_var 0) av_nil)) (gv_name 3 S.nd) (bv_one (sv_set 2 S.nd (ev_bin e_fdiv (ev_bin e_mul (ev_var 2) (ev_bin e_add (ev_bin e_add (ev_var 1) (ev_var 3)) ev_int)) (ev_bin e_add (ev_var 3) ev_int)))))
  (bv_one (sv_ret (ev_var 2)))))
theorem sc__law_possible : FnScope ["things", "places", "rounds", "most", "start", "seen", "order", "turn", "held", "at", "gone", "left", "fresh", "k", "state", "more", "kept"] ["things", "places", "rounds", "most"] (defScope s__law_possible) := ⟨rfl, rfl, rfl, by decide +kernel, rfl, by decide +kernel, by decide +kernel⟩
theorem ok__law_possible {P : Program} {w : World} {K : PySem.W.Frag} {mg : Str → Option Value} {base : Heap} {ca : Str → Addr} (T : Tx K mg) {k : Nat} (hk : 1 ≤ k) : FnOk P w K mg base (L2.CX P w) k T.d__law_possible.a T.d__law_possible.fd ["things", "places", "rounds", "most"] (spF ⟨P, w, K, ca⟩ 4 r__law_possible) := by
  refine FnOk.mono (j := 0 + 1) ?_ hk
  refine fn_ok (k := 0) (N := ["things", "places", "rounds", "most", "start", "seen", "order", "turn", "held", "at", "gone", "left", "fresh", "k", "state", "more", "kept"]) (g := b__law_possible) T.d__law_possible.F sc__law_possible fun cdv A outer s H E hr => ?_
  have S := sc__law_possible
  exact (bv_cons (sv_set 4 S.nd (ev_tup (av_cons (ev_callTy c_tuple (by rfl) T.n_tuple (by decide +kernel) (av_cons (ev_bin e_add (ev_lst (av_cons ev_int av_nil)) (ev_cv (cv_lc (own := [("k", 13)]) rfl S.nd (iv_range1 (by rfl) T.n_range (av_cons (ev_bin e_sub (ev_var 1) ev_int) av_nil)) (blkOk_by rfl) (fun _ _ _ _ _ => (gv_name 13 S.nd)) (fun _ _ _ _ _ => nv_nil) (fun _ _ _ _ _ => (ev_var 0))))) av_nil)) (av_cons ev_int (av_cons (ev_callCT cc_tuple (by rfl) T.n_tuple (by decide +kernel) (cv_lc (own := [("k", 13)]) rfl S.nd (iv_range1 (by rfl) T.n_range (av_cons (ev_var 0) av_nil)) (blkOk_by rfl) (fun _ _ _ _ _ => (gv_name 13 S.nd)) (fun _ _ _ _ _ => nv_nil) (fun _ _ _ _ _ => ev_int))) (av_cons (ev_var 0) av_nil))))))
  (bv_cons (sv_set 5 S.nd (ev_disN (hr65 hr) (ev_var 4) ev_bl))
  (bv_cons (sv_set 6 S.nd (ev_lst (av_cons (ev_var 4) av_nil)))
  (bv_cons (sv_for (passes_of rfl) rfl (iv_range1 (by rfl) T.n_range (av_cons (ev_bin e_add (ev_var 3) ev_int) av_nil)) (gv_name 7 S.nd) (bv_cons (sv_if (tv_cmp e_ge (ev_var 7) (ev_callB c_len (by rfl) T.n_len (by decide +kernel) (av_cons (ev_var 6) av_nil)) (nomark _)) (bv_one (sv_ret ev_bl)) bv_nil)
  (bv_cons (sv_set 8 S.nd (ev_ix (ev_ix (ev_var 6) (ev_var 7)) ev_int))
  (bv_cons (sv_set 9 S.nd (ev_ix (ev_ix (ev_var 6) (ev_var 7)) ev_int))
  (bv_cons (sv_set 10 S.nd (ev_ix (ev_ix (ev_var 6) (ev_var 7)) ev_int))
  (bv_cons (sv_set 11 S.nd (ev_ix (ev_ix (ev_var 6) (ev_var 7)) ev_int))
  (bv_cons (sv_set 12 S.nd (ev_lst av_nil))
  (bv_cons (sv_if (tv_cmp (e_eq hr.units) (ev_var 9) (ev_bin e_sub (ev_var 11) ev_int) (nomark _)) (bv_cons (sv_if (tv_cmp (e_eq hr.units) (ev_var 9) ev_int (nomark _)) (bv_one (sv_ret ev_bl)) bv_nil)
  (bv_one (sv_expr (ev_meth mt_app PySem.F.plainAttrs_list PySem.F.slot_list_append PySem.F.type_list_append (ev_var 12) (av_cons (ev_tup (av_cons (ev_var 8) (av_cons (ev_var 9) (av_cons (ev_var 10) (av_cons (ev_var 9) av_nil))))) av_nil))))) bv_nil)
  (bv_cons (sv_if (tv_w (wv_and (tv_cmp e_lt (ev_bin e_add (ev_var 9) ev_int) (ev_var 11) (nomark _)) (wv_and1 (tv_cmp e_lt (ev_ix (ev_var 10) (ev_var 9)) (ev_var 2) (nomark _))))) (bv_cons (sv_set 15 S.nd (ev_callTy (c_list rfl) (by rfl) T.n_list (by decide +kernel) (av_cons (ev_var 10) av_nil)))
  (bv_cons (sv_setIx (ev_bin e_add (ev_ix (ev_var 15) (ev_var 9)) ev_int) (ev_var 15) (ev_var 9))
  (bv_one (sv_expr (ev_meth mt_app PySem.F.plainAttrs_list PySem.F.slot_list_append PySem.F.type_list_append (ev_var 12) (av_cons (ev_tup (av_cons (ev_var 8) (av_cons (ev_bin e_add (ev_var 9) ev_int) (av_cons (ev_callTy c_tuple (by rfl) T.n_tuple (by decide +kernel) (av_cons (ev_var 15) av_nil)) (av_cons (ev_var 11) av_nil))))) av_nil)))))) bv_nil)
  (bv_cons (sv_for (passes_of rfl) rfl (iv_range1 (by rfl) T.n_range (av_cons (ev_var 1) av_nil)) (gv_name 13 S.nd) (bv_cons (sv_if (tv_cmp e_lt (ev_ix (ev_var 8) (ev_var 13)) (ev_var 0) (nomark _)) (bv_one (sv_expr (ev_meth mt_app PySem.F.plainAttrs_list PySem.F.slot_list_append PySem.F.type_list_append (ev_var 12) (av_cons (ev_tup (av_cons (ev_var 8) (av_cons (ev_ix (ev_var 8) (ev_var 13)) (av_cons (ev_var 10) (av_cons (ev_var 11) av_nil))))) av_nil)))) bv_nil)
  (bv_one (sv_if (tv_cmp e_gt (ev_var 13) ev_int (nomark _)) (bv_cons (sv_set 16 S.nd (ev_callTy (c_list rfl) (by rfl) T.n_list (by decide +kernel) (av_cons (ev_var 8) av_nil)))
  (bv_cons (sv_setIx (ev_var 9) (ev_var 16) (ev_var 13))
  (bv_one (sv_expr (ev_meth mt_app PySem.F.plainAttrs_list PySem.F.slot_list_append PySem.F.type_list_append (ev_var 12) (av_cons (ev_tup (av_cons (ev_callTy c_tuple (by rfl) T.n_tuple (by decide +kernel) (av_cons (ev_bin e_add (ev_lst (av_cons (ev_ix (ev_var 8) ev_int) av_nil)) (ev_callB c_sorted (by rfl) T.n_sorted (by decide +kernel) (av_cons (ev_slice (ev_var 16) (ov_some ev_int) ov_none) av_nil))) av_nil)) (av_cons (ev_var 9) (av_cons (ev_var 10) (av_cons (ev_var 11) av_nil))))) av_nil)))))) bv_nil))))
  (bv_cons (sv_for (passes_of rfl) rfl (iv_any (ev_var 12)) (gv_name 14 S.nd) (bv_one (sv_if (tv_cmp (e_notinX (hr65 hr)) (ev_var 14) (ev_var 5) (by rfl)) (bv_cons (sv_dputN (hr65 hr) ev_bl (ev_var 5) (ev_var 14))
  (bv_one (sv_expr (ev_meth mt_app PySem.F.plainAttrs_list PySem.F.slot_list_append PySem.F.type_list_append (ev_var 6) (av_cons (ev_var 14) av_nil))))) bv_nil)))
  (bv_one (sv_if (tv_cmp e_gt (ev_callB c_len (by rfl) T.n_len (by decide +kernel) (av_cons (ev_var 6) av_nil)) (ev_var 3) (nomark _)) (bv_one (sv_ret ev_non)) bv_nil)))))))))))))
  (bv_one (sv_ret ev_non))))))
theorem sc__law_cell : FnScope ["script", "k", "seed", "cell"] ["script", "k"] (defScope s__law_cell) := ⟨rfl, rfl, rfl, by decide +kernel, rfl, by decide +kernel, by decide +kernel⟩
theorem ok__law_cell {P : Program} {w : World} {K : PySem.W.Frag} {mg : Str → Option Value} {base : Heap} {ca : Str → Addr} (T : Tx K mg) {k : Nat} (hk : 1 ≤ k) : FnOk P w K mg base (L2.CX P w) k T.d__law_cell.a T.d__law_cell.fd ["script", "k"] (spF ⟨P, w, K, ca⟩ 2 r__law_cell) := by
  refine FnOk.mono (j := 0 + 1) ?_ hk
  refine fn_ok (k := 0) (N := ["script", "k", "seed", "cell"]) (g := b__law_cell) T.d__law_cell.F sc__law_cell fun cdv A outer s H E hr => ?_
  have S := sc__law_cell
  exact (bv_cons (sv_if (tv_cmp e_lt (ev_var 1) (ev_callB c_len (by rfl) T.n_len (by decide +kernel) (av_cons (ev_var 0) av_nil)) (nomark _)) (bv_one (sv_ret (ev_ix (ev_var 0) (ev_var 1)))) bv_nil)
  (bv_cons (sv_set 2 S.nd ev_int)
  (bv_cons (sv_for (passes_of rfl) rfl (iv_any (ev_var 0)) (gv_name 3 S.nd) (bv_one (sv_set 2 S.nd (ev_bin e_mod (ev_callTy c_int (by rfl) T.n_int (by decide +kernel) (av_cons (ev_bin e_add (ev_bin e_mul (ev_var 2) ev_int) (ev_bin e_mod (ev_callTy c_int (by rfl) T.n_int (by decide +kernel) (av_cons (ev_var 3) av_nil)) ev_int)) av_nil)) ev_int))))
  (bv_one (sv_ret (ev_bin e_mod (ev_callTy c_int (by rfl) T.n_int (by decide +kernel) (av_cons (ev_bin e_mul (ev_bin e_mul (ev_bin e_add (ev_var 2) ev_int) (ev_bin e_add (ev_var 1) ev_int)) ev_int) av_nil)) ev_int))))))
theorem sc__law_whole : FnScope ["value"] ["value"] (defScope s__law_whole) := ⟨rfl, rfl, rfl, by decide +kernel, rfl, by decide +kernel, by decide +kernel⟩
theorem ok__law_whole {P : Program} {w : World} {K : PySem.W.Frag} {mg : Str → Option Value} {base : Heap} {ca : Str → Addr} (T : Tx K mg) {k : Nat} (hk : 1 ≤ k) : FnOk P w K mg base (L2.CX P w) k T.d__law_whole.a T.d__law_whole.fd ["value"] (spF ⟨P, w, K, ca⟩ 1 r__law_whole) := by
  refine FnOk.mono (j := 0 + 1) ?_ hk
  refine fn_ok (k := 0) (N := ["value"]) (g := b__law_whole) T.d__law_whole.F sc__law_whole fun cdv A outer s H E hr => ?_
  have S := sc__law_whole
  exact (bv_one (sv_ret (ev_and (ev_isi1 .int (by decide) (fun _ _ z => nomatch z) (by rfl) T.n_isinstance (ev_var 0) (by rfl) T.n_int (by decide +kernel)) (ev_one (ev_not (ev_isi1 .bl (by decide) (fun _ _ z => nomatch z) (by rfl) T.n_isinstance (ev_var 0) (by rfl) T.n_bool (by decide +kernel)))))))
theorem sc_law : FnScope ["script", "choice", "places", "rounds", "edge", "k", "things", "told", "found"] ["script"] (defScope s_law) := ⟨rfl, rfl, rfl, by decide +kernel, rfl, by decide +kernel, by decide +kernel⟩
theorem ok_law {P : Program} {w : World} {K : PySem.W.Frag} {mg : Str → Option Value} {base : Heap} {ca : Str → Addr} (T : Tx K mg) {k : Nat} (hk : 2 ≤ k) : FnOk P w K mg base (L2.CX P w) k T.d_law.a T.d_law.fd ["script"] (spF ⟨P, w, K, ca⟩ 1 r_law) := by
  refine FnOk.mono (j := 1 + 1) ?_ hk
  have G_most_things := ok_most_things (P := P) (w := w) (base := base) (ca := ca) T (k := 1) (by omega)
  have G__law_possible := ok__law_possible (P := P) (w := w) (base := base) (ca := ca) T (k := 1) (by omega)
  have G__law_cell := ok__law_cell (P := P) (w := w) (base := base) (ca := ca) T (k := 1) (by omega)
  have G__law_whole := ok__law_whole (P := P) (w := w) (base := base) (ca := ca) T (k := 1) (by omega)
  refine fn_ok (k := 1) (N := ["script", "choice", "places", "rounds", "edge", "k", "things", "told", "found"]) (g := b_law) T.d_law.F sc_law fun cdv A outer s H E hr => ?_
  have S := sc_law
  exact (bv_cons (sv_set 1 S.nd (ev_bin e_mod (ev_callTy c_int (by rfl) T.n_int (by decide +kernel) (av_cons (ev_fn (takes_of rfl rfl rfl rfl) G__law_cell hr T.d__law_cell.g T.d__law_cell.kp T.d__law_cell.B (av_cons (ev_var 0) (av_cons ev_int av_nil))) av_nil)) ev_int))
  (bv_cons (sv_set 2 S.nd (ev_bin e_add ev_int (ev_bin e_mod (ev_callTy c_int (by rfl) T.n_int (by decide +kernel) (av_cons (ev_var 1) av_nil)) ev_int)))
  (bv_cons (sv_set 3 S.nd (ev_bin e_mod (ev_bin e_fdiv (ev_callTy c_int (by rfl) T.n_int (by decide +kernel) (av_cons (ev_var 1) av_nil)) ev_int) ev_int))
  (bv_cons (sv_if (tv_w (wv_and (tv_cmp (e_eq hr.units) (ev_var 2) ev_int (nomark _)) (wv_and1 (tv_cmp (e_eq hr.units) (ev_var 3) ev_int (nomark _))))) (bv_one (sv_set 3 S.nd ev_int)) bv_nil)
  (bv_cons (sv_if (tv_w (wv_and (tv_cmp (e_eq hr.units) (ev_var 2) ev_int (nomark _)) (wv_and1 (tv_cmp e_gt (ev_var 3) ev_int (nomark _))))) (bv_one (sv_set 3 S.nd ev_int)) bv_nil)
  (bv_cons (sv_set 4 S.nd ev_int)
  (bv_cons (sv_for (passes_of rfl) rfl (iv_range1 (by rfl) T.n_range (av_cons (ev_var 2) av_nil)) (gv_name 5 S.nd) (bv_one (sv_set 4 S.nd (ev_bin e_fdiv (ev_bin e_mul (ev_var 4) (ev_bin e_add (ev_bin e_add (ev_var 3) (ev_var 5)) ev_int)) (ev_bin e_add (ev_var 5) ev_int)))))
  (bv_cons (sv_set 6 S.nd (ev_callB (c_max2 rfl) (by rfl) T.n_max (by decide +kernel) (av_cons ev_int (av_cons (ev_callB (c_min2 rfl) (by rfl) T.n_min (by decide +kernel) (av_cons ev_int (av_cons (ev_bin e_add (ev_bin e_sub (ev_var 4) ev_int) (ev_bin e_mod (ev_bin e_fdiv (ev_callTy c_int (by rfl) T.n_int (by decide +kernel) (av_cons (ev_var 1) av_nil)) ev_int) ev_int)) av_nil))) av_nil))))
  (bv_cons (sv_set 7 S.nd (ev_fn (takes_of rfl rfl rfl rfl) G_most_things hr T.d_most_things.g T.d_most_things.kp T.d_most_things.B (av_cons (ev_var 2) (av_cons (ev_var 3) av_nil))))
  (bv_cons (sv_if (tv_w (wv_or (tv_not (tv_val (ev_fn (takes_of rfl rfl rfl rfl) G__law_whole hr T.d__law_whole.g T.d__law_whole.kp T.d__law_whole.B (av_cons (ev_var 7) av_nil)))) (wv_or1 (tv_cmp (e_ne hr.units) (ev_var 7) (ev_var 4) (nomark _))))) (bv_one (sv_ret ev_bl)) bv_nil)
  (bv_cons (sv_set 8 S.nd (ev_fn (takes_of rfl rfl rfl rfl) G__law_possible hr T.d__law_possible.g T.d__law_possible.kp T.d__law_possible.B (av_cons (ev_var 6) (av_cons (ev_var 2) (av_cons (ev_var 3) (av_cons ev_int av_nil))))))
  (bv_cons (sv_if (tv_cmp e_is (ev_var 8) ev_non (nomark _)) (bv_one (sv_ret ev_bl)) bv_nil)
  (bv_one (sv_ret (ev_cmp (e_eq hr.units) (ev_var 8) (ev_cmp e_le (ev_var 6) (ev_var 4) (nomark _)) (nomark _))))))))))))))))
/-! ### the head -/
def tx_mk {K : PySem.W.Frag} {h : Heap} {mg : Str → Option Value} (X : K.In h) (G : h.Ns mainGlobals mg) {od0 an0 : Option Addr} {sl0 : Array (Option Value)} {oc0 kV0 dc0 pm0 cd0 ct0 : Value} {f0 : Addr}
    (a0 : PySem.W.nsIn K mainGlobals "most_things" = some (some (.ref f0)))
    (l0 : K.lookup f0 = some ⟨oc0, od0, .func (PySem.W.fnOf "most_things" "most_things" (defArgs s_most_things) (defBody s_most_things) (defScope s_most_things) .none kV0 dc0 pm0 an0 cd0 ct0), sl0⟩)
    (c0 : PySem.W.codeIn K cd0 "most_things" = true) (k0 : PySem.W.keepIn K (.ref f0) = true)
    {od1 an1 : Option Addr} {sl1 : Array (Option Value)} {oc1 kV1 dc1 pm1 cd1 ct1 : Value} {f1 : Addr}
    (a1 : PySem.W.nsIn K mainGlobals "_law_possible" = some (some (.ref f1)))
    (l1 : K.lookup f1 = some ⟨oc1, od1, .func (PySem.W.fnOf "_law_possible" "_law_possible" (defArgs s__law_possible) (defBody s__law_possible) (defScope s__law_possible) .none kV1 dc1 pm1 an1 cd1 ct1), sl1⟩)
    (c1 : PySem.W.codeIn K cd1 "_law_possible" = true) (k1 : PySem.W.keepIn K (.ref f1) = true)
    {od2 an2 : Option Addr} {sl2 : Array (Option Value)} {oc2 kV2 dc2 pm2 cd2 ct2 : Value} {f2 : Addr}
    (a2 : PySem.W.nsIn K mainGlobals "_law_cell" = some (some (.ref f2)))
    (l2 : K.lookup f2 = some ⟨oc2, od2, .func (PySem.W.fnOf "_law_cell" "_law_cell" (defArgs s__law_cell) (defBody s__law_cell) (defScope s__law_cell) .none kV2 dc2 pm2 an2 cd2 ct2), sl2⟩)
    (c2 : PySem.W.codeIn K cd2 "_law_cell" = true) (k2 : PySem.W.keepIn K (.ref f2) = true)
    {od3 an3 : Option Addr} {sl3 : Array (Option Value)} {oc3 kV3 dc3 pm3 cd3 ct3 : Value} {f3 : Addr}
    (a3 : PySem.W.nsIn K mainGlobals "_law_whole" = some (some (.ref f3)))
    (l3 : K.lookup f3 = some ⟨oc3, od3, .func (PySem.W.fnOf "_law_whole" "_law_whole" (defArgs s__law_whole) (defBody s__law_whole) (defScope s__law_whole) .none kV3 dc3 pm3 an3 cd3 ct3), sl3⟩)
    (c3 : PySem.W.codeIn K cd3 "_law_whole" = true) (k3 : PySem.W.keepIn K (.ref f3) = true)
    {od4 an4 : Option Addr} {sl4 : Array (Option Value)} {oc4 kV4 dc4 pm4 cd4 ct4 : Value} {f4 : Addr}
    (a4 : PySem.W.nsIn K mainGlobals "law" = some (some (.ref f4)))
    (l4 : K.lookup f4 = some ⟨oc4, od4, .func (PySem.W.fnOf "law" "law" (defArgs s_law) (defBody s_law) (defScope s_law) .none kV4 dc4 pm4 an4 cd4 ct4), sl4⟩)
    (c4 : PySem.W.codeIn K cd4 "law" = true) (k4 : PySem.W.keepIn K (.ref f4) = true)
    (z_bool : PySem.W.nsIn K mainGlobals "bool" = some none)
    (z_int : PySem.W.nsIn K mainGlobals "int" = some none)
    (z_isinstance : PySem.W.nsIn K mainGlobals "isinstance" = some none)
    (z_len : PySem.W.nsIn K mainGlobals "len" = some none)
    (z_list : PySem.W.nsIn K mainGlobals "list" = some none)
    (z_max : PySem.W.nsIn K mainGlobals "max" = some none)
    (z_min : PySem.W.nsIn K mainGlobals "min" = some none)
    (z_range : PySem.W.nsIn K mainGlobals "range" = some none)
    (z_sorted : PySem.W.nsIn K mainGlobals "sorted" = some none)
    (z_tuple : PySem.W.nsIn K mainGlobals "tuple" = some none) : Tx K mg where
  d_most_things := ⟨_, _, fun_mk (st := s_most_things) l0 c0 k0, (fun_mk (st := s_most_things) l0 c0 k0).binds (fun _ _ _ _ _ _ us hl => match us, hl with | [_, _], _ => rfl), PySem.W.mg_of X G a0⟩
  d__law_possible := ⟨_, _, fun_mk (st := s__law_possible) l1 c1 k1, (fun_mk (st := s__law_possible) l1 c1 k1).binds (fun _ _ _ _ _ _ us hl => match us, hl with | [_, _, _, _], _ => rfl), PySem.W.mg_of X G a1⟩
  d__law_cell := ⟨_, _, fun_mk (st := s__law_cell) l2 c2 k2, (fun_mk (st := s__law_cell) l2 c2 k2).binds (fun _ _ _ _ _ _ us hl => match us, hl with | [_, _], _ => rfl), PySem.W.mg_of X G a2⟩
  d__law_whole := ⟨_, _, fun_mk (st := s__law_whole) l3 c3 k3, (fun_mk (st := s__law_whole) l3 c3 k3).binds (fun _ _ _ _ _ _ us hl => match us, hl with | [_], _ => rfl), PySem.W.mg_of X G a3⟩
  d_law := ⟨_, _, fun_mk (st := s_law) l4 c4 k4, (fun_mk (st := s_law) l4 c4 k4).binds (fun _ _ _ _ _ _ us hl => match us, hl with | [_], _ => rfl), PySem.W.mg_of X G a4⟩
  n_bool := PySem.W.mg_none_of X G z_bool
  n_int := PySem.W.mg_none_of X G z_int
  n_isinstance := PySem.W.mg_none_of X G z_isinstance
  n_len := PySem.W.mg_none_of X G z_len
  n_list := PySem.W.mg_none_of X G z_list
  n_max := PySem.W.mg_none_of X G z_max
  n_min := PySem.W.mg_none_of X G z_min
  n_range := PySem.W.mg_none_of X G z_range
  n_sorted := PySem.W.mg_none_of X G z_sorted
  n_tuple := PySem.W.mg_none_of X G z_tuple
theorem all_mk {l : PySem.W.OpenLaw} {w : World} {K : PySem.W.Frag} {h : Heap} {mg : Str → Option Value} {fa : Addr} (X : K.In h) (G : h.Ns mainGlobals mg) (hfa : mg "law" = some (.ref fa)) {od0 an0 : Option Addr} {sl0 : Array (Option Value)} {oc0 kV0 dc0 pm0 cd0 ct0 : Value} {f0 : Addr}
    (a0 : PySem.W.nsIn K mainGlobals "most_things" = some (some (.ref f0)))
    (l0 : K.lookup f0 = some ⟨oc0, od0, .func (PySem.W.fnOf "most_things" "most_things" (defArgs s_most_things) (defBody s_most_things) (defScope s_most_things) .none kV0 dc0 pm0 an0 cd0 ct0), sl0⟩)
    (c0 : PySem.W.codeIn K cd0 "most_things" = true) (k0 : PySem.W.keepIn K (.ref f0) = true)
    {od1 an1 : Option Addr} {sl1 : Array (Option Value)} {oc1 kV1 dc1 pm1 cd1 ct1 : Value} {f1 : Addr}
    (a1 : PySem.W.nsIn K mainGlobals "_law_possible" = some (some (.ref f1)))
    (l1 : K.lookup f1 = some ⟨oc1, od1, .func (PySem.W.fnOf "_law_possible" "_law_possible" (defArgs s__law_possible) (defBody s__law_possible) (defScope s__law_possible) .none kV1 dc1 pm1 an1 cd1 ct1), sl1⟩)
    (c1 : PySem.W.codeIn K cd1 "_law_possible" = true) (k1 : PySem.W.keepIn K (.ref f1) = true)
    {od2 an2 : Option Addr} {sl2 : Array (Option Value)} {oc2 kV2 dc2 pm2 cd2 ct2 : Value} {f2 : Addr}
    (a2 : PySem.W.nsIn K mainGlobals "_law_cell" = some (some (.ref f2)))
    (l2 : K.lookup f2 = some ⟨oc2, od2, .func (PySem.W.fnOf "_law_cell" "_law_cell" (defArgs s__law_cell) (defBody s__law_cell) (defScope s__law_cell) .none kV2 dc2 pm2 an2 cd2 ct2), sl2⟩)
    (c2 : PySem.W.codeIn K cd2 "_law_cell" = true) (k2 : PySem.W.keepIn K (.ref f2) = true)
    {od3 an3 : Option Addr} {sl3 : Array (Option Value)} {oc3 kV3 dc3 pm3 cd3 ct3 : Value} {f3 : Addr}
    (a3 : PySem.W.nsIn K mainGlobals "_law_whole" = some (some (.ref f3)))
    (l3 : K.lookup f3 = some ⟨oc3, od3, .func (PySem.W.fnOf "_law_whole" "_law_whole" (defArgs s__law_whole) (defBody s__law_whole) (defScope s__law_whole) .none kV3 dc3 pm3 an3 cd3 ct3), sl3⟩)
    (c3 : PySem.W.codeIn K cd3 "_law_whole" = true) (k3 : PySem.W.keepIn K (.ref f3) = true)
    {od4 an4 : Option Addr} {sl4 : Array (Option Value)} {oc4 kV4 dc4 pm4 cd4 ct4 : Value} {f4 : Addr}
    (a4 : PySem.W.nsIn K mainGlobals "law" = some (some (.ref f4)))
    (l4 : K.lookup f4 = some ⟨oc4, od4, .func (PySem.W.fnOf "law" "law" (defArgs s_law) (defBody s_law) (defScope s_law) .none kV4 dc4 pm4 an4 cd4 ct4), sl4⟩)
    (c4 : PySem.W.codeIn K cd4 "law" = true) (k4 : PySem.W.keepIn K (.ref f4) = true)
    (z_bool : PySem.W.nsIn K mainGlobals "bool" = some none)
    (z_int : PySem.W.nsIn K mainGlobals "int" = some none)
    (z_isinstance : PySem.W.nsIn K mainGlobals "isinstance" = some none)
    (z_len : PySem.W.nsIn K mainGlobals "len" = some none)
    (z_list : PySem.W.nsIn K mainGlobals "list" = some none)
    (z_max : PySem.W.nsIn K mainGlobals "max" = some none)
    (z_min : PySem.W.nsIn K mainGlobals "min" = some none)
    (z_range : PySem.W.nsIn K mainGlobals "range" = some none)
    (z_sorted : PySem.W.nsIn K mainGlobals "sorted" = some none)
    (z_tuple : PySem.W.nsIn K mainGlobals "tuple" = some none) :
    ∃ fd : FuncData, (∀ (s : Shared) (v : Value), BindsTo s fd ⟨[v], []⟩ [("script", v)]) ∧ ∀ base : Heap, K.In base → base.Ns mainGlobals mg → FnOk l.prog w K mg base (L2.CX l.prog w) 2 fa fd ["script"] (spF ⟨l.prog, w, K, fun _ => 0⟩ 1 r_law) := by
  have e := hfa.symm.trans (PySem.W.mg_of X G a4)
  cases e
  exact ⟨_, fun s v => .of_eq rfl, fun base _ _ => ok_law (tx_mk X G a0 l0 c0 k0 a1 l1 c1 k1 a2 l2 c2 k2 a3 l3 c3 k3 a4 l4 c4 k4 z_bool z_int z_isinstance z_len z_list z_max z_min z_range z_sorted z_tuple) (Nat.le_refl _)⟩
end K73
open PySem PySem.W PyProof.Rows
set_option maxHeartbeats 0 in
theorem PySem.Challenge.cw_looporpile_k73_no_plan_beyond_holds : PySem.Challenge.rw_looporpile_k73_no_plan_beyond.Holds := by
  w_on; o_law; k_head; (case hw => w_witness2)
  k_fill
  refine L2.walk_of (l := PySem.Challenge.rw_looporpile_k73_no_plan_beyond) (n := 63) (k := 2) (x := "script") (CX := fun w => L2.CX PySem.Challenge.rw_looporpile_k73_no_plan_beyond.prog w) (sp := fun w => Ev.spF ⟨PySem.Challenge.rw_looporpile_k73_no_plan_beyond.prog, w, _, fun _ => 0⟩ 1 K73.r_law) rfl (by decide) rfl ⟨rfl, by decide, by decide⟩ (fun w h Y => PySem.W.kIn_of Y) ?F (fun w H a ns hl hO hS => Ev.law_start K73.law_true hl hO hS) (fun _ _ _ _ _ h => Ev.cx_none h)
  case F =>
    intro w mg fa h KX G hmg
    refine' K73.all_mk KX G hmg ?a0 ?l0 ?c0 ?k0 ?a1 ?l1 ?c1 ?k1 ?a2 ?l2 ?c2 ?k2 ?a3 ?l3 ?c3 ?k3 ?a4 ?l4 ?c4 ?k4 ?z_bool ?z_int ?z_isinstance ?z_len ?z_list ?z_max ?z_min ?z_range ?z_sorted ?z_tuple
    (case a0 => k_is); (case l0 => k_is); (case c0 => k_is); (case k0 => k_is); (case a1 => k_is); (case l1 => k_is); (case c1 => k_is); (case k1 => k_is); (case a2 => k_is); (case l2 => k_is); (case c2 => k_is); (case k2 => k_is); (case a3 => k_is); (case l3 => k_is); (case c3 => k_is); (case k3 => k_is); (case a4 => k_is); (case l4 => k_is); (case c4 => k_is); (case k4 => k_is); (case z_bool => k_is); (case z_int => k_is); (case z_isinstance => k_is); (case z_len => k_is); (case z_list => k_is); (case z_max => k_is); (case z_min => k_is); (case z_range => k_is); (case z_sorted => k_is); (case z_tuple => k_is)
