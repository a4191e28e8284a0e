import PyProof.Rows.All
import Wide.All
import OpenK.AllK
import Wide.FinOn
import HandS.ForMost
import HandS.TupAny
import HandS.Deep
import HandS.TupMul
import HandS.Flow
import HandS.WordsDict
import HandS.StrMore
import HandS.Wide
import HandS.IsInst
import HandS.SortInts
import HandS.Gcd
import HandS.Zip
import HandS.Rev
import HandS.RevRange
import KE.GoesEnum
import HandS.TupLe
import HandS.SortRule
import KE.KItemsList
import HandS.SortKw
import HandS.DictTup
import KE.KSortTupAny
import KE.KDictPairs
import HandS.More
import PySem.Challenge.RW_farkept_k60_whole_bags
import HandS.EndBits
set_option Elab.async false
set_option linter.all false
set_option maxRecDepth 100000
set_option maxHeartbeats 4000000
/-! PF1: data D, how it lies in the abstract heap (Rep), what is owned (Own), the state of a frame (Sta). -/
namespace PF
open PySem PySem.Spec PyProof.Rows L2

/-- a dict's kind: keys that are ints and texts; tuples of such; any data -/
inductive DK where
  | k | t | n
  deriving DecidableEq, Inhabited
inductive D where
  | non | bl (b : Bool) | int (i : Int) | str (x : Str)
  | tup (ds : List D) | lst (ds : List D) | dic (t : DK) (kvs : List (D × D)) | wtp (ds : List D)
  deriving Inhabited

/-- keys of dicts of the layer -/
def keyOf : D → Option Key
  | .int i => some (.inl i)
  | .str x => some (.inr x)
  | _ => none
def keysOf : List D → Option (List Key)
  | [] => some []
  | d :: ds => match keyOf d, keysOf ds with
    | some k, some ks => some (k :: ks)
    | _, _ => none
def tkeyOf : D → Option (List Key)
  | .tup ds => keysOf ds
  | _ => none

/-- how new tuples are tracked: with their object (so that it is known that no dict goes with it), or not -/
def mB : Bool := true
def IsTO (o : HO) (vs : List V) : Prop := if mB = true then ∃ its : List Value, o = .frz { cls := .type "tuple", data := .seq its.toArray } (.tup vs) else o = .tup vs
def TupAt (H : Hp) (a : Addr) (vs : List V) : Prop := ∃ o, H a = some o ∧ IsTO o vs
theorem TupAt.rd {H : Hp} {a : Addr} {vs : List V} (h : TupAt H a vs) : Rd H a (.tup vs) := by
  obtain ⟨o, e, h⟩ := h
  unfold IsTO at h
  split at h
  · obtain ⟨its, rfl⟩ := h
    exact .inr ⟨_, e⟩
  · subst h
    exact .inl e
theorem TupAt.sq {K : PySem.W.Frag} {H : Hp} {a : Addr} {vs : List V} (h : TupAt H a vs) : SqT K H a vs := .inl h.rd
theorem TupAt.mono {H H' : Hp} {a : Addr} {vs : List V} (s : Same H H') (h : TupAt H a vs) : TupAt H' a vs := by
  obtain ⟨o, e, h⟩ := h
  exact ⟨o, s _ _ e, h⟩
theorem TupAt.tup (hm : mB = false) {H : Hp} {a : Addr} {vs : List V} (h : TupAt H a vs) : H a = some (.tup vs) := by
  obtain ⟨o, e, h⟩ := h
  unfold IsTO at h
  rw [hm] at h
  simp only [Bool.false_eq_true, if_false] at h
  rw [e, h]
theorem TupAt.of (hm : mB = false) {H : Hp} {a : Addr} {vs : List V} (h : H a = some (.tup vs)) : TupAt H a vs := ⟨_, h, by unfold IsTO; rw [hm]; simp⟩
theorem _root_.L2.Inv.newTO {X : Cx} {pins : List (Addr × Obj)} {σ : L2.St} {H : Hp} {s : Shared} {its : List Value} {vs : List V} {t' : Nat} (I : Inv X pins σ H s) (r : Vals vs its) (hz : vs.length ≤ sizeLine) :
    ∃ o, IsTO o vs ∧ Inv X pins σ (upd H s.heap.objs.size o) { s with heap := s.heap.push { cls := .type "tuple", data := .seq its.toArray }, toks := t' } := by
  by_cases hm : mB = true
  · refine ⟨.frz { cls := .type "tuple", data := .seq its.toArray } (.tup vs), by unfold IsTO; rw [if_pos hm]; exact ⟨its, rfl⟩, ?_⟩
    exact I.laid (t' := t') (fun b ob q => Heap.get?_push_of_some _ q) (Nat.le_refl _) ⟨Heap.get?_push_size _ rfl, hz, its, r, IsTup.new _ _⟩
  · refine ⟨.tup vs, by unfold IsTO; rw [if_neg hm], ?_⟩
    exact I.laid (t' := t') (fun b ob q => Heap.get?_push_of_some _ q) (Nat.le_refl _) ⟨hz, its, r, IsTup.new _ _⟩

mutual
/-- v shows the datum d in the heap H, read only -/
def Rep (K : PySem.W.Frag) (H : Hp) : D → V → Prop
  | .non, v => v = .non
  | .bl b, v => v = .bl b
  | .int i, v => v = .int i
  | .str x, v => v = .str x
  | .tup ds, v => ∃ a vs, v = .ref a ∧ TupAt H a vs ∧ RepL K H ds vs
  | .lst ds, v => ∃ a vs, v = .ref a ∧ SqL K H a vs ∧ RepL K H ds vs
  | .dic t kvs, v => ∃ a, v = .ref a ∧ ((t = .k ∧ ∃ ks, Rd H a (.dK ks) ∧ RepK K H kvs ks) ∨ (t = .t ∧ ∃ ks, Rd H a (.dT ks) ∧ RepT K H kvs ks))
  | .wtp ds, v => ∃ a vs, v = .ref a ∧ SqT K H a vs ∧ RepL K H ds vs
def RepL (K : PySem.W.Frag) (H : Hp) : List D → List V → Prop
  | [], vs => vs = []
  | d :: ds, vs => ∃ v vr, vs = v :: vr ∧ Rep K H d v ∧ RepL K H ds vr
def RepK (K : PySem.W.Frag) (H : Hp) : List (D × D) → List (Key × V) → Prop
  | [], ks => ks = []
  | kd :: r, ks => ∃ k v kr, ks = (k, v) :: kr ∧ RepP K H kd k v ∧ RepK K H r kr
def RepP (K : PySem.W.Frag) (H : Hp) : D × D → Key → V → Prop
  | (k, d), k', v => keyOf k = some k' ∧ Rep K H d v
def RepT (K : PySem.W.Frag) (H : Hp) : List (D × D) → List (List Key × V) → Prop
  | [], ks => ks = []
  | kd :: r, ks => ∃ k v kr, ks = (k, v) :: kr ∧ RepQ K H kd k v ∧ RepT K H r kr
def RepQ (K : PySem.W.Frag) (H : Hp) : D × D → List Key → V → Prop
  | (k, d), k', v => tkeyOf k = some k' ∧ Rep K H d v
end

mutual
/-- no list, dict or set within -/
def puD : D → Bool
  | .tup ds => puL ds
  | .lst _ => false
  | .dic _ _ => false
  | .wtp _ => false
  | _ => true
def puL : List D → Bool
  | [] => true
  | d :: ds => puD d && puL ds
end

theorem Rd.mono {H H' : Hp} {a : Addr} {o : HO} (s : Same H H') (h : Rd H a o) : Rd H' a o := by
  rcases h with h | ⟨ob, h⟩
  · exact .inl (s _ _ h)
  · exact .inr ⟨ob, s _ _ h⟩
theorem SqL.mono {K : PySem.W.Frag} {H H' : Hp} {a : Addr} {xs : List V} (s : Same H H') (h : SqL K H a xs) : SqL K H' a xs := s.seq h
theorem SqT.mono {K : PySem.W.Frag} {H H' : Hp} {a : Addr} {xs : List V} (s : Same H H') (h : SqT K H a xs) : SqT K H' a xs := by
  rcases h with h | h
  · exact .inl (Rd.mono s h)
  · exact .inr h

mutual
theorem Rep.mono {K : PySem.W.Frag} {H H' : Hp} (s : Same H H') : ∀ (d : D) (v : V), Rep K H d v → Rep K H' d v
  | .non, v, h => by unfold Rep at h ⊢; exact h
  | .bl _, v, h => by unfold Rep at h ⊢; exact h
  | .int _, v, h => by unfold Rep at h ⊢; exact h
  | .str _, v, h => by unfold Rep at h ⊢; exact h
  | .tup ds, v, h => by
    unfold Rep at h ⊢
    obtain ⟨a, vs, e, h1, h2⟩ := h
    exact ⟨a, vs, e, h1.mono s, RepL.mono s ds vs h2⟩
  | .lst ds, v, h => by
    unfold Rep at h ⊢
    obtain ⟨a, vs, e, h1, h2⟩ := h
    exact ⟨a, vs, e, SqL.mono s h1, RepL.mono s ds vs h2⟩
  | .dic t kvs, v, h => by
    unfold Rep at h ⊢
    obtain ⟨a, e, h1⟩ := h
    refine ⟨a, e, ?_⟩
    rcases h1 with ⟨ht, ks, h1, h2⟩ | ⟨ht, ks, h1, h2⟩
    · exact .inl ⟨ht, ks, Rd.mono s h1, RepK.mono s kvs ks h2⟩
    · exact .inr ⟨ht, ks, Rd.mono s h1, RepT.mono s kvs ks h2⟩
  | .wtp ds, v, h => by
    unfold Rep at h ⊢
    obtain ⟨a, vs, e, h1, h2⟩ := h
    exact ⟨a, vs, e, SqT.mono s h1, RepL.mono s ds vs h2⟩
theorem RepL.mono {K : PySem.W.Frag} {H H' : Hp} (s : Same H H') : ∀ (ds : List D) (vs : List V), RepL K H ds vs → RepL K H' ds vs
  | [], vs, h => by unfold RepL at h ⊢; exact h
  | d :: ds, vs, h => by
    unfold RepL at h ⊢
    obtain ⟨v, vr, e, h1, h2⟩ := h
    exact ⟨v, vr, e, Rep.mono s d v h1, RepL.mono s ds vr h2⟩
theorem RepK.mono {K : PySem.W.Frag} {H H' : Hp} (s : Same H H') : ∀ (ds : List (D × D)) (vs : List (Key × V)), RepK K H ds vs → RepK K H' ds vs
  | [], vs, h => by unfold RepK at h ⊢; exact h
  | (k, d) :: ds, vs, h => by
    unfold RepK at h ⊢
    obtain ⟨k', v, vr, e, h1, h2⟩ := h
    unfold RepP at h1
    refine ⟨k', v, vr, e, ?_, RepK.mono s ds vr h2⟩
    unfold RepP
    exact ⟨h1.1, Rep.mono s d v h1.2⟩
theorem RepT.mono {K : PySem.W.Frag} {H H' : Hp} (s : Same H H') : ∀ (ds : List (D × D)) (vs : List (List Key × V)), RepT K H ds vs → RepT K H' ds vs
  | [], vs, h => by unfold RepT at h ⊢; exact h
  | (k, d) :: ds, vs, h => by
    unfold RepT at h ⊢
    obtain ⟨k', v, vr, e, h1, h2⟩ := h
    unfold RepQ at h1
    refine ⟨k', v, vr, e, ?_, RepT.mono s ds vr h2⟩
    unfold RepQ
    exact ⟨h1.1, Rep.mono s d v h1.2⟩
end

/-! ### lists of data, by place -/
theorem RepL.nil {K : PySem.W.Frag} {H : Hp} : RepL K H [] [] := by unfold RepL; rfl
theorem RepL.cons {K : PySem.W.Frag} {H : Hp} {d : D} {ds : List D} {v : V} {vs : List V} (h1 : Rep K H d v) (h2 : RepL K H ds vs) : RepL K H (d :: ds) (v :: vs) := by
  unfold RepL; exact ⟨v, vs, rfl, h1, h2⟩
theorem RepL.nil_inv {K : PySem.W.Frag} {H : Hp} {vs : List V} (h : RepL K H [] vs) : vs = [] := by unfold RepL at h; exact h
theorem RepL.cons_inv {K : PySem.W.Frag} {H : Hp} {d : D} {ds : List D} {vs : List V} (h : RepL K H (d :: ds) vs) : ∃ v vr, vs = v :: vr ∧ Rep K H d v ∧ RepL K H ds vr := by unfold RepL at h; exact h
theorem RepL.length {K : PySem.W.Frag} {H : Hp} : ∀ {ds : List D} {vs : List V}, RepL K H ds vs → vs.length = ds.length
  | [], vs, h => by rw [h.nil_inv]; rfl
  | d :: ds, vs, h => by
    obtain ⟨v, vr, rfl, _, h2⟩ := h.cons_inv
    rw [List.length_cons, List.length_cons, RepL.length h2]
theorem RepL.get {K : PySem.W.Frag} {H : Hp} : ∀ {ds : List D} {vs : List V} {i : Nat} {d : D}, RepL K H ds vs → ds[i]? = some d → ∃ v, vs[i]? = some v ∧ Rep K H d v
  | [], vs, i, d, h, e => by simp at e
  | x :: ds, vs, i, d, h, e => by
    obtain ⟨v, vr, rfl, h1, h2⟩ := h.cons_inv
    cases i with
    | zero =>
      simp at e
      subst e
      exact ⟨v, by simp, h1⟩
    | succ i =>
      obtain ⟨u, e1, e2⟩ := RepL.get (i := i) (d := d) h2 (by simpa using e)
      exact ⟨u, by simpa using e1, e2⟩
theorem RepL.getV {K : PySem.W.Frag} {H : Hp} {ds : List D} {vs : List V} {i : Nat} {v : V} (h : RepL K H ds vs) (e : vs[i]? = some v) : ∃ d, ds[i]? = some d ∧ Rep K H d v := by
  have hi : i < ds.length := by
    rw [← h.length]
    exact (List.getElem?_eq_some_iff.mp e).1
  obtain ⟨u, e1, r⟩ := h.get (i := i) (d := ds[i]) (List.getElem?_eq_getElem hi)
  rw [e] at e1
  cases e1
  exact ⟨_, List.getElem?_eq_getElem hi, r⟩
theorem RepL.append {K : PySem.W.Frag} {H : Hp} : ∀ {ds es : List D} {vs us : List V}, RepL K H ds vs → RepL K H es us → RepL K H (ds ++ es) (vs ++ us)
  | [], es, vs, us, h, h' => by rw [h.nil_inv]; exact h'
  | d :: ds, es, vs, us, h, h' => by
    obtain ⟨v, vr, rfl, h1, h2⟩ := h.cons_inv
    exact RepL.cons h1 (RepL.append h2 h')
theorem RepL.take {K : PySem.W.Frag} {H : Hp} : ∀ {ds : List D} {vs : List V} (n : Nat), RepL K H ds vs → RepL K H (ds.take n) (vs.take n)
  | ds, vs, 0, _ => by simp; exact RepL.nil
  | [], vs, n + 1, h => by rw [h.nil_inv]; exact RepL.nil
  | d :: ds, vs, n + 1, h => by
    obtain ⟨v, vr, rfl, h1, h2⟩ := h.cons_inv
    exact RepL.cons h1 (RepL.take n h2)
theorem RepL.drop {K : PySem.W.Frag} {H : Hp} : ∀ {ds : List D} {vs : List V} (n : Nat), RepL K H ds vs → RepL K H (ds.drop n) (vs.drop n)
  | ds, vs, 0, h => by simpa using h
  | [], vs, n + 1, h => by rw [h.nil_inv]; exact RepL.nil
  | d :: ds, vs, n + 1, h => by
    obtain ⟨v, vr, rfl, h1, h2⟩ := h.cons_inv
    exact RepL.drop n h2
theorem RepL.set {K : PySem.W.Frag} {H : Hp} {d : D} {v : V} (r : Rep K H d v) : ∀ {ds : List D} {vs : List V} (i : Nat), RepL K H ds vs → RepL K H (ds.set i d) (vs.set i v)
  | [], vs, i, h => by rw [h.nil_inv]; exact RepL.nil
  | x :: ds, vs, 0, h => by
    obtain ⟨v, vr, rfl, h1, h2⟩ := h.cons_inv
    exact RepL.cons r h2
  | x :: ds, vs, i + 1, h => by
    obtain ⟨v, vr, rfl, h1, h2⟩ := h.cons_inv
    exact RepL.cons h1 (RepL.set r i h2)
theorem RepL.rev {K : PySem.W.Frag} {H : Hp} : ∀ {ds : List D} {vs : List V}, RepL K H ds vs → RepL K H ds.reverse vs.reverse
  | [], vs, h => by rw [h.nil_inv]; exact RepL.nil
  | d :: ds, vs, h => by
    obtain ⟨v, vr, rfl, h1, h2⟩ := h.cons_inv
    rw [List.reverse_cons, List.reverse_cons]
    exact RepL.append (RepL.rev h2) (RepL.cons h1 RepL.nil)
theorem RepL.of_get {K : PySem.W.Frag} {H : Hp} : ∀ {ds : List D} {vs : List V}, vs.length = ds.length → (∀ (i : Nat) (d : D) (v : V), ds[i]? = some d → vs[i]? = some v → Rep K H d v) → RepL K H ds vs
  | [], [], _, _ => RepL.nil
  | [], v :: vs, h, _ => by simp at h
  | d :: ds, [], h, _ => by simp at h
  | d :: ds, v :: vs, h, f => RepL.cons (f 0 d v rfl rfl) (RepL.of_get (by simpa using h) fun i d' v' e e' => f (i + 1) d' v' (by simpa using e) (by simpa using e'))

/-! ### a heap without what stands in S -/
open Classical in
noncomputable def Rst (H : Hp) (S : Addr → Prop) : Hp := fun a => if S a then none else H a
theorem Rst.same {H : Hp} {S : Addr → Prop} : Same (Rst H S) H := fun b o e => by
  unfold Rst at e
  split at e
  · cases e
  · exact e
theorem Rst.at {H : Hp} {S : Addr → Prop} {a : Addr} (h : ¬ S a) : Rst H S a = H a := by unfold Rst; rw [if_neg h]
theorem Rst.some {H : Hp} {S : Addr → Prop} {a : Addr} {o : HO} (e : Rst H S a = .some o) : ¬ S a ∧ H a = .some o := by
  unfold Rst at e
  split at e
  · cases e
  · exact ⟨by assumption, e⟩
theorem Rst.none {H : Hp} {S : Addr → Prop} {a : Addr} (h : S a) : Rst H S a = .none := by unfold Rst; rw [if_pos h]
theorem Rst.mono {H H' : Hp} {S : Addr → Prop} (s : Same H H') : Same (Rst H S) (Rst H' S) := fun b o e => by
  obtain ⟨h1, h2⟩ := Rst.some e
  rw [Rst.at h1]
  exact s _ _ h2
theorem Rst.sub {H : Hp} {S S' : Addr → Prop} (h : ∀ a, S' a → S a) : Same (Rst H S) (Rst H S') := fun b o e => by
  obtain ⟨h1, h2⟩ := Rst.some e
  rw [Rst.at (fun q => h1 (h _ q))]
  exact h2
/-- what was allocated in H and not in S is not in S' -/
theorem Rst.fresh {H H' : Hp} {S S' : Addr → Prop} (s : Same H H') (h : ∀ a o, H a = .some o → S' a → S a) : Same (Rst H S) (Rst H' S') := fun b o e => by
  obtain ⟨h1, h2⟩ := Rst.some e
  rw [Rst.at (fun q => h1 (h _ _ h2 q))]
  exact s _ _ h2

/-! ### puD data need no list, dict or set -/
/-- no tuple, nothing locked -/
def Soft (H : Hp) (S : Addr → Prop) : Prop := ∀ a o, H a = some o → S a → (∀ xs, o ≠ .tup xs) ∧ ∀ ob u, o ≠ .frz ob u
theorem SqT.rst {K : PySem.W.Frag} {H : Hp} {S : Addr → Prop} {a : Addr} {xs : List V} (f : Soft H S) (h : SqT K H a xs) : SqT K (Rst H S) a xs := by
  rcases h with (h | ⟨ob, h⟩) | h
  · exact .inl (.inl (by rw [Rst.at fun q => (f _ _ h q).1 _ rfl]; exact h))
  · exact .inl (.inr ⟨ob, by rw [Rst.at fun q => (f _ _ h q).2 _ _ rfl]; exact h⟩)
  · exact .inr h
theorem TupAt.rst {H : Hp} {S : Addr → Prop} {a : Addr} {vs : List V} (f : Soft H S) (h : TupAt H a vs) : TupAt (Rst H S) a vs := by
  obtain ⟨o, e, h⟩ := h
  refine ⟨o, ?_, h⟩
  rw [Rst.at fun q => ?_]
  · exact e
  · unfold IsTO at h
    split at h
    · obtain ⟨its, rfl⟩ := h
      exact (f _ _ e q).2 _ _ rfl
    · subst h
      exact (f _ _ e q).1 _ rfl
mutual
theorem Rep.rst {K : PySem.W.Frag} {H : Hp} {S : Addr → Prop} (f : Soft H S) : ∀ (d : D) (v : V), puD d = true → Rep K H d v → Rep K (Rst H S) d v
  | .non, v, _, h => by unfold Rep at h ⊢; exact h
  | .bl _, v, _, h => by unfold Rep at h ⊢; exact h
  | .int _, v, _, h => by unfold Rep at h ⊢; exact h
  | .str _, v, _, h => by unfold Rep at h ⊢; exact h
  | .tup ds, v, p, h => by
    unfold Rep at h ⊢
    unfold puD at p
    obtain ⟨a, vs, e, h1, h2⟩ := h
    exact ⟨a, vs, e, h1.rst f, RepL.rst f ds vs p h2⟩
  | .lst ds, v, p, h => by unfold puD at p; cases p
  | .dic _ kvs, v, p, h => by unfold puD at p; cases p
  | .wtp _, v, p, h => by unfold puD at p; cases p
theorem RepL.rst {K : PySem.W.Frag} {H : Hp} {S : Addr → Prop} (f : Soft H S) : ∀ (ds : List D) (vs : List V), puL ds = true → RepL K H ds vs → RepL K (Rst H S) ds vs
  | [], vs, _, h => by unfold RepL at h ⊢; exact h
  | d :: ds, vs, p, h => by
    unfold RepL at h ⊢
    unfold puL at p
    rw [Bool.and_eq_true] at p
    obtain ⟨v, vr, e, h1, h2⟩ := h
    exact ⟨v, vr, e, Rep.rst f d v p.1 h1, RepL.rst f ds vr p.2 h2⟩
end

/-! ### what is owned: lists (and the values of dicts) down to a depth k, whose addresses are S; below that it is shared (in R) -/
def OwnL (P : D → V → (Addr → Prop) → Prop) : List D → List V → (Addr → Prop) → Prop
  | [], vs, S => vs = [] ∧ ∀ a, ¬ S a
  | d :: ds, vs, S => ∃ v vr S1 S2, vs = v :: vr ∧ P d v S1 ∧ OwnL P ds vr S2 ∧ (∀ a, S a ↔ S1 a ∨ S2 a) ∧ ∀ a, S1 a → ¬ S2 a
def Own (K : PySem.W.Frag) (R H : Hp) : Nat → D → V → (Addr → Prop) → Prop
  | 0, d, v, S => Rep K R d v ∧ ∀ a, ¬ S a
  | k + 1, d, v, S => ∃ a S', v = .ref a ∧ ¬ S' a ∧ (∀ b, S b ↔ b = a ∨ S' b) ∧ R a = none ∧
      ((∃ ds vs, d = .lst ds ∧ H a = some (.lst vs) ∧ OwnL (Own K R H k) ds vs S') ∨
       (∃ kvs ks, d = .dic .k kvs ∧ H a = some (.dK ks) ∧ kvs.map (fun p => keyOf p.1) = ks.map (fun p => some p.1) ∧ OwnL (Own K R H k) (kvs.map (·.2)) (ks.map (·.2)) S') ∨
       (∃ kvs ks, d = .dic .t kvs ∧ H a = some (.dT ks) ∧ kvs.map (fun p => tkeyOf p.1) = ks.map (fun p => some p.1) ∧ OwnL (Own K R H k) (kvs.map (·.2)) (ks.map (·.2)) S'))

theorem OwnL.imp {P P' : D → V → (Addr → Prop) → Prop} : ∀ {ds : List D} {vs : List V} {S : Addr → Prop}, (∀ d v S', (∀ a, S' a → S a) → d ∈ ds → P d v S' → P' d v S') → OwnL P ds vs S → OwnL P' ds vs S
  | [], vs, S, _, h => h
  | d :: ds, vs, S, f, h => by
    obtain ⟨v, vr, S1, S2, e, h1, h2, h3, h4⟩ := h
    exact ⟨v, vr, S1, S2, e, f _ _ _ (fun a q => (h3 a).mpr (.inl q)) (List.mem_cons_self) h1, OwnL.imp (fun d' v' S' q m => f d' v' S' (fun a z => (h3 a).mpr (.inr (q a z))) (List.mem_cons_of_mem _ m)) h2, h3, h4⟩
theorem Own.mono {K : PySem.W.Frag} {R R' H H' : Hp} : ∀ {k : Nat} {d : D} {v : V} {S : Addr → Prop}, Same R R' → (∀ a o, S a → H a = some o → H' a = some o) → (∀ a, S a → R' a = none) → Own K R H k d v S → Own K R' H' k d v S
  | 0, d, v, S, s, _, _, h => ⟨Rep.mono s d v h.1, h.2⟩
  | k + 1, d, v, S, s, e, z, h => by
    obtain ⟨a, S', ev, na, hs, ra, h⟩ := h
    have sub : ∀ b, S' b → S b := fun b q => (hs b).mpr (.inr q)
    have ha : S a := (hs a).mpr (.inl rfl)
    refine ⟨a, S', ev, na, hs, z a ha, ?_⟩
    rcases h with ⟨ds, vs, e1, e2, e3⟩ | ⟨kvs, ks, e1, e2, e4, e3⟩ | ⟨kvs, ks, e1, e2, e4, e3⟩
    · exact .inl ⟨ds, vs, e1, e _ _ ha e2, OwnL.imp (fun d' v' S'' q _ h' => Own.mono s (fun b o m => e b o (sub b (q b m))) (fun b m => z b (sub b (q b m))) h') e3⟩
    · exact .inr (.inl ⟨kvs, ks, e1, e _ _ ha e2, e4, OwnL.imp (fun d' v' S'' q _ h' => Own.mono s (fun b o m => e b o (sub b (q b m))) (fun b m => z b (sub b (q b m))) h') e3⟩)
    · exact .inr (.inr ⟨kvs, ks, e1, e _ _ ha e2, e4, OwnL.imp (fun d' v' S'' q _ h' => Own.mono s (fun b o m => e b o (sub b (q b m))) (fun b m => z b (sub b (q b m))) h') e3⟩)
theorem OwnL.repL {P : D → V → (Addr → Prop) → Prop} {K : PySem.W.Frag} {H : Hp} : ∀ {ds : List D} {vs : List V} {S : Addr → Prop}, (∀ d v S', (∀ a, S' a → S a) → P d v S' → Rep K H d v) → OwnL P ds vs S → RepL K H ds vs
  | [], vs, S, _, h => by rw [h.1]; exact RepL.nil
  | d :: ds, vs, S, f, h => by
    obtain ⟨v, vr, S1, S2, rfl, h1, h2, h3, h4⟩ := h
    exact RepL.cons (f _ _ _ (fun a q => (h3 a).mpr (.inl q)) h1) (OwnL.repL (fun d' v' S' q => f d' v' S' fun a z => (h3 a).mpr (.inr (q a z))) h2)
theorem RepK.of {K : PySem.W.Frag} {H : Hp} : ∀ {kvs : List (D × D)} {ks : List (Key × V)}, kvs.map (fun p => keyOf p.1) = ks.map (fun p => some p.1) → RepL K H (kvs.map (·.2)) (ks.map (·.2)) → RepK K H kvs ks
  | [], [], _, _ => by unfold RepK; rfl
  | [], _ :: _, h, _ => by simp at h
  | _ :: _, [], h, _ => by simp at h
  | (k, d) :: r, (k', v) :: kr, h, h2 => by
    simp only [List.map_cons, List.cons.injEq] at h
    obtain ⟨v0, vr, e, h3, h4⟩ := h2.cons_inv
    simp only [List.map_cons, List.cons.injEq] at e
    obtain ⟨e1, e2⟩ := e
    subst e1
    unfold RepK
    refine ⟨k', v, kr, rfl, ?_, RepK.of h.2 (by rw [e2]; exact h4)⟩
    unfold RepP
    exact ⟨h.1, h3⟩
theorem RepT.of {K : PySem.W.Frag} {H : Hp} : ∀ {kvs : List (D × D)} {ks : List (List Key × V)}, kvs.map (fun p => tkeyOf p.1) = ks.map (fun p => some p.1) → RepL K H (kvs.map (·.2)) (ks.map (·.2)) → RepT K H kvs ks
  | [], [], _, _ => by unfold RepT; rfl
  | [], _ :: _, h, _ => by simp at h
  | _ :: _, [], h, _ => by simp at h
  | (k, d) :: r, (k', v) :: kr, h, h2 => by
    simp only [List.map_cons, List.cons.injEq] at h
    obtain ⟨v0, vr, e, h3, h4⟩ := h2.cons_inv
    simp only [List.map_cons, List.cons.injEq] at e
    obtain ⟨e1, e2⟩ := e
    subst e1
    unfold RepT
    refine ⟨k', v, kr, rfl, ?_, RepT.of h.2 (by rw [e2]; exact h4)⟩
    unfold RepQ
    exact ⟨h.1, h3⟩
/-- what is owned may be read: in any heap that has the shared part and what is owned -/
theorem Own.rep {K : PySem.W.Frag} {R H H' : Hp} : ∀ {k : Nat} {d : D} {v : V} {S : Addr → Prop}, Same R H' → (∀ a o, S a → H a = some o → H' a = some o) → Own K R H k d v S → Rep K H' d v
  | 0, d, v, S, s, _, h => Rep.mono s d v h.1
  | k + 1, d, v, S, s, e, h => by
    obtain ⟨a, S', rfl, na, hs, ra, h⟩ := h
    have sub : ∀ b, S' b → S b := fun b q => (hs b).mpr (.inr q)
    have ha : S a := (hs a).mpr (.inl rfl)
    rcases h with ⟨ds, vs, rfl, e2, e3⟩ | ⟨kvs, ks, rfl, e2, e4, e3⟩ | ⟨kvs, ks, rfl, e2, e4, e3⟩
    · unfold Rep
      exact ⟨a, vs, rfl, SqL.of (e _ _ ha e2), OwnL.repL (fun d' v' S'' q h' => Own.rep s (fun b o m => e b o (sub b (q b m))) h') e3⟩
    · unfold Rep
      exact ⟨a, rfl, .inl ⟨rfl, ks, .inl (e _ _ ha e2), RepK.of e4 (OwnL.repL (fun d' v' S'' q h' => Own.rep s (fun b o m => e b o (sub b (q b m))) h') e3)⟩⟩
    · unfold Rep
      exact ⟨a, rfl, .inr ⟨rfl, ks, .inl (e _ _ ha e2), RepT.of e4 (OwnL.repL (fun d' v' S'' q h' => Own.rep s (fun b o m => e b o (sub b (q b m))) h') e3)⟩⟩
/-- what is owned is allocated, no tuple, nothing locked -/
theorem OwnL.at {P : D → V → (Addr → Prop) → Prop} {C : Addr → Prop} : ∀ {ds : List D} {vs : List V} {S : Addr → Prop}, (∀ d v S', P d v S' → ∀ a, S' a → C a) → OwnL P ds vs S → ∀ a, S a → C a
  | [], vs, S, _, h, a, q => (h.2 a q).elim
  | d :: ds, vs, S, f, h, a, q => by
    obtain ⟨v, vr, S1, S2, rfl, h1, h2, h3, h4⟩ := h
    rcases (h3 a).mp q with q | q
    · exact f _ _ _ h1 a q
    · exact OwnL.at f h2 a q
def SoftO (o : HO) : Prop := (∀ xs, o ≠ .tup xs) ∧ ∀ ob u, o ≠ .frz ob u
theorem Own.soft {K : PySem.W.Frag} {R H : Hp} : ∀ {k : Nat} {d : D} {v : V} {S : Addr → Prop}, Own K R H k d v S → ∀ a, S a → R a = none ∧ ∃ o, H a = some o ∧ SoftO o
  | 0, d, v, S, h, a, q => (h.2 a q).elim
  | k + 1, d, v, S, h, b, q => by
    obtain ⟨a, S', rfl, na, hs, ra, h⟩ := h
    rcases (hs b).mp q with rfl | q
    · refine ⟨ra, ?_⟩
      rcases h with ⟨ds, vs, rfl, e2, e3⟩ | ⟨kvs, ks, rfl, e2, e4, e3⟩ | ⟨kvs, ks, rfl, e2, e4, e3⟩
      all_goals exact ⟨_, e2, (by intro _ z; cases z), (by intro _ _ z; cases z)⟩
    · rcases h with ⟨ds, vs, rfl, e2, e3⟩ | ⟨kvs, ks, rfl, e2, e4, e3⟩ | ⟨kvs, ks, rfl, e2, e4, e3⟩
      all_goals exact OwnL.at (P := Own K R H k) (C := fun c => R c = none ∧ ∃ o, H c = some o ∧ SoftO o) (fun d' v' S'' h' c m => Own.soft h' c m) e3 b q

/-! ### the frame's state -/
/-- a slot: unset; or a datum that is owned down to a depth (0: shared) -/
abbrev Env := List (Option (Nat × D))
def Un (O : Nat → Addr → Prop) (T : Addr → Prop) : Addr → Prop := fun a => T a ∨ ∃ i, O i a
abbrev O0 : Nat → Addr → Prop := fun _ _ => False
abbrev T0 : Addr → Prop := fun _ => False
structure Sta (K : PySem.W.Frag) (H : Hp) (σ : L2.St) (ρ : Env) (O : Nat → Addr → Prop) (T : Addr → Prop) (B : Hp) : Prop where
  len : σ.length = ρ.length
  slot : ∀ (i : Nat) k d, ρ[i]? = some (some (k, d)) → ∃ v, σ[i]? = some (some v) ∧ Own K (Rst H (Un O T)) H k d v (O i)
  nil : ∀ i, (∀ k d, ρ[i]? ≠ some (some (k, d))) → ∀ a, ¬ O i a
  dis : ∀ i j a, O i a → O j a → i = j
  disT : ∀ i a, O i a → ¬ T a
  allT : ∀ a, T a → ∃ o, H a = some o ∧ SoftO o
  base : Same B H
  baseO : ∀ i a, O i a → B a = none

section
variable {K : PySem.W.Frag} {H H' : Hp} {σ : L2.St} {ρ : Env} {O : Nat → Addr → Prop} {T : Addr → Prop} {B : Hp}
theorem Sta.allO (st : Sta K H σ ρ O T B) {i : Nat} {a : Addr} (q : O i a) : ∃ o, H a = some o ∧ SoftO o := by
  by_cases h : ∃ k d, ρ[i]? = some (some (k, d))
  · obtain ⟨k, d, e⟩ := h
    obtain ⟨v, _, w⟩ := st.slot i k d e
    exact (w.soft a q).2
  · exact (st.nil i (fun k d e => h ⟨k, d, e⟩) a q).elim
theorem Sta.allU (st : Sta K H σ ρ O T B) {a : Addr} (q : Un O T a) : ∃ o, H a = some o ∧ SoftO o := by
  rcases q with q | ⟨i, q⟩
  · exact st.allT a q
  · exact st.allO q
theorem Sta.soft (st : Sta K H σ ρ O T B) (s : Same H H') : Soft H' (Un O T) := fun a o e q => by
  obtain ⟨o', e', f⟩ := st.allU q
  rw [s _ _ e'] at e
  cases e
  exact f
/-- the heap has grown -/
theorem Sta.mono (st : Sta K H σ ρ O T B) (s : Same H H') : Sta K H' σ ρ O T B where
  len := st.len
  slot := fun i k d e => by
    obtain ⟨v, e1, w⟩ := st.slot i k d e
    exact ⟨v, e1, w.mono (Rst.mono s) (fun a o _ q => s _ _ q) fun a q => Rst.none (Or.inr ⟨i, q⟩)⟩
  nil := st.nil
  dis := st.dis
  disT := st.disT
  allT := fun a q => by
    obtain ⟨o, e, f⟩ := st.allT a q
    exact ⟨o, s _ _ e, f⟩
  base := st.base.trans s
  baseO := st.baseO
/-- more temporaries: new ones -/
theorem Sta.temp {S : Addr → Prop} (st : Sta K H σ ρ O T B) (s : Same H H') (f : ∀ a, S a → H a = none) (al : ∀ a, S a → ∃ o, H' a = some o ∧ SoftO o) : Sta K H' σ ρ O (fun a => T a ∨ S a) B where
  len := st.len
  slot := fun i k d e => by
    obtain ⟨v, e1, w⟩ := st.slot i k d e
    refine ⟨v, e1, w.mono (Rst.fresh s fun a o e2 q => ?_) (fun a o _ q => s _ _ q) fun a q => Rst.none (Or.inr ⟨i, q⟩)⟩
    rcases q with (q | q) | q
    · exact .inl q
    · rw [f _ q] at e2; cases e2
    · exact .inr q
  nil := st.nil
  dis := st.dis
  disT := fun i a q z => by
    rcases z with z | z
    · exact st.disT i a q z
    · obtain ⟨o, e, _⟩ := st.allO q
      rw [f _ z] at e; cases e
  allT := fun a q => by
    rcases q with q | q
    · obtain ⟨o, e, f⟩ := st.allT a q
      exact ⟨o, s _ _ e, f⟩
    · exact al a q
  base := st.base.trans s
  baseO := st.baseO
end
end PF

set_option Elab.async false
set_option linter.all false
set_option maxRecDepth 100000
set_option maxHeartbeats 4000000
/-! PF2: what an expression, a test, an argument list computes. -/
namespace PF
open PySem PySem.Spec PyProof.Rows L2

/-- how a value is held: new and owned down to k; borrowed from what slots own, down to k (0: shared); unknown -/
inductive Fl where
  | fr (k : Nat) | bo (k : Nat) | any
abbrev EF := Env → Option (D × Fl)
abbrev TF := Env → Option Bool
abbrev AF := Env → Option (List D × Bool)

def shr (d : D) : Fl → Bool
  | .fr _ => true
  | .bo 0 => true
  | _ => puD d
def puE : D → Bool
  | .lst ds => puL ds
  | d => puD d
/-- the items may be shared -/
def eshr (d : D) : Fl → Bool
  | .fr _ => true
  | .bo 0 => true
  | .bo 1 => true
  | _ => puE d

def Res (K : PySem.W.Frag) (H H' : Hp) (O : Nat → Addr → Prop) (T : Addr → Prop) (d : D) (fl : Fl) (v : V) : Prop :=
  match fl with
  | .fr k => ∃ S : Addr → Prop, (∀ a, S a → H a = none) ∧ Own K (Rst H' (fun a => Un O T a ∨ S a)) H' k d v S
  | .bo k => ∃ S : Addr → Prop, (∀ a, S a → ∃ i, O i a) ∧ Own K (Rst H' (Un O T)) H' k d v S
  | .any => Rep K H' d v

section
variable {K : PySem.W.Frag} {H H1 H' : Hp} {σ : L2.St} {ρ : Env} {O : Nat → Addr → Prop} {T : Addr → Prop} {B : Hp} {d : D} {fl : Fl} {v : V}
theorem Res.rep (r : Res K H H' O T d fl v) : Rep K H' d v := by
  cases fl with
  | any => exact r
  | fr k =>
    obtain ⟨S, _, w⟩ := r
    exact w.rep Rst.same fun _ _ _ e => e
  | bo k =>
    obtain ⟨S, _, w⟩ := r
    exact w.rep Rst.same fun _ _ _ e => e
theorem Res.sh (h : Rep K (Rst H' (Un O T)) d v) : Res K H H' O T d (.fr 0) v := by
  refine ⟨fun _ => False, fun _ q => q.elim, Rep.mono (Rst.sub fun a q => ?_) d v h, fun _ q => q⟩
  rcases q with q | q
  · exact q
  · exact q.elim
theorem notU {S : Addr → Prop} (st : Sta K H σ ρ O T B) (f : ∀ a, S a → H a = none) : ∀ a, S a → ¬ Un O T a := fun a q z => by
  obtain ⟨o, e, _⟩ := st.allU z
  rw [f a q] at e
  cases e
theorem Res.shared (st : Sta K H σ ρ O T B) (s : Same H H') (r : Res K H H' O T d fl v) (h : shr d fl = true) : Rep K (Rst H' (Un O T)) d v := by
  cases fl with
  | any => exact Rep.rst (st.soft s) d v h r
  | fr k =>
    obtain ⟨S, f, w⟩ := r
    refine w.rep (Rst.sub fun a q => .inl q) fun a o q e => ?_
    rw [Rst.at (notU st f a q)]
    exact e
  | bo k =>
    cases k with
    | zero =>
      obtain ⟨S, f, w⟩ := r
      exact w.1
    | succ k => exact Rep.rst (st.soft s) d v h r.rep
/-- a list's items -/
theorem Res.items {ds : List D} (st : Sta K H σ ρ O T B) (s : Same H H') (r : Res K H H' O T (.lst ds) fl v) :
    ∃ a vs, v = .ref a ∧ SqL K H' a vs ∧ RepL K H' ds vs ∧ (eshr (.lst ds) fl = true → RepL K (Rst H' (Un O T)) ds vs) := by
  cases fl with
  | any =>
    have r0 : Rep K H' (.lst ds) v := r
    unfold Rep at r0
    obtain ⟨a, vs, rfl, h1, h2⟩ := r0
    exact ⟨a, vs, rfl, h1, h2, fun h => RepL.rst (st.soft s) ds vs h h2⟩
  | fr k =>
    obtain ⟨S, f, w⟩ := r
    have u := w.rep (H' := Rst H' (Un O T)) (Rst.sub fun a q => .inl q) fun a o q e => by
      rw [Rst.at (notU st f a q)]
      exact e
    unfold Rep at u
    obtain ⟨a, vs, rfl, h1, h2⟩ := u
    exact ⟨a, vs, rfl, SqL.mono Rst.same h1, RepL.mono Rst.same _ _ h2, fun _ => h2⟩
  | bo k =>
    obtain ⟨S, f, w⟩ := r
    cases k with
    | zero =>
      have u := w.1
      unfold Rep at u
      obtain ⟨a, vs, rfl, h1, h2⟩ := u
      exact ⟨a, vs, rfl, SqL.mono Rst.same h1, RepL.mono Rst.same _ _ h2, fun _ => h2⟩
    | succ k =>
      obtain ⟨a, S', rfl, na, hs, ra, w⟩ := w
      rcases w with ⟨ds', vs, e1, e2, e3⟩ | ⟨kvs, ks, e1, _⟩ | ⟨kvs, ks, e1, _⟩
      · cases e1
        have h2 : RepL K H' ds vs := OwnL.repL (fun d' v' S'' q h' => Own.rep Rst.same (fun b o m e => e) h') e3
        refine ⟨a, vs, rfl, SqL.of e2, h2, fun h => ?_⟩
        cases k with
        | zero => exact OwnL.repL (fun d' v' S'' q h' => h'.1) e3
        | succ k => exact RepL.rst (st.soft s) ds vs h h2
      · cases e1
      · cases e1
/-- a tuple's items -/
theorem Res.tuple {ds : List D} (st : Sta K H σ ρ O T B) (s : Same H H') (r : Res K H H' O T (.tup ds) fl v) :
    ∃ a vs, v = .ref a ∧ SqT K H' a vs ∧ RepL K H' ds vs ∧ (shr (.tup ds) fl = true → RepL K (Rst H' (Un O T)) ds vs) := by
  by_cases h : shr (.tup ds) fl = true
  · have u := r.shared st s h
    unfold Rep at u
    obtain ⟨a, vs, rfl, h1, h2⟩ := u
    exact ⟨a, vs, rfl, SqT.mono Rst.same h1.sq, RepL.mono Rst.same _ _ h2, fun _ => h2⟩
  · have u := r.rep
    unfold Rep at u
    obtain ⟨a, vs, rfl, h1, h2⟩ := u
    exact ⟨a, vs, rfl, h1.sq, h2, fun h' => absurd h' h⟩
/-- a new list of shared items is owned -/
theorem Res.newL {ds : List D} {vs : List V} {p : Addr} (st : Sta K H σ ρ O T B) (s : Same H H1) (h : RepL K (Rst H1 (Un O T)) ds vs) (n : H1 p = none) : Res K H (upd H1 p (.lst vs)) O T (.lst ds) (.fr 1) (.ref p) := by
  have nH : H p = none := s.free n
  have s1 : Same H1 (upd H1 p (.lst vs)) := fun b o e => by
    rw [upd_ne (ne_of_none e n)]
    exact e
  refine ⟨fun a => a = p, fun a q => by rw [q]; exact nH, p, fun _ => False, rfl, fun q => q, fun b => ⟨fun q => .inl q, fun q => q.elim id False.elim⟩, Rst.none (.inr rfl), .inl ⟨ds, vs, rfl, upd_same, ?_⟩⟩
  have h' : RepL K (Rst (upd H1 p (.lst vs)) (fun a => Un O T a ∨ a = p)) ds vs := RepL.mono (Rst.fresh s1 fun a o e q => by
    rcases q with q | q
    · exact q
    · rw [q, n] at e; cases e) ds vs h
  clear h s nH
  revert h'
  generalize Rst (upd H1 p (.lst vs)) (fun a => Un O T a ∨ a = p) = R
  generalize upd H1 p (.lst vs) = H2
  intro h
  clear st s1 n
  induction ds generalizing vs with
  | nil => exact ⟨h.nil_inv, fun _ q => q⟩
  | cons d ds ih =>
    obtain ⟨v, vr, rfl, h1, h2⟩ := h.cons_inv
    exact ⟨v, vr, fun _ => False, fun _ => False, rfl, ⟨h1, fun _ q => q⟩, ih h2, fun a => ⟨fun q => q.elim, fun q => q.elim id id⟩, fun _ q => q.elim⟩
theorem same_new {p : Addr} {o : HO} (n : H1 p = none) : Same H1 (upd H1 p o) := fun b o e => by
  rw [upd_ne (ne_of_none e n)]
  exact e
/-- a new tuple -/
theorem Rep.newT {ds : List D} {vs : List V} {p : Addr} {o : HO} (h : RepL K H1 ds vs) (n : H1 p = none) (ho : IsTO o vs) : Rep K (upd H1 p o) (.tup ds) (.ref p) := by
  unfold Rep
  exact ⟨p, vs, rfl, ⟨o, upd_same, ho⟩, RepL.mono (same_new n) _ _ h⟩
theorem Rep.newL {ds : List D} {vs : List V} {p : Addr} (h : RepL K H1 ds vs) (n : H1 p = none) : Rep K (upd H1 p (.lst vs)) (.lst ds) (.ref p) := by
  unfold Rep
  exact ⟨p, vs, rfl, SqL.of upd_same, RepL.mono (same_new n) _ _ h⟩
theorem Res.newT {ds : List D} {vs : List V} {p : Addr} (st : Sta K H σ ρ O T B) (s : Same H H1) {o : HO} (h : RepL K (Rst H1 (Un O T)) ds vs) (n : H1 p = none) (ho : IsTO o vs) : Res K H (upd H1 p o) O T (.tup ds) (.fr 0) (.ref p) := by
  refine Res.sh ?_
  have np : ¬ Un O T p := fun q => by
    obtain ⟨o, e, _⟩ := st.allU q
    rw [s _ _ e] at n
    cases n
  unfold Rep
  refine ⟨p, vs, rfl, ⟨o, (by rw [Rst.at np]; exact upd_same), ho⟩, RepL.mono (Rst.mono (same_new n)) _ _ h⟩
end

/-! ### the judgements -/
def tE (K : PySem.W.Frag) (f : EF) : TE := fun σ H Q => ∃ ρ O T B d fl, Sta K H σ ρ O T B ∧ f ρ = some (d, fl) ∧ ∀ v H', Same H H' → Res K H H' O T d fl v → Q v H'
def tT (K : PySem.W.Frag) (f : TF) : TT := fun σ H Q => ∃ ρ O T B b, Sta K H σ ρ O T B ∧ f ρ = some b ∧ ∀ H', Same H H' → Q b H'
def RepA (K : PySem.W.Frag) (H' : Hp) (U : Addr → Prop) (ds : List D) (b : Bool) (vs : List V) : Prop := RepL K H' ds vs ∧ (b = true → RepL K (Rst H' U) ds vs)
def tA (K : PySem.W.Frag) (f : AF) : TA := fun σ H Q => ∃ ρ O T B ds b, Sta K H σ ρ O T B ∧ f ρ = some (ds, b) ∧ ∀ vs H', Same H H' → RepA K H' (Un O T) ds b vs → Q vs H'
def DE (X : Cx) (e : Expr) (f : EF) : Prop := PE X e (tE X.K f)
def DT (X : Cx) (e : Expr) (f : TF) : Prop := PT X e (tT X.K f)
def DW (X : Cx) (e : Expr) (f : TF) : Prop := PW X e (tT X.K f)
def DA (X : Cx) (es : List Expr) (f : AF) : Prop := PA X es (tA X.K f)

section
variable {X : Cx}
theorem _root_.L2.PE.weak {e : Expr} {t t' : TE} (h : PE X e t) (w : ∀ σ H Q, t' σ H Q → t σ H Q) : PE X e t' := ⟨fun pins s σ H Q I q => h.run pins s σ H Q I (w _ _ _ q)⟩
theorem _root_.L2.PT.weak {e : Expr} {t t' : TT} (h : PT X e t) (w : ∀ σ H Q, t' σ H Q → t σ H Q) : PT X e t' := ⟨fun pins s σ H Q I q => h.run pins s σ H Q I (w _ _ _ q)⟩
theorem _root_.L2.PW.weak {e : Expr} {t t' : TT} (h : PW X e t) (w : ∀ σ H Q, t' σ H Q → t σ H Q) : PW X e t' := ⟨fun u pins s σ H Q I q => h.run u pins s σ H Q I (w _ _ _ q)⟩
theorem _root_.L2.PA.weak {es : List Expr} {t t' : TA} (h : PA X es t) (w : ∀ σ H Q, t' σ H Q → t σ H Q) : PA X es t' := ⟨fun pos pins s σ H Q I q => h.run pos pins s σ H Q I (w _ _ _ q)⟩

/-! ### names, constants -/
def eVar (i : Nat) : EF := fun ρ => match ρ[i]? with
  | some (some (k, d)) => some (d, .bo k)
  | _ => none
def eC (d : D) : EF := fun _ => some (d, .fr 0)
theorem de_of_var {e : Expr} {i : Nat} (h : PE X e (tVar i)) : DE X e (eVar i) := h.weak fun σ H Q ⟨ρ, O, T, B, d, fl, st, e1, q⟩ => by
  unfold eVar at e1
  split at e1
  · rename_i k d' e2
    cases e1
    obtain ⟨v, e3, w⟩ := st.slot i _ _ e2
    exact ⟨v, e3, q v H (Same.refl H) ⟨O i, fun a q => ⟨i, q⟩, w⟩⟩
  · cases e1
theorem dv (i : Nat) {x : Str} {pos : Pos} (hN : X.N[i]? = some x := by rfl) (hv : Vis X.env.scope x := by first | exact Or.inl rfl | exact Or.inr (Or.inl rfl) | exact Or.inr (Or.inr rfl)) (hd : (x == ("__debug__" : Str)) = false := by decide)
    (hcd : (x == ("__classdict__" : Str)) = false := by decide) : DE X (.Name x pos) (eVar i) := de_of_var (pe_var hN hv hd hcd)
/-- a datum without objects -/
def scV : D → Option V
  | .non => some .non
  | .bl b => some (.bl b)
  | .int i => some (.int i)
  | .str x => some (.str x)
  | _ => none
theorem scV_rep {K : PySem.W.Frag} {H : Hp} {d : D} {v : V} (h : scV d = some v) : Rep K H d v := by
  cases d <;> simp [scV] at h <;> subst h <;> unfold Rep <;> rfl
theorem rep_scV {K : PySem.W.Frag} {H : Hp} {d : D} {v u : V} (h : scV d = some v) (r : Rep K H d u) : u = v := by
  cases d <;> simp [scV] at h <;> subst h <;> unfold Rep at r <;> exact r
theorem de_const {e : Expr} {d : D} {v : V} (hv : scV d = some v) (h : PE X e (tC v)) : DE X e (eC d) := h.weak fun σ H Q ⟨ρ, O, T, B, d', fl, st, e1, q⟩ => by
  unfold eC at e1
  cases e1
  exact q v H (Same.refl H) (Res.sh (scV_rep hv))
theorem de_int {i : Int} {j pos} : DE X (.Constant (.int i) j pos) (eC (.int i)) := de_const rfl pe_int
theorem de_bl {b : Bool} {j pos} : DE X (.Constant (.bool b) j pos) (eC (.bl b)) := de_const rfl pe_bl
theorem de_non {j pos} : DE X (.Constant .none j pos) (eC .non) := de_const rfl pe_non
theorem de_str {x : Str} {j pos} : DE X (.Constant (.str x) j pos) (eC (.str x)) := de_const rfl pe_str

/-! ### argument lists -/
def aNil : AF := fun _ => some ([], true)
def aCons (f : EF) (g : AF) : AF := fun ρ => (f ρ).bind fun x => (g ρ).bind fun y => some (x.1 :: y.1, shr x.1 x.2 && y.2)
theorem da_nil : DA X [] aNil := pa_nil.weak fun σ H Q ⟨ρ, O, T, B, ds, b, st, e1, q⟩ => by
  unfold aNil at e1
  cases e1
  exact q [] H (Same.refl H) ⟨RepL.nil, fun _ => RepL.nil⟩
theorem da_cons {e : Expr} {es : List Expr} {f : EF} {g : AF} (ha : DE X e f) (hr : DA X es g) (hs : starEach (e :: es) X.env = (false, eval e X.env) :: starEach es X.env := by rfl) : DA X (e :: es) (aCons f g) :=
  (pa_cons ha hr hs).weak fun σ H Q ⟨ρ, O, T, B, ds, b, st, e1, q⟩ => by
    unfold aCons at e1
    cases ef : f ρ with
    | none => rw [ef] at e1; cases e1
    | some x =>
      obtain ⟨d1, fl1⟩ := x
      cases eg : g ρ with
      | none => rw [ef, Option.bind_some, eg] at e1; cases e1
      | some y =>
        obtain ⟨d2, b2⟩ := y
        rw [ef, Option.bind_some, eg, Option.bind_some] at e1
        cases e1
        refine ⟨ρ, O, T, B, d1, fl1, st, ef, fun v H1 s1 r1 => ⟨ρ, O, T, B, d2, b2, st.mono s1, eg, fun vs H2 s2 r2 => ?_⟩⟩
        refine q (v :: vs) H2 (s1.trans s2) ⟨RepL.cons (Rep.mono s2 _ _ r1.rep) r2.1, fun hb => ?_⟩
        simp only [Bool.and_eq_true] at hb
        exact RepL.cons (Rep.mono (Rst.mono s2) _ _ (r1.shared st s1 hb.1)) (r2.2 hb.2)

/-! ### displays -/
def eTup (g : AF) : EF := fun ρ => (g ρ).bind fun y => if y.1.length ≤ sizeLine then some (.tup y.1, if y.2 then .fr 0 else .any) else none
def eLst (g : AF) : EF := fun ρ => (g ρ).bind fun y => if y.1.length ≤ sizeLine then some (.lst y.1, if y.2 then .fr 1 else .any) else none
/-- a display of a tuple: the new object -/
theorem pe_tupO {es : List Expr} {t : TA} {x1 pos} (h : PA X es t) : PE X (.Tuple es x1 pos) (fun σ H Q => t σ H fun xs H1 => xs.length ≤ sizeLine ∧ ∀ p o, H1 p = none → IsTO o xs → Q (.ref p) (upd H1 p o)) := by
  refine ⟨fun pins s σ H Q I hq => ?_⟩
  refine wpAny_Tuple_spliced (thn (h.run pos pins s σ H _ I hq) fun us s1 ⟨xs, H1, I1, r, z, q⟩ => ⟨by rw [← r.length]; exact z, ?_⟩)
  have hf : H1 s1.heap.objs.size = none := I1.hok.fresh (Nat.le_refl _)
  obtain ⟨o, ho, I2⟩ := I1.newTO (t' := s1.toks) r z
  exact ⟨.ref s1.heap.objs.size, _, I2, rfl, q _ o hf ho⟩
theorem de_tup {es : List Expr} {g : AF} {x1 pos} (h : DA X es g) : DE X (.Tuple es x1 pos) (eTup g) :=
  (pe_tupO h).weak fun σ H Q ⟨ρ, O, T, B, d, fl, st, e1, q⟩ => by
    unfold eTup at e1
    cases eg : g ρ with
    | none => rw [eg] at e1; cases e1
    | some y =>
      obtain ⟨ds, b⟩ := y
      rw [eg, Option.bind_some] at e1
      simp only at e1
      split at e1
      · rename_i hl
        cases e1
        refine ⟨ρ, O, T, B, ds, b, st, eg, fun vs H1 s1 r1 => ⟨by rw [r1.1.length]; exact hl, fun p o hp ho => q _ _ (s1.trans (same_new hp)) ?_⟩⟩
        cases b with
        | true => exact Res.newT st s1 (r1.2 rfl) hp ho
        | false => exact Rep.newT r1.1 hp ho
      · cases e1
theorem de_lst {es : List Expr} {g : AF} {pos} (h : DA X es g) : DE X (.List es pos) (eLst g) :=
  (pe_lst h).weak fun σ H Q ⟨ρ, O, T, B, d, fl, st, e1, q⟩ => by
    unfold eLst at e1
    cases eg : g ρ with
    | none => rw [eg] at e1; cases e1
    | some y =>
      obtain ⟨ds, b⟩ := y
      rw [eg, Option.bind_some] at e1
      simp only at e1
      split at e1
      · rename_i hl
        cases e1
        refine ⟨ρ, O, T, B, ds, b, st, eg, fun vs H1 s1 r1 => ⟨by rw [r1.1.length]; exact hl, fun p hp => q _ _ (s1.trans (same_new hp)) ?_⟩⟩
        cases b with
        | true => exact Res.newL st s1 (r1.2 rfl) hp
        | false => exact Rep.newL r1.1 hp
      · cases e1

/-! ### values carried along -/
theorem Res.mono {K : PySem.W.Frag} {H H1 H2 : Hp} {O : Nat → Addr → Prop} {T : Addr → Prop} {d : D} {fl : Fl} {v : V} (r : Res K H H1 O T d fl v) (s : Same H1 H2) : Res K H H2 O T d fl v := by
  cases fl with
  | any => exact Rep.mono s d v r
  | fr k =>
    obtain ⟨S, f, w⟩ := r
    exact ⟨S, f, w.mono (Rst.mono s) (fun a o _ e => s _ _ e) fun a q => Rst.none (.inr q)⟩
  | bo k =>
    obtain ⟨S, f, w⟩ := r
    exact ⟨S, f, w.mono (Rst.mono s) (fun a o _ e => s _ _ e) fun a q => Rst.none (.inr (f a q))⟩

theorem Res.back {K : PySem.W.Frag} {H H1 H2 : Hp} {O : Nat → Addr → Prop} {T : Addr → Prop} {d : D} {fl : Fl} {v : V} (r : Res K H1 H2 O T d fl v) (s : Same H H1) : Res K H H2 O T d fl v := by
  cases fl with
  | any => exact r
  | bo k => exact r
  | fr k =>
    obtain ⟨S, f, w⟩ := r
    exact ⟨S, fun a q => s.free (f a q), w⟩

/-! ### operators by values -/
abbrev DF := D × Fl
def eOp (op : DF → DF → Option DF) (f g : EF) : EF := fun ρ => (f ρ).bind fun x => (g ρ).bind fun y => op x y
def eUn (op : DF → Option DF) (f : EF) : EF := fun ρ => (f ρ).bind op
def OpG (K : PySem.W.Frag) (r : R2) (op : DF → DF → Option DF) : Prop :=
  ∀ (H0 H : Hp) (σ : L2.St) (ρ : Env) (O : Nat → Addr → Prop) (T : Addr → Prop) (B : Hp) (_ : Sta K H0 σ ρ O T B) (_ : Same H0 H) (x y z : DF) (v u : V) (Q : VK), op x y = some z →
    Res K H0 H O T x.1 x.2 v → Res K H0 H O T y.1 y.2 u → (∀ w H', Same H H' → Res K H0 H' O T z.1 z.2 w → Q w H') → r v u H Q
def UnG (K : PySem.W.Frag) (r : V → Hp → VK → Prop) (op : DF → Option DF) : Prop :=
  ∀ (H0 H : Hp) (σ : L2.St) (ρ : Env) (O : Nat → Addr → Prop) (T : Addr → Prop) (B : Hp) (_ : Sta K H0 σ ρ O T B) (_ : Same H0 H) (x z : DF) (v : V) (Q : VK), op x = some z →
    Res K H0 H O T x.1 x.2 v → (∀ w H', Same H H' → Res K H0 H' O T z.1 z.2 w → Q w H') → r v H Q
theorem tOp_of {K : PySem.W.Frag} {f g : EF} {r : R2} {op : DF → DF → Option DF} (hop : OpG K r op) {σ : L2.St} {H : Hp} {Q : VK} (h : tE K (eOp op f g) σ H Q) : tOp r (tE K f) (tE K g) σ H Q := by
    obtain ⟨ρ, O, T, B, d, fl, st, e1, q⟩ := h
    unfold eOp at e1
    cases ef : f ρ with
    | none => rw [ef] at e1; cases e1
    | some x =>
      obtain ⟨d1, fl1⟩ := x
      cases eg : g ρ with
      | none => rw [ef, Option.bind_some, eg] at e1; cases e1
      | some y =>
        obtain ⟨d2, fl2⟩ := y
        rw [ef, Option.bind_some, eg, Option.bind_some] at e1
        exact ⟨ρ, O, T, B, d1, fl1, st, ef, fun v H1 s1 r1 => ⟨ρ, O, T, B, d2, fl2, st.mono s1, eg, fun u H2 s2 r2 =>
          hop H H2 σ ρ O T B st (s1.trans s2) (d1, fl1) (d2, fl2) (d, fl) v u Q e1 (r1.mono s2) (r2.back s1) fun w H' s3 r3 => q w H' ((s1.trans s2).trans s3) r3⟩⟩
theorem de_op {e : Expr} {f g : EF} {r : R2} {op : DF → DF → Option DF} (hop : OpG X.K r op) (h : PE X e (tOp r (tE X.K f) (tE X.K g))) : DE X e (eOp op f g) :=
  h.weak fun σ H Q q => tOp_of hop q
theorem de_un {e : Expr} {f : EF} {r : V → Hp → VK → Prop} {op : DF → Option DF} (hop : UnG X.K r op) (h : PE X e (fun σ H Q => tE X.K f σ H fun x H1 => r x H1 Q)) : DE X e (eUn op f) :=
  h.weak fun σ H Q ⟨ρ, O, T, B, d, fl, st, e1, q⟩ => by
    unfold eUn at e1
    cases ef : f ρ with
    | none => rw [ef] at e1; cases e1
    | some x =>
      obtain ⟨d1, fl1⟩ := x
      rw [ef, Option.bind_some] at e1
      exact ⟨ρ, O, T, B, d1, fl1, st, ef, fun v H1 s1 r1 => hop H H1 σ ρ O T B st s1 (d1, fl1) (d, fl) v Q e1 r1 fun w H' s2 r2 => q w H' (s1.trans s2) r2⟩
/-- a built-in of one argument, of two -/
theorem de_call1 {e a : Expr} {f : EF} {r : List V → Hp → VK → Prop} {op : DF → Option DF} (hop : UnG X.K (fun v => r [v]) op) (hf : DE X a f) (h : ∀ {t : TA}, PA X [a] t → PE X e (tCB r t)) (hs : starEach [a] X.env = (false, eval a X.env) :: starEach [] X.env := by rfl) : DE X e (eUn op f) :=
  de_un hop (h (pa_cons hf pa_nil hs))
theorem de_call2 {e a b : Expr} {f g : EF} {r : List V → Hp → VK → Prop} {op : DF → DF → Option DF} (hop : OpG X.K (fun v u => r [v, u]) op) (hf : DE X a f) (hg : DE X b g) (h : ∀ {t : TA}, PA X [a, b] t → PE X e (tCB r t))
    (hs : starEach [a, b] X.env = (false, eval a X.env) :: starEach [b] X.env := by rfl) (hs2 : starEach [b] X.env = (false, eval b X.env) :: starEach [] X.env := by rfl) : DE X e (eOp op f g) :=
  de_op hop (h (pa_cons hf (pa_cons hg pa_nil hs2) hs))
theorem OpR.or {F : Value → Value → Sem Value} {r r' : R2} (h : OpR X F r) (h' : OpR X F r') : OpR X F (fun x y H Q => r x y H Q ∨ r' x y H Q) := fun pins s σ H x y v u Q I rx ry q =>
  q.elim (h pins s σ H x y v u Q I rx ry) (h' pins s σ H x y v u Q I rx ry)
theorem UnR.or {F : Value → Sem Value} {r r' : V → Hp → VK → Prop} (h : UnR X F r) (h' : UnR X F r') : UnR X F (fun x H Q => r x H Q ∨ r' x H Q) := fun pins s σ H x v Q I rx q =>
  q.elim (h pins s σ H x v Q I rx) (h' pins s σ H x v Q I rx)
end
end PF

set_option Elab.async false
set_option linter.all false
set_option maxRecDepth 100000
set_option maxHeartbeats 4000000
/-! PF3: operators, comparisons, tests, subscripts, slices. -/
namespace PF
open PySem PySem.Spec PyProof.Rows L2

/-! ### scalars -/
theorem rep_int {K : PySem.W.Frag} {H : Hp} {i : Int} {v : V} (r : Rep K H (.int i) v) : v = .int i := by unfold Rep at r; exact r
theorem rep_bl {K : PySem.W.Frag} {H : Hp} {i : Bool} {v : V} (r : Rep K H (.bl i) v) : v = .bl i := by unfold Rep at r; exact r
theorem rep_str {K : PySem.W.Frag} {H : Hp} {i : Str} {v : V} (r : Rep K H (.str i) v) : v = .str i := by unfold Rep at r; exact r
theorem rep_non {K : PySem.W.Frag} {H : Hp} {v : V} (r : Rep K H .non v) : v = .non := by unfold Rep at r; exact r
theorem Res.int {K : PySem.W.Frag} {H H' : Hp} {O : Nat → Addr → Prop} {T : Addr → Prop} {i : Int} : Res K H H' O T (.int i) (.fr 0) (.int i) := Res.sh (scV_rep rfl)
theorem Res.bl {K : PySem.W.Frag} {H H' : Hp} {O : Nat → Addr → Prop} {T : Addr → Prop} {i : Bool} : Res K H H' O T (.bl i) (.fr 0) (.bl i) := Res.sh (scV_rep rfl)
theorem Res.str {K : PySem.W.Frag} {H H' : Hp} {O : Nat → Addr → Prop} {T : Addr → Prop} {i : Str} : Res K H H' O T (.str i) (.fr 0) (.str i) := Res.sh (scV_rep rfl)
theorem Res.non {K : PySem.W.Frag} {H H' : Hp} {O : Nat → Addr → Prop} {T : Addr → Prop} : Res K H H' O T .non (.fr 0) .non := Res.sh (scV_rep rfl)

/-! ### ints -/
/-- a bound of great ints -/
def big : Nat := 2 ^ 4000
theorem big_log {n : Nat} (h : n < big) : n.log2 < 4000 := by
  have : n < 2 ^ 4000 := h
  exact PySem.Flt.log2_lt_of (by decide) this
def mulOk (i j : Int) : Bool := decide (i.natAbs < 2 ^ 64) || decide (j.natAbs < 2 ^ 64) || (decide (i.natAbs < big) && decide (j.natAbs < big))
def divOk (j : Int) : Bool := decide (j ≠ 0) && decide (j.natAbs < big)
def powOk (i j : Int) : Bool := decide (0 ≤ j) && decide (j ≤ 1000000) && decide (i.natAbs < 2 ^ 64)
theorem mulOk_ok {i j : Int} (h : mulOk i j = true) : IntMulOk i j := by
  unfold mulOk at h
  simp only [Bool.or_eq_true, Bool.and_eq_true, decide_eq_true_eq] at h
  rcases h with (h | h) | ⟨h1, h2⟩
  · exact CMul.ok (.inl ⟨by omega, by omega⟩)
  · exact CMul.ok (.inr ⟨by omega, by omega⟩)
  · have h1 := big_log h1
    have h2 := big_log h2
    exact CMulW.ok (by unfold CMulW; omega)
abbrev scal (d : D) : Option DF := some (d, .fr 0)
def iop (f : Int → Int → Option Int) (x y : DF) : Option DF :=
  match x.1, y.1 with
  | .int i, .int j => (f i j).bind fun k => scal (.int k)
  | _, _ => none
def icmp (f : Int → Int → Bool) (x y : DF) : Option DF :=
  match x.1, y.1 with
  | .int i, .int j => scal (.bl (f i j))
  | _, _ => none
abbrev iAdd := iop fun i j => some (i + j)
abbrev iSub := iop fun i j => some (i - j)
abbrev iMul := iop fun i j => if mulOk i j then some (i * j) else none
abbrev iDiv := iop fun i j => if divOk j then some (i.fdiv j) else none
abbrev iMod := iop fun i j => if j = 0 then none else some (i.fmod j)
abbrev iPow := iop fun i j => if powOk i j then some (i ^ j.toNat) else none
abbrev iShl := iop fun i j => if powOk i j then some (i * 2 ^ j.toNat) else none
abbrev iAnd := iop fun i j => some (Builtin.bitAnd i j)
abbrev iXor := iop fun i j => some (Builtin.bitXor i j)
theorem iop_inv {f : Int → Int → Option Int} {x y z : DF} (h : iop f x y = some z) : ∃ i j k fx fy, x = (.int i, fx) ∧ y = (.int j, fy) ∧ f i j = some k ∧ z = (.int k, .fr 0) := by
  obtain ⟨dx, fx⟩ := x
  obtain ⟨dy, fy⟩ := y
  unfold iop at h
  simp only at h
  split at h
  · rename_i i j
    cases e : f i j with
    | none => rw [e] at h; cases h
    | some k =>
      rw [e] at h
      cases h
      exact ⟨i, j, k, fx, fy, rfl, rfl, e, rfl⟩
  · cases h
section
variable {X : Cx}
theorem iop_g {K : PySem.W.Frag} {f : Int → Int → Option Int} {C : Int → Int → Prop} {g : Int → Int → V} (h : ∀ i j k, f i j = some k → C i j ∧ g i j = .int k) : OpG K (rI C g) (iop f) := fun H0 H σ ρ O T B st s x y z v u Q e0 rx ry q => by
  obtain ⟨i, j, k, fx, fy, rfl, rfl, e, rfl⟩ := iop_inv e0
  obtain ⟨h1, h2⟩ := h i j k e
  refine ⟨i, j, rep_int rx.rep, rep_int ry.rep, h1, ?_⟩
  rw [h2]
  exact q _ H (Same.refl H) Res.int
theorem iop_g0 {K : PySem.W.Frag} {f : Int → Int → Option Int} {g : Int → Int → V} (h : ∀ i j k, f i j = some k → g i j = .int k) : OpG K (rI0 g) (iop f) := fun H0 H σ ρ O T B st s x y z v u Q e0 rx ry q => by
  obtain ⟨i, j, k, fx, fy, rfl, rfl, e, rfl⟩ := iop_inv e0
  refine ⟨i, j, rep_int rx.rep, rep_int ry.rep, ?_⟩
  rw [h i j k e]
  exact q _ H (Same.refl H) Res.int
theorem op_mulG : OpR X (binaryOp .Mult) (rI IntMulOk fun i j => .int (i * j)) := opI fun _ _ _ _ _ _ _ hc q => mul_int q hc
theorem op_divG : OpR X (binaryOp .FloorDiv) (rI (fun i j => divOk j = true) fun i j => .int (i.fdiv j)) := opI fun i j _ _ _ _ _ hc q => by
  have hc : divOk j = true := hc
  unfold divOk at hc
  simp only [Bool.and_eq_true, decide_eq_true_eq] at hc
  exact floordiv_int hc.1 q (.inl (PyProof.noPylong_of_log2 (Nat.lt_trans (big_log hc.2) (by decide))))
theorem g_mul {K : PySem.W.Frag} : OpG K (rI IntMulOk fun i j => .int (i * j)) iMul := iop_g fun i j k h => by
  split at h
  · cases h
    exact ⟨mulOk_ok (by assumption), rfl⟩
  · cases h
theorem g_div {K : PySem.W.Frag} : OpG K (rI (fun i j => divOk j = true) fun i j => .int (i.fdiv j)) iDiv := iop_g fun i j k h => by
  split at h
  · cases h
    exact ⟨by assumption, rfl⟩
  · cases h
theorem g_mod {K : PySem.W.Frag} : OpG K (rI (fun _ j => j ≠ 0) fun i j => .int (i.fmod j)) iMod := iop_g fun i j k h => by
  split at h
  · cases h
  · cases h
    exact ⟨by assumption, rfl⟩
theorem powOk_ok {i j : Int} (h : powOk i j = true) : CPow i j := by
  unfold powOk at h
  simp only [Bool.and_eq_true, decide_eq_true_eq] at h
  exact ⟨h.1.1, h.1.2, h.2⟩
theorem g_pow {K : PySem.W.Frag} : OpG K (rI CPow fun i j => .int (i ^ j.toNat)) iPow := iop_g fun i j k h => by
  split at h
  · cases h
    exact ⟨powOk_ok (by assumption), rfl⟩
  · cases h
theorem g_shl {K : PySem.W.Frag} : OpG K (rI CPow fun i j => .int (i * 2 ^ j.toNat)) iShl := iop_g fun i j k h => by
  split at h
  · cases h
    exact ⟨powOk_ok (by assumption), rfl⟩
  · cases h
variable {a b : Expr} {f g : EF} {pos : Pos}
theorem de_sub (ha : DE X a f) (hb : DE X b g) : DE X (.BinOp a .Sub b pos) (eOp iSub f g) := de_op (iop_g0 fun i j k h => by cases h; rfl) (pe_op op_sub ha hb)
theorem de_mulI (ha : DE X a f) (hb : DE X b g) : DE X (.BinOp a .Mult b pos) (eOp iMul f g) := de_op g_mul (pe_op op_mulG ha hb)
theorem de_div (ha : DE X a f) (hb : DE X b g) : DE X (.BinOp a .FloorDiv b pos) (eOp iDiv f g) := de_op g_div (pe_op op_divG ha hb)
theorem de_mod (ha : DE X a f) (hb : DE X b g) : DE X (.BinOp a .Mod b pos) (eOp iMod f g) := de_op g_mod (pe_op op_modN ha hb)
theorem de_pow (ha : DE X a f) (hb : DE X b g) : DE X (.BinOp a .Pow b pos) (eOp iPow f g) := de_op g_pow (pe_op op_pow ha hb)
theorem de_shl (ha : DE X a f) (hb : DE X b g) : DE X (.BinOp a .LShift b pos) (eOp iShl f g) := de_op g_shl (pe_op op_shl ha hb)
theorem de_bitand (ha : DE X a f) (hb : DE X b g) : DE X (.BinOp a .BitAnd b pos) (eOp iAnd f g) := de_op (iop_g0 fun i j k h => by cases h; rfl) (pe_op op_and ha hb)
theorem de_bitxor (ha : DE X a f) (hb : DE X b g) : DE X (.BinOp a .BitXor b pos) (eOp iXor f g) := de_op (iop_g0 fun i j k h => by cases h; rfl) (pe_op op_xor ha hb)
def iNeg (x : DF) : Option DF := match x.1 with
  | .int i => scal (.int (-i))
  | _ => none
theorem de_neg (ha : DE X a f) : DE X (.UnaryOp .USub a pos) (eUn iNeg f) := de_un (r := rU fun i => .int (-i)) (fun H0 H σ ρ O T B st s x z v Q e rx q => by
  obtain ⟨dx, fx⟩ := x
  unfold iNeg at e
  simp only at e
  split at e
  · cases e
    rename_i i
    refine ⟨i, rep_int rx.rep, ?_⟩
    exact q _ H (Same.refl H) Res.int
  · cases e) (pe_un un_neg ha)

/-! ### + of ints, texts, tuples, lists -/
def rCatO (K : PySem.W.Frag) : R2 := fun x y H Q => ∃ a b xs ys, x = .ref a ∧ y = .ref b ∧ SqT K H a xs ∧ SqT K H b ys ∧ xs.length + ys.length ≤ sizeLine ∧
  (xs = [] → Q (.ref b) H) ∧ (xs ≠ [] → ys = [] → Q (.ref a) H) ∧ (xs ≠ [] → ys ≠ [] → ∀ p o, H p = none → IsTO o (xs ++ ys) → Q (.ref p) (upd H p o))
theorem op_catO : OpR X (binaryOp .Add) (rCatO X.K) := by
  intro pins s σ H x y v u Q I rx ry h
  obtain ⟨a, b, xs, ys, rfl, rfl, ha, hb, hz, q0, q1, q2⟩ := h
  cases rx
  cases ry
  obtain ⟨its, r1, p1, _⟩ := I.tuple ha
  obtain ⟨its2, r2, p2, _⟩ := I.tuple hb
  by_cases hx : xs = []
  · subst hx
    cases r1
    exact cat_tup0 p1 p2 ⟨.ref b, H, I, rfl, q0 rfl⟩
  · refine HT.cat_tup p1 p2 (fun z => hx (r1.nil_iff.mp z)) (fun z => ⟨.ref a, H, I, rfl, q1 hx (r2.nil_iff.mp z)⟩) (fun z => ?_) (by rw [← r1.length, ← r2.length]; exact hz)
    obtain ⟨o, ho, I2⟩ := I.newTO (t' := s.toks) (r1.append r2) (by rw [List.length_append]; exact hz)
    exact ⟨.ref s.heap.objs.size, _, I2, rfl, q2 hx (fun w => z (r2.nil_iff.mpr w)) _ o (I.hok.fresh (Nat.le_refl _)) ho⟩
def rCatL (K : PySem.W.Frag) : R2 := fun x y H Q => ∃ l b xs zs, x = .ref l ∧ y = .ref b ∧ SqL K H l xs ∧ SqL K H b zs ∧ xs.length + zs.length ≤ sizeLine ∧ ∀ p, H p = none → Q (.ref p) (upd H p (.lst (xs ++ zs)))
theorem op_catL : OpR X (binaryOp .Add) (rCatL X.K) := by
  intro pins s σ H x y v u Q I rx ry h
  obtain ⟨l, b, xs, zs, rfl, rfl, hH, hB, hz, q⟩ := h
  cases rx
  cases ry
  obtain ⟨its, r, pl, hl⟩ := I.list hH
  obtain ⟨its2, r2, pl2, hl2⟩ := I.list hB
  obtain ⟨⟨cls, dd, data, sl⟩, ho, hc, n, hd⟩ := pl.isList
  obtain ⟨⟨cls2, dd2, data2, sl2⟩, ho2, hc2, n2, hd2⟩ := pl2.isList
  simp only at hc hd hc2 hd2
  subst hc hd hc2 hd2
  have lx := r.length
  have ly := r2.length
  have e : its.toArray ++ its2.toArray = (its ++ its2).toArray := by simp
  refine concat_meets ⟨_, ho, rfl⟩ ⟨_, ho2, rfl⟩ noFill_list_add seq_list_add PySem.F.slot_list_add PySem.F.entry_list_add (PySem.F.args_list_add_2 _ _) (list_addW l b its.toArray its2.toArray n n2 dd dd2 sl sl2 (by simp; omega)) ⟨ho, ho2, ?_⟩
  rw [e]
  exact ⟨.ref _, _, I.lnew (t' := s.toks) (r.append r2) (by rw [List.length_append]; omega), rfl, q _ I.fresh⟩
def eAddF (x y : DF) : Option DF := match x.1, y.1 with
  | .int i, .int j => scal (.int (i + j))
  | .str i, .str j => if i.length + j.length ≤ sizeLine then scal (.str (i ++ j)) else none
  | .tup xs, .tup ys => if xs.length + ys.length ≤ sizeLine then some (.tup (xs ++ ys), if shr (.tup xs) x.2 && shr (.tup ys) y.2 then .fr 0 else .any) else none
  | .lst xs, .lst ys => if xs.length + ys.length ≤ sizeLine then some (.lst (xs ++ ys), if eshr (.lst xs) x.2 && eshr (.lst ys) y.2 then .fr 1 else .any) else none
  | _, _ => none
theorem RepL.nil_iff {K : PySem.W.Frag} {H : Hp} {ds : List D} {vs : List V} (r : RepL K H ds vs) : vs = [] ↔ ds = [] := by
  have h := r.length
  constructor
  · rintro rfl
    simpa using h.symm
  · rintro rfl
    simpa using h
theorem g_add {K : PySem.W.Frag} : OpG K (fun x y H Q => rI0 (fun i j => .int (i + j)) x y H Q ∨ (∃ i j, x = .str i ∧ y = .str j ∧ i.length + j.length ≤ sizeLine ∧ Q (.str (i ++ j)) H) ∨ rCatO K x y H Q ∨ rCatL K x y H Q) eAddF := fun H0 H σ ρ O T B st s x y z v u Q e rx ry q => by
  obtain ⟨dx, fx⟩ := x
  obtain ⟨dy, fy⟩ := y
  unfold eAddF at e
  simp only at e
  split at e
  · cases e
    exact .inl ⟨_, _, rep_int rx.rep, rep_int ry.rep, q _ H (Same.refl H) Res.int⟩
  · split at e
    · cases e
      exact .inr (.inl ⟨_, _, rep_str rx.rep, rep_str ry.rep, by assumption, q _ H (Same.refl H) Res.str⟩)
    · cases e
  · rename_i xs ys
    split at e
    · rename_i hl
      cases e
      obtain ⟨a, vs, rfl, h1, h2, h3⟩ := rx.tuple st s
      obtain ⟨b, us, rfl, k1, k2, k3⟩ := ry.tuple st s
      have lx := h2.length
      have ly := k2.length
      refine .inr (.inr (.inl ⟨a, b, vs, us, rfl, rfl, h1, k1, by omega, fun e0 => ?_, fun n0 e0 => ?_, fun n0 n1 p o hp ho => q _ _ (same_new hp) ?_⟩))
      · have e1 := h2.nil_iff.mp e0
        subst e1
        refine q _ H (Same.refl H) ?_
        simp only [List.nil_append]
        split
        · rename_i hb
          rw [Bool.and_eq_true] at hb
          exact Res.sh (ry.shared st s hb.2)
        · exact ry.rep
      · have e1 := k2.nil_iff.mp e0
        subst e1
        refine q _ H (Same.refl H) ?_
        simp only [List.append_nil]
        split
        · rename_i hb
          rw [Bool.and_eq_true] at hb
          exact Res.sh (rx.shared st s hb.1)
        · exact rx.rep
      · simp only
        split
        · rename_i hb
          rw [Bool.and_eq_true] at hb
          exact Res.newT st s (RepL.append (h3 hb.1) (k3 hb.2)) hp ho
        · exact Rep.newT (RepL.append h2 k2) hp ho
    · cases e
  · rename_i xs ys
    split at e
    · rename_i hl
      cases e
      obtain ⟨a, vs, rfl, h1, h2, h3⟩ := rx.items st s
      obtain ⟨b, us, rfl, k1, k2, k3⟩ := ry.items st s
      have lx := h2.length
      have ly := k2.length
      refine .inr (.inr (.inr ⟨a, b, vs, us, rfl, rfl, h1, k1, by omega, fun p hp => q _ _ (same_new hp) ?_⟩))
      simp only
      split
      · rename_i hb
        rw [Bool.and_eq_true] at hb
        exact Res.newL st s (RepL.append (h3 hb.1) (k3 hb.2)) hp
      · exact Rep.newL (RepL.append h2 k2) hp
    · cases e
  · cases e
theorem de_add (ha : DE X a f) (hb : DE X b g) : DE X (.BinOp a .Add b pos) (eOp eAddF f g) := de_op g_add (pe_op (OpR.or op_add (OpR.or op_add_str (OpR.or op_catO op_catL))) ha hb)

end
end PF

set_option Elab.async false
set_option linter.all false
set_option maxRecDepth 100000
set_option maxHeartbeats 4000000
/-! PF3b: lists times ints, comparisons, tests, subscripts, slices. -/
namespace PF
open PySem PySem.Spec PyProof.Rows L2
section
variable {X : Cx} {a b c e : Expr} {f g h : EF} {pos : Pos}

/-! ### * of ints, of a new list and an int -/
def repL (k : Nat) (ds : List D) : List D := (List.replicate k ds).flatten
theorem RepL.rep {K : PySem.W.Frag} {H : Hp} {ds : List D} {vs : List V} (r : RepL K H ds vs) : ∀ k, RepL K H (repL k ds) (List.replicate k vs).flatten
  | 0 => RepL.nil
  | k + 1 => by
    have := RepL.append r (RepL.rep r k)
    unfold repL at this ⊢
    rw [List.replicate_succ, List.flatten_cons, List.replicate_succ, List.flatten_cons]
    exact this
def eMulF (x y : DF) : Option DF := match x.1, y.1 with
  | .int i, .int j => if mulOk i j then scal (.int (i * j)) else none
  | .lst ds, .int k => match x.2 with
    | .fr (n + 1) => if -(2 ^ 63) ≤ k ∧ k < 2 ^ 63 ∧ ds.length * k.toNat ≤ sizeLine then some (.lst (repL k.toNat ds), .fr 1) else none
    | _ => none
  | _, _ => none
theorem fresh_lst {K : PySem.W.Frag} {H0 H : Hp} {σ : L2.St} {ρ : Env} {O : Nat → Addr → Prop} {T : Addr → Prop} {B : Hp} {ds : List D} {n : Nat} {v : V} (st : Sta K H0 σ ρ O T B) (s : Same H0 H) (r : Res K H0 H O T (.lst ds) (.fr (n + 1)) v) :
    ∃ a vs, v = .ref a ∧ H a = some (.lst vs) ∧ RepL K (Rst H (Un O T)) ds vs := by
  obtain ⟨S, f, a, S', rfl, na, hs, ra, w⟩ := r
  rcases w with ⟨ds', vs, e1, e2, e3⟩ | ⟨kvs, ks, e1, _⟩ | ⟨kvs, ks, e1, _⟩
  · cases e1
    refine ⟨a, vs, rfl, e2, OwnL.repL (fun d' v' S'' q h' => Own.rep (Rst.sub fun a q => .inl q) (fun b o m e => ?_) h') e3⟩
    rw [Rst.at (notU st f b ((hs b).mpr (.inr (q b m))))]
    exact e
  · cases e1
  · cases e1
theorem g_mulF {K : PySem.W.Frag} : OpG K (fun x y H Q => rI IntMulOk (fun i j => .int (i * j)) x y H Q ∨ rRep x y H Q) eMulF := fun H0 H σ ρ O T B st s x y z v u Q e rx ry q => by
  obtain ⟨dx, fx⟩ := x
  obtain ⟨dy, fy⟩ := y
  unfold eMulF at e
  simp only at e
  split at e
  · split at e
    · cases e
      exact .inl ⟨_, _, rep_int rx.rep, rep_int ry.rep, mulOk_ok (by assumption), q _ H (Same.refl H) Res.int⟩
    · cases e
  · rename_i ds k
    cases fx with
    | fr m =>
      cases m with
      | zero => cases e
      | succ n =>
        simp only at e
        split at e
        · rename_i hl
          cases e
          obtain ⟨a, vs, rfl, h1, h2⟩ := fresh_lst st s rx
          refine .inr ⟨a, k, vs, rfl, rep_int ry.rep, h1, hl.1, hl.2.1, by rw [h2.length]; exact hl.2.2, fun p hp => q _ _ (same_new hp) ?_⟩
          exact Res.newL st s (RepL.rep h2 k.toNat) hp
        · cases e
    | bo m => cases e
    | any => cases e
  · cases e
theorem de_mul (ha : DE X a f) (hb : DE X b g) : DE X (.BinOp a .Mult b pos) (eOp eMulF f g) := de_op g_mulF (pe_op (OpR.or op_mulG op_rep) ha hb)

/-! ### comparisons -/
abbrev iLt := icmp fun i j => decide (i < j)
abbrev iLe := icmp fun i j => decide (i ≤ j)
abbrev iGt := icmp fun i j => decide (j < i)
abbrev iGe := icmp fun i j => decide (j ≤ i)
theorem icmp_g {K : PySem.W.Frag} {p : Int → Int → Bool} : OpG K (rI0 fun i j => .bl (p i j)) (icmp p) := fun H0 H σ ρ O T B st s x y z v u Q e rx ry q => by
  obtain ⟨dx, fx⟩ := x
  obtain ⟨dy, fy⟩ := y
  unfold icmp at e
  simp only at e
  split at e
  · cases e
    exact ⟨_, _, rep_int rx.rep, rep_int ry.rep, q _ H (Same.refl H) Res.bl⟩
  · cases e
mutual
/-- == of data -/
def deq : D → D → Bool
  | .non, .non => true
  | .bl a, .bl b => a == b
  | .bl a, .int j => (if a then 1 else 0) == j
  | .int i, .bl b => i == (if b then 1 else 0)
  | .int i, .int j => decide (i = j)
  | .str x, .str y => decide (x = y)
  | .tup xs, .tup ys => deqL xs ys
  | .lst xs, .lst ys => deqL xs ys
  | _, _ => false
def deqL : List D → List D → Bool
  | [], [] => true
  | x :: xs, y :: ys => deq x y && deqL xs ys
  | _, _ => false
end
/-- what == is told of: no dicts, sets within, texts of signs, at most n deep -/
def okD : Nat → D → Bool
  | _, .non => true
  | _, .bl _ => true
  | _, .int _ => true
  | _, .str x => PyData.strOk x
  | n + 1, .tup ds => ds.all (okD n)
  | n + 1, .lst ds => ds.all (okD n)
  | _, _ => false
mutual
def toPy : D → PyData
  | .bl b => .bool b
  | .int i => .int i
  | .str x => .str x
  | .tup ds => .tuple (toPyL ds)
  | .lst ds => .list (toPyL ds)
  | _ => .none
def toPyL : List D → List PyData
  | [] => []
  | d :: ds => toPy d :: toPyL ds
end
theorem dpL {K : PySem.W.Frag} {H : Hp} {n : Nat} (ih : ∀ (d : D) (v : V), okD n d = true → Rep K H d v → Dp K H v (toPy d) ∧ PyData.canLay0 (toPy d) = true ∧ (toPy d).depth ≤ n) :
    ∀ (ds : List D) (vs : List V), ds.all (okD n) = true → RepL K H ds vs → DpAll K H vs (toPyL ds) ∧ PyData.canLayAll0 (toPyL ds) = true ∧ PyData.depthAll (toPyL ds) ≤ n
  | [], vs, _, r => by
    rw [r.nil_inv]
    exact ⟨.nil, rfl, by simp [toPyL, PyData.depthAll]⟩
  | d :: ds, vs, h, r => by
    obtain ⟨v, vr, rfl, h1, h2⟩ := r.cons_inv
    rw [List.all_cons, Bool.and_eq_true] at h
    obtain ⟨a1, a2, a3⟩ := ih d v h.1 h1
    obtain ⟨b1, b2, b3⟩ := dpL ih ds vr h.2 h2
    refine ⟨.cons a1 b1, ?_, ?_⟩
    · simp only [toPyL, PyData.canLayAll0, a2, b2, Bool.and_self]
    · simp only [toPyL, PyData.depthAll]
      omega
theorem dp_of {K : PySem.W.Frag} {H : Hp} : ∀ (n : Nat) (d : D) (v : V), okD n d = true → Rep K H d v → Dp K H v (toPy d) ∧ PyData.canLay0 (toPy d) = true ∧ (toPy d).depth ≤ n := fun n => by
  induction n with
  | zero =>
    intro d v h r
    cases d <;> simp [okD] at h <;> unfold Rep at r <;> try subst r
    · exact ⟨.non, rfl, by simp [toPy, PyData.depth]⟩
    · exact ⟨.bl _, rfl, by simp [toPy, PyData.depth]⟩
    · exact ⟨.int _, rfl, by simp [toPy, PyData.depth]⟩
    · exact ⟨.str _, by simpa [toPy, PyData.canLay0] using h, by simp [toPy, PyData.depth]⟩
  | succ n ih =>
    intro d v h r
    cases d <;> simp only [okD] at h <;> unfold Rep at r
    · subst r; exact ⟨.non, rfl, by simp [toPy, PyData.depth]⟩
    · subst r; exact ⟨.bl _, rfl, by simp [toPy, PyData.depth]⟩
    · subst r; exact ⟨.int _, rfl, by simp [toPy, PyData.depth]⟩
    · subst r; exact ⟨.str _, by simpa [toPy, PyData.canLay0] using h, by simp [toPy, PyData.depth]⟩
    · obtain ⟨a, vs, rfl, h1, h2⟩ := r
      obtain ⟨b1, b2, b3⟩ := dpL ih _ vs h h2
      exact ⟨.tup h1.sq b1, by simpa [toPy, PyData.canLay0] using b2, by simp only [toPy, PyData.depth]; omega⟩
    · obtain ⟨a, vs, rfl, h1, h2⟩ := r
      obtain ⟨b1, b2, b3⟩ := dpL ih _ vs h h2
      exact ⟨.lst h1 b1, by simpa [toPy, PyData.canLay0] using b2, by simp only [toPy, PyData.depth]; omega⟩
    · cases h
    · cases h
theorem eqv_deqL {n : Nat} (ih : ∀ (a b : D), okD n a = true → okD n b = true → PyData.eqv (toPy a) (toPy b) = deq a b) : ∀ (as bs : List D), as.all (okD n) = true → bs.all (okD n) = true → PyData.eqvAll (toPyL as) (toPyL bs) = deqL as bs
  | [], [], _, _ => by simp [toPyL, PyData.eqvAll, deqL]
  | [], _ :: _, _, _ => by simp [toPyL, PyData.eqvAll, deqL]
  | _ :: _, [], _, _ => by simp [toPyL, PyData.eqvAll, deqL]
  | a :: as, b :: bs, h, h' => by
    rw [List.all_cons, Bool.and_eq_true] at h h'
    simp only [toPyL, PyData.eqvAll, deqL, ih a b h.1 h'.1, eqv_deqL ih as bs h.2 h'.2]
theorem eqv_deq : ∀ (n : Nat) (a b : D), okD n a = true → okD n b = true → PyData.eqv (toPy a) (toPy b) = deq a b := fun n => by
  induction n with
  | zero =>
    intro a b h h'
    cases a <;> simp [okD] at h <;> cases b <;> simp [okD] at h' <;> simp [toPy, PyData.eqv, deq] <;> first | rfl | (rw [Bool.beq_eq_decide_eq]) | skip
  | succ n ih =>
    intro a b h h'
    cases a <;> simp only [okD] at h <;> (try cases h) <;> cases b <;> simp only [okD] at h' <;> (try cases h') <;> simp [toPy, PyData.eqv, deq] <;> first | rfl | (rw [Bool.beq_eq_decide_eq]) | (exact eqv_deqL ih _ _ h h') | skip
def eEqF (x y : DF) : Option DF := if okD 60 x.1 = true ∧ okD 60 y.1 = true then scal (.bl (deq x.1 y.1)) else none
def eNeF (x y : DF) : Option DF := if okD 60 x.1 = true ∧ okD 60 y.1 = true then scal (.bl (!deq x.1 y.1)) else none
theorem shaped_of {p : PyData} (h : PyData.canLay0 p = true) (hd : p.depth ≤ 60) : SeqAt.shaped p = true := by
  unfold SeqAt.shaped
  rw [h, decide_eq_true (by omega)]
  rfl
theorem g_eq {K : PySem.W.Frag} : OpG K (rEqD K) eEqF := fun H0 H σ ρ O T B st s x y z v u Q e rx ry q => by
  unfold eEqF at e
  split at e
  · rename_i h
    cases e
    obtain ⟨a1, a2, a3⟩ := dp_of 60 _ v h.1 rx.rep
    obtain ⟨b1, b2, b3⟩ := dp_of 60 _ u h.2 ry.rep
    refine ⟨_, _, a1, b1, shaped_of a2 a3, shaped_of b2 b3, ?_⟩
    rw [eqv_deq 60 _ _ h.1 h.2]
    exact q _ H (Same.refl H) Res.bl
  · cases e
theorem g_ne {K : PySem.W.Frag} : OpG K (rNeD K) eNeF := fun H0 H σ ρ O T B st s x y z v u Q e rx ry q => by
  unfold eNeF at e
  split at e
  · rename_i h
    cases e
    obtain ⟨a1, a2, a3⟩ := dp_of 60 _ v h.1 rx.rep
    obtain ⟨b1, b2, b3⟩ := dp_of 60 _ u h.2 ry.rep
    refine ⟨_, _, a1, b1, shaped_of a2 a3, shaped_of b2 b3, ?_⟩
    rw [eqv_deq 60 _ _ h.1 h.2]
    exact q _ H (Same.refl H) Res.bl
  · cases e
end
end PF

set_option Elab.async false
set_option linter.all false
set_option maxRecDepth 100000
set_option maxHeartbeats 4000000
/-! PF4: comparisons, tests, subscripts, slices, simple built-ins. -/
namespace PF
open PySem PySem.Spec PyProof.Rows L2
section
variable {X : Cx} {a b c e : Expr} {f g h : EF} {pos : Pos}

/-! ### comparisons -/
theorem de_cmp {op : CmpOp} {r : R2} {o : DF → DF → Option DF} (hop : OpG X.K r o) (ho : OpR X (compareOp op) r) (ha : DE X a f) (hb : DE X b g) (hm : behindInMarks op b = false := by rfl) : DE X (.Compare a [op] [b] pos) (eOp o f g) :=
  de_op hop (pe_cmpR ho ha hb hm)
/-- a bool's value -/
def dBl : D → Option Bool
  | .bl b => some b
  | _ => none
def tBl (f : EF) : TF := fun ρ => (f ρ).bind fun x => dBl x.1
theorem tBl_of {K : PySem.W.Frag} {σ : L2.St} {H : Hp} {Q : Bool → Hp → Prop} (h : tT K (tBl f) σ H Q) : tE K f σ H fun x H' => ∃ k, x = .bl k ∧ Q k H' := by
  obtain ⟨ρ, O, T, B, k, st, e1, q⟩ := h
  unfold tBl at e1
  cases ef : f ρ with
  | none => rw [ef] at e1; cases e1
  | some x =>
    obtain ⟨d1, fl1⟩ := x
    rw [ef, Option.bind_some] at e1
    refine ⟨ρ, O, T, B, d1, fl1, st, ef, fun v H' s r => ?_⟩
    cases d1 <;> simp [dBl] at e1
    subst e1
    exact ⟨_, rep_bl r.rep, q H' s⟩
theorem dt_cmp {op : CmpOp} {r : R2} {o : DF → DF → Option DF} (hop : OpG X.K r o) (ho : OpR X (compareOp op) r) (ha : DE X a f) (hb : DE X b g) (hm : behindInMarks op b = false := by rfl) : DT X (.Compare a [op] [b] pos) (tBl (eOp o f g)) :=
  (pt_cmpR ho ha hb hm).weak fun σ H Q q => tOp_of hop (tBl_of q)
def eChain (o o' : DF → DF → Option DF) (f g h : EF) : EF := fun ρ => (f ρ).bind fun x => (g ρ).bind fun y => (o x y).bind fun z =>
  match z.1 with
  | .bl true => (h ρ).bind fun w => o' y w
  | .bl false => scal (.bl false)
  | _ => none
theorem tChain_of {K : PySem.W.Frag} {r r' : R2} {o o' : DF → DF → Option DF} (hop : OpG K r o) (hop' : OpG K r' o') {σ : L2.St} {H : Hp} {Q : VK} (q0 : tE K (eChain o o' f g h) σ H Q) : tChain r r' (tE K f) (tE K g) (tE K h) σ H Q := by
  obtain ⟨ρ, O, T, B, d, fl, st, e1, q⟩ := q0
  unfold eChain at e1
  cases ef : f ρ with
  | none => rw [ef] at e1; cases e1
  | some x =>
    obtain ⟨d1, fl1⟩ := x
    cases eg : g ρ with
    | none => rw [ef, Option.bind_some, eg] at e1; cases e1
    | some y =>
      obtain ⟨d2, fl2⟩ := y
      rw [ef, Option.bind_some, eg, Option.bind_some] at e1
      cases eo : o (d1, fl1) (d2, fl2) with
      | none => rw [eo] at e1; cases e1
      | some z =>
        obtain ⟨dz, fz⟩ := z
        rw [eo, Option.bind_some] at e1
        refine ⟨ρ, O, T, B, d1, fl1, st, ef, fun v H1 s1 r1 => ⟨ρ, O, T, B, d2, fl2, st.mono s1, eg, fun u H2 s2 r2 => ?_⟩⟩
        refine hop H H2 σ ρ O T B st (s1.trans s2) (d1, fl1) (d2, fl2) (dz, fz) v u _ eo (r1.mono s2) (r2.back s1) fun w H3 s3 r3 => ?_
        simp only at e1
        split at e1
        · refine ⟨true, rep_bl r3.rep, ?_⟩
          rw [if_pos rfl]
          cases eh : h ρ with
          | none => rw [eh] at e1; cases e1
          | some w =>
            obtain ⟨d4, fl4⟩ := w
            rw [eh, Option.bind_some] at e1
            have s123 := (s1.trans s2).trans s3
            refine ⟨ρ, O, T, B, d4, fl4, st.mono s123, eh, fun w' H4 s4 r4 => ?_⟩
            exact hop' H H4 σ ρ O T B st (s123.trans s4) (d2, fl2) (d4, fl4) (d, fl) u w' Q e1 ((r2.back s1).mono (s3.trans s4)) (r4.back s123) fun z H5 s5 r5 => q z H5 ((s123.trans s4).trans s5) r5
        · refine ⟨false, rep_bl r3.rep, ?_⟩
          rw [if_neg Bool.false_ne_true]
          cases e1
          exact q _ H3 ((s1.trans s2).trans s3) Res.bl
        · cases e1
theorem de_chain {op op' : CmpOp} {r r' : R2} {o o' : DF → DF → Option DF} (hop : OpG X.K r o) (hop' : OpG X.K r' o') (ho : OpR X (compareOp op) r) (ho' : OpR X (compareOp op') r') (ha : DE X a f) (hb : DE X b g) (hc : DE X c h)
    (hm : lastMarks [op, op'] [b, c] = false := by with_unfolding_all rfl) : DE X (.Compare a [op, op'] [b, c] pos) (eChain o o' f g h) := (pe_chain ho ho' ha hb hc hm).weak fun σ H Q q => tChain_of hop hop' q
theorem dt_chain {op op' : CmpOp} {r r' : R2} {o o' : DF → DF → Option DF} (hop : OpG X.K r o) (hop' : OpG X.K r' o') (ho : OpR X (compareOp op) r) (ho' : OpR X (compareOp op') r') (ha : DE X a f) (hb : DE X b g) (hc : DE X c h)
    (hm : lastMarks [op, op'] [b, c] = false := by with_unfolding_all rfl) : DT X (.Compare a [op, op'] [b, c] pos) (tBl (eChain o o' f g h)) := (pt_chain ho ho' ha hb hc hm).weak fun σ H Q q => tChain_of hop hop' (tBl_of q)
def eIsN (x : DF) : Option DF := match x.1 with
  | .non => scal (.bl true)
  | _ => scal (.bl false)
def eNotN (x : DF) : Option DF := match x.1 with
  | .non => scal (.bl false)
  | _ => scal (.bl true)
theorem rep_nonq {K : PySem.W.Frag} {H : Hp} {d : D} {v : V} (r : Rep K H d v) : decide (v = .non) = (match d with | .non => true | _ => false) := by
  cases d <;> unfold Rep at r
  · subst r; rfl
  · subst r; rfl
  · subst r; rfl
  · subst r; rfl
  · obtain ⟨a, vs, rfl, _⟩ := r; rfl
  · obtain ⟨a, vs, rfl, _⟩ := r; rfl
  · obtain ⟨a, rfl, _⟩ := r; rfl
  · obtain ⟨a, vs, rfl, _⟩ := r; rfl
theorem g_isN {K : PySem.W.Frag} : UnG K (fun x H Q => Q (.bl (decide (x = .non))) H) eIsN := fun H0 H σ ρ O T B st s x z v Q e rx q => by
  obtain ⟨dx, fx⟩ := x
  rw [rep_nonq rx.rep]
  unfold eIsN at e
  cases dx <;> simp only at e <;> cases e <;> exact q _ H (Same.refl H) Res.bl
theorem g_notN {K : PySem.W.Frag} : UnG K (fun x H Q => Q (.bl (!decide (x = .non))) H) eNotN := fun H0 H σ ρ O T B st s x z v Q e rx q => by
  obtain ⟨dx, fx⟩ := x
  rw [rep_nonq rx.rep]
  unfold eNotN at e
  cases dx <;> simp only at e <;> cases e <;> exact q _ H (Same.refl H) Res.bl
theorem de_isN {j pos'} (ha : DE X a f) : DE X (.Compare a [.Is] [.Constant .none j pos'] pos) (eUn eIsN f) := de_un g_isN (pe_cmp (pc_isN ha) (by rfl))
theorem de_notN {j pos'} (ha : DE X a f) : DE X (.Compare a [.IsNot] [.Constant .none j pos'] pos) (eUn eNotN f) := de_un g_notN (pe_cmp (pc_notN ha) (by rfl))

/-! ### tests -/
/-- truth -/
def tru : D → Option Bool
  | .non => some false
  | .bl b => some b
  | .int i => some (i != 0)
  | .str x => if x.length ≤ sizeLine then some ((x.length : Int) != 0) else none
  | .tup ds => some !ds.isEmpty
  | .lst ds => some !ds.isEmpty
  | _ => none
def tTru (f : EF) : TF := fun ρ => (f ρ).bind fun x => tru x.1
theorem RepL.isEmpty {K : PySem.W.Frag} {H : Hp} {ds : List D} {vs : List V} (r : RepL K H ds vs) : vs.isEmpty = ds.isEmpty := by
  have hl := r.length
  cases vs <;> cases ds <;> simp_all
theorem tru_of {K : PySem.W.Frag} {H : Hp} {d : D} {v : V} {k : Bool} (r : Rep K H d v) (h : tru d = some k) : TruV K v H k := by
  cases d <;> unfold Rep at r <;> simp only [tru] at h
  · subst r; cases h; rfl
  · subst r; cases h; rfl
  · subst r; cases h; rfl
  · subst r
    split at h
    · cases h
      exact ⟨by assumption, rfl⟩
    · cases h
  · obtain ⟨a, vs, rfl, h1, h2⟩ := r
    cases h
    refine .inr (.inl ⟨vs, h1.sq, ?_⟩)
    rw [h2.isEmpty]
  · obtain ⟨a, vs, rfl, h1, h2⟩ := r
    cases h
    refine .inl ⟨vs, h1, ?_⟩
    rw [h2.isEmpty]
  · cases h
  · cases h
theorem tTru_of {K : PySem.W.Frag} {σ : L2.St} {H : Hp} {Q : Bool → Hp → Prop} (h : tT K (tTru f) σ H Q) : tE K f σ H fun x H' => ∃ k, TruV K x H' k ∧ Q k H' := by
  obtain ⟨ρ, O, T, B, k, st, e1, q⟩ := h
  unfold tTru at e1
  cases ef : f ρ with
  | none => rw [ef] at e1; cases e1
  | some x =>
    obtain ⟨d1, fl1⟩ := x
    rw [ef, Option.bind_some] at e1
    exact ⟨ρ, O, T, B, d1, fl1, st, ef, fun v H' s r => ⟨k, tru_of r.rep e1, q H' s⟩⟩
theorem dt_tru (ha : DE X a f) (he : ∀ whole, isTrue a X.env whole = (do let v ← whole; standAt a.pos; holding [v] (truthy v)) := by intro _; rfl) : DT X a (tTru f) := (pt_truth ha he).weak fun σ H Q q => tTru_of q
/-- is (not) None as a test -/
theorem dt_isN {j pos'} (ha : DE X a f) : DT X (.Compare a [.Is] [.Constant .none j pos'] pos) (tBl (eUn eIsN f)) := by
  refine (pt_cmp (pc_isN ha) (by rfl)).weak fun σ H Q q => ?_
  obtain ⟨ρ, O, T, B, d, fl, st, e1, q⟩ := tBl_of q
  unfold eUn at e1
  cases ef : f ρ with
  | none => rw [ef] at e1; cases e1
  | some x =>
    rw [ef, Option.bind_some] at e1
    exact ⟨ρ, O, T, B, x.1, x.2, st, ef, fun v H' s r => g_isN H H' σ ρ O T B st s x (d, fl) v _ e1 r fun w H'' s2 r2 => q w H'' (s.trans s2) r2⟩
theorem dt_notN {j pos'} (ha : DE X a f) : DT X (.Compare a [.IsNot] [.Constant .none j pos'] pos) (tBl (eUn eNotN f)) := by
  refine (pt_cmp (pc_notN ha) (by rfl)).weak fun σ H Q q => ?_
  obtain ⟨ρ, O, T, B, d, fl, st, e1, q⟩ := tBl_of q
  unfold eUn at e1
  cases ef : f ρ with
  | none => rw [ef] at e1; cases e1
  | some x =>
    rw [ef, Option.bind_some] at e1
    exact ⟨ρ, O, T, B, x.1, x.2, st, ef, fun v H' s r => g_notN H H' σ ρ O T B st s x (d, fl) v _ e1 r fun w H'' s2 r2 => q w H'' (s.trans s2) r2⟩
def tAndF (f g : TF) : TF := fun ρ => (f ρ).bind fun k => if k = true then g ρ else some false
def tOrF (f g : TF) : TF := fun ρ => (f ρ).bind fun k => if k = true then some true else g ρ
def tNotF (f : TF) : TF := fun ρ => (f ρ).map (!·)
variable {tf tg : TF} {rest : List Expr}
theorem dw_and1 (ha : DT X a tf) : DW X (.BoolOp .And [a] pos) tf := pw_and1 ha
theorem dw_or1 (ha : DT X a tf) : DW X (.BoolOp .Or [a] pos) tf := pw_or1 ha
theorem dw_and (ha : DT X a tf) (hb : DW X (.BoolOp .And (b :: rest) pos) tg) : DW X (.BoolOp .And (a :: b :: rest) pos) (tAndF tf tg) := (pw_and ha hb).weak fun σ H Q ⟨ρ, O, T, B, k, st, e1, q⟩ => by
  unfold tAndF at e1
  cases ef : tf ρ with
  | none => rw [ef] at e1; cases e1
  | some x =>
    rw [ef, Option.bind_some] at e1
    refine ⟨ρ, O, T, B, x, st, ef, fun H' s => ?_⟩
    cases x with
    | true =>
      rw [if_pos rfl] at e1 ⊢
      exact ⟨ρ, O, T, B, k, st.mono s, e1, fun H'' s2 => q H'' (s.trans s2)⟩
    | false =>
      rw [if_neg Bool.false_ne_true] at e1 ⊢
      cases e1
      exact q H' s
theorem dw_or (ha : DT X a tf) (hb : DW X (.BoolOp .Or (b :: rest) pos) tg) : DW X (.BoolOp .Or (a :: b :: rest) pos) (tOrF tf tg) := (pw_or ha hb).weak fun σ H Q ⟨ρ, O, T, B, k, st, e1, q⟩ => by
  unfold tOrF at e1
  cases ef : tf ρ with
  | none => rw [ef] at e1; cases e1
  | some x =>
    rw [ef, Option.bind_some] at e1
    refine ⟨ρ, O, T, B, x, st, ef, fun H' s => ?_⟩
    cases x with
    | true =>
      rw [if_pos rfl] at e1 ⊢
      cases e1
      exact q H' s
    | false =>
      rw [if_neg Bool.false_ne_true] at e1 ⊢
      exact ⟨ρ, O, T, B, k, st.mono s, e1, fun H'' s2 => q H'' (s.trans s2)⟩
theorem dt_w {e : Expr} (h : DW X e tf) : DT X e tf := h.pt
theorem dt_not (ha : DT X a tf) : DT X (.UnaryOp .Not a pos) (tNotF tf) := (pt_not ha).weak fun σ H Q ⟨ρ, O, T, B, k, st, e1, q⟩ => by
  unfold tNotF at e1
  cases ef : tf ρ with
  | none => rw [ef] at e1; cases e1
  | some x =>
    rw [ef, Option.map_some] at e1
    cases e1
    exact ⟨ρ, O, T, B, x, st, ef, fun H' s => q H' s⟩

/-! ### and, or, not, if .. else as values -/
def eAnd (f g : EF) : EF := fun ρ => (f ρ).bind fun x => (tru x.1).bind fun k => if k = true then g ρ else some x
def eOr (f g : EF) : EF := fun ρ => (f ρ).bind fun x => (tru x.1).bind fun k => if k = true then some x else g ρ
def eNotF (x : DF) : Option DF := (tru x.1).bind fun k => scal (.bl !k)
def eIf (t : TF) (f g : EF) : EF := fun ρ => (t ρ).bind fun k => if k = true then f ρ else g ρ
theorem de_one {op} (h : DE X a f) : DE X (.BoolOp op [a] pos) f := pe_one h
theorem de_and (ha : DE X a f) (hb : DE X (.BoolOp .And (b :: rest) pos) g) : DE X (.BoolOp .And (a :: b :: rest) pos) (eAnd f g) := (pe_andT ha hb).weak fun σ H Q ⟨ρ, O, T, B, d, fl, st, e1, q⟩ => by
  unfold eAnd at e1
  cases ef : f ρ with
  | none => rw [ef] at e1; cases e1
  | some x =>
    rw [ef, Option.bind_some] at e1
    cases et : tru x.1 with
    | none => rw [et] at e1; cases e1
    | some k =>
      rw [et, Option.bind_some] at e1
      refine ⟨ρ, O, T, B, x.1, x.2, st, ef, fun v H1 s1 r1 => ⟨k, tru_of r1.rep et, ?_⟩⟩
      cases k with
      | true =>
        rw [if_pos rfl] at e1 ⊢
        exact ⟨ρ, O, T, B, d, fl, st.mono s1, e1, fun u H2 s2 r2 => q u H2 (s1.trans s2) (r2.back s1)⟩
      | false =>
        rw [if_neg Bool.false_ne_true] at e1 ⊢
        cases e1
        exact q v H1 s1 r1
theorem de_or (ha : DE X a f) (hb : DE X (.BoolOp .Or (b :: rest) pos) g) : DE X (.BoolOp .Or (a :: b :: rest) pos) (eOr f g) := (pe_orT ha hb).weak fun σ H Q ⟨ρ, O, T, B, d, fl, st, e1, q⟩ => by
  unfold eOr at e1
  cases ef : f ρ with
  | none => rw [ef] at e1; cases e1
  | some x =>
    rw [ef, Option.bind_some] at e1
    cases et : tru x.1 with
    | none => rw [et] at e1; cases e1
    | some k =>
      rw [et, Option.bind_some] at e1
      refine ⟨ρ, O, T, B, x.1, x.2, st, ef, fun v H1 s1 r1 => ⟨k, tru_of r1.rep et, ?_⟩⟩
      cases k with
      | true =>
        rw [if_pos rfl] at e1 ⊢
        cases e1
        exact q v H1 s1 r1
      | false =>
        rw [if_neg Bool.false_ne_true] at e1 ⊢
        exact ⟨ρ, O, T, B, d, fl, st.mono s1, e1, fun u H2 s2 r2 => q u H2 (s1.trans s2) (r2.back s1)⟩
theorem de_not (ha : DE X a f) : DE X (.UnaryOp .Not a pos) (eUn eNotF f) := de_un (fun H0 H σ ρ O T B st s x z v Q e rx q => by
  unfold eNotF at e
  cases et : tru x.1 with
  | none => rw [et] at e; cases e
  | some k =>
    rw [et, Option.bind_some] at e
    cases e
    exact ⟨k, tru_of rx.rep et, q _ H (Same.refl H) Res.bl⟩) (pe_notT ha)
theorem de_if (hc : DT X c tf) (ha : DE X a f) (hb : DE X b g) : DE X (.IfExp c a b pos) (eIf tf f g) := (pe_ifExp hc ha hb).weak fun σ H Q ⟨ρ, O, T, B, d, fl, st, e1, q⟩ => by
  unfold eIf at e1
  cases ef : tf ρ with
  | none => rw [ef] at e1; cases e1
  | some k =>
    rw [ef, Option.bind_some] at e1
    refine ⟨ρ, O, T, B, k, st, ef, fun H1 s1 => ?_⟩
    cases k with
    | true =>
      rw [if_pos rfl] at e1 ⊢
      exact ⟨ρ, O, T, B, d, fl, st.mono s1, e1, fun u H2 s2 r2 => q u H2 (s1.trans s2) (r2.back s1)⟩
    | false =>
      rw [if_neg Bool.false_ne_true] at e1 ⊢
      exact ⟨ρ, O, T, B, d, fl, st.mono s1, e1, fun u H2 s2 r2 => q u H2 (s1.trans s2) (r2.back s1)⟩
end
end PF

set_option Elab.async false
set_option linter.all false
set_option maxRecDepth 100000
set_option maxHeartbeats 4000000
/-! PF5: subscripts, slices, simple built-ins. -/
namespace PF
open PySem PySem.Spec PyProof.Rows L2
section
variable {X : Cx} {a b c e : Expr} {f g h : EF} {pos : Pos}

/-! ### subscripts of lists, tuples, texts -/
def elFl : Fl → D → Fl
  | .bo (k + 1), _ => .bo k
  | .bo 0, _ => .bo 0
  | .fr _, _ => .fr 0
  | .any, d => if puD d then .fr 0 else .any
def eIxF (x y : DF) : Option DF := match x.1, y.1 with
  | .lst ds, .int i => (atI ds i).map fun d => (d, elFl x.2 d)
  | .tup ds, .int i => (atI ds i).map fun d => (d, if shr (.tup ds) x.2 then .fr 0 else .any)
  | .str z, .int i => if z.length ≤ sizeLine then (atI z.cps.toList i).map fun c => (.str ⟨#[c]⟩, .fr 0) else none
  | _, _ => none
theorem atI_map {α β : Type} {xs : List α} {ys : List β} (h : xs.length = ys.length) {i : Int} {x : α} (e : atI xs i = some x) : ∃ (j : Nat) (y : β), xs[j]? = some x ∧ ys[j]? = some y ∧ atI ys i = some y := by
  unfold atI at e ⊢
  cases hj : ixN xs.length i with
  | none => rw [hj] at e; cases e
  | some j =>
    rw [hj, Option.bind_some] at e
    have hl := (List.getElem?_eq_some_iff.mp e).1
    have hj' : ixN ys.length i = some j := h ▸ hj
    refine ⟨j, ys[j]'(by omega), e, List.getElem?_eq_getElem (by omega), ?_⟩
    rw [hj', Option.bind_some]
    exact List.getElem?_eq_getElem (by omega)
theorem OwnL.get {P : D → V → (Addr → Prop) → Prop} : ∀ {ds : List D} {vs : List V} {S : Addr → Prop} {j : Nat} {d : D} {v : V}, OwnL P ds vs S → ds[j]? = some d → vs[j]? = some v → ∃ S', (∀ a, S' a → S a) ∧ P d v S'
  | [], vs, S, j, d, v, h, e, _ => by simp at e
  | x :: ds, vs, S, j, d, v, h, e, e' => by
    obtain ⟨v0, vr, S1, S2, rfl, h1, h2, h3, h4⟩ := h
    cases j with
    | zero =>
      simp at e e'
      subst e
      subst e'
      exact ⟨S1, fun a q => (h3 a).mpr (.inl q), h1⟩
    | succ j =>
      obtain ⟨S', k1, k2⟩ := OwnL.get (j := j) h2 (by simpa using e) (by simpa using e')
      exact ⟨S', fun a q => (h3 a).mpr (.inr (k1 a q)), k2⟩
/-- an item of a list that is held so -/
theorem Res.item {K : PySem.W.Frag} {H0 H : Hp} {σ : L2.St} {ρ : Env} {O : Nat → Addr → Prop} {T : Addr → Prop} {B : Hp} {ds : List D} {fl : Fl} {v : V} (st : Sta K H0 σ ρ O T B) (s : Same H0 H) (r : Res K H0 H O T (.lst ds) fl v) {i : Int} {d : D} (e : atI ds i = some d) :
    ∃ a vs u, v = .ref a ∧ SqL K H a vs ∧ atI vs i = some u ∧ Res K H0 H O T d (elFl fl d) u := by
  cases fl with
  | any =>
    obtain ⟨a, vs, rfl, h1, h2, _⟩ := r.items st s
    obtain ⟨j, u, e1, e2, e3⟩ := atI_map (h2.length.symm) e
    obtain ⟨u', e4, r4⟩ := h2.get e1
    rw [e2] at e4
    cases e4
    refine ⟨a, vs, u, rfl, h1, e3, ?_⟩
    show Res K H0 H O T d (if puD d then .fr 0 else .any) u
    split
    · exact Res.sh (Rep.rst (st.soft s) _ _ (by assumption) r4)
    · exact r4
  | fr k =>
    obtain ⟨a, vs, rfl, h1, h2, h3⟩ := r.items st s
    obtain ⟨j, u, e1, e2, e3⟩ := atI_map (h2.length.symm) e
    obtain ⟨u', e4, r4⟩ := (h3 rfl).get e1
    rw [e2] at e4
    cases e4
    exact ⟨a, vs, u, rfl, h1, e3, Res.sh r4⟩
  | bo k =>
    cases k with
    | zero =>
      obtain ⟨a, vs, rfl, h1, h2, h3⟩ := r.items st s
      obtain ⟨j, u, e1, e2, e3⟩ := atI_map (h2.length.symm) e
      obtain ⟨u', e4, r4⟩ := (h3 rfl).get e1
      rw [e2] at e4
      cases e4
      exact ⟨a, vs, u, rfl, h1, e3, fun _ => False, fun _ q => q.elim, r4, fun _ q => q⟩
    | succ k =>
      obtain ⟨S, f, a, S', rfl, na, hs, ra, w⟩ := r
      rcases w with ⟨ds', vs, e1, e2, e3⟩ | ⟨kvs, ks, e1, _⟩ | ⟨kvs, ks, e1, _⟩
      · cases e1
        have hl : vs.length = ds.length := (OwnL.repL (K := K) (H := H) (fun d' v' S'' q h' => Own.rep Rst.same (fun b o m e => e) h') e3).length
        obtain ⟨j, u, e4, e5, e6⟩ := atI_map hl.symm e
        obtain ⟨S2, k1, k2⟩ := OwnL.get e3 e4 e5
        exact ⟨a, vs, u, rfl, SqL.of e2, e6, S2, fun b q => f b ((hs b).mpr (.inr (k1 b q))), k2⟩
      · cases e1
      · cases e1
theorem g_ix {K : PySem.W.Frag} : OpG K (rIx K) eIxF := fun H0 H σ ρ O T B st s x y z v u Q e rx ry q => by
  obtain ⟨dx, fx⟩ := x
  obtain ⟨dy, fy⟩ := y
  unfold eIxF at e
  simp only at e
  split at e
  · rename_i ds i
    cases ei : atI ds i with
    | none => rw [ei] at e; cases e
    | some d =>
      rw [ei, Option.map_some] at e
      cases e
      obtain ⟨a, vs, w, rfl, h1, h2, h3⟩ := rx.item st s ei
      exact .inl ⟨a, vs, i, w, rfl, rep_int ry.rep, h1, h2, q w H (Same.refl H) h3⟩
  · rename_i ds i
    cases ei : atI ds i with
    | none => rw [ei] at e; cases e
    | some d =>
      rw [ei, Option.map_some] at e
      cases e
      obtain ⟨a, vs, rfl, h1, h2, h3⟩ := rx.tuple st s
      obtain ⟨j, w, e1, e2, e3⟩ := atI_map (h2.length.symm) ei
      refine .inr (.inl ⟨a, vs, i, w, rfl, rep_int ry.rep, h1, e3, q w H (Same.refl H) ?_⟩)
      simp only
      split
      · rename_i hb
        obtain ⟨u', e4, r4⟩ := (h3 hb).get e1
        rw [e2] at e4
        cases e4
        exact Res.sh r4
      · obtain ⟨u', e4, r4⟩ := h2.get e1
        rw [e2] at e4
        cases e4
        exact r4
  · rename_i z i
    split at e
    · cases ei : atI z.cps.toList i with
      | none => rw [ei] at e; cases e
      | some c =>
        rw [ei, Option.map_some] at e
        cases e
        exact .inr (.inr ⟨z, i, c, rep_str rx.rep, rep_int ry.rep, by assumption, ei, q _ H (Same.refl H) Res.str⟩)
    · cases e
  · cases e
theorem de_ix (ha : DE X a f) (hb : DE X b g) (hs : PlainIx b := by exact fun _ _ => rfl) : DE X (.Subscript a b pos) (eOp eIxF f g) := de_op g_ix (pe_ix ix_seq ha hb hs)

/-! ### slices -/
abbrev OF := Env → Option (Option Int)
def tO (K : PySem.W.Frag) (f : OF) : TO := fun σ H Q => ∃ ρ O T B o, Sta K H σ ρ O T B ∧ f ρ = some o ∧ ∀ H', Same H H' → Q o H'
def oNone : OF := fun _ => some none
def oSome (f : EF) : OF := fun ρ => (f ρ).bind fun x => match x.1 with
  | .int i => some (some i)
  | _ => none
def DO (X : Cx) (e : Option Expr) (f : OF) : Prop := PO X e (tO X.K f)
theorem _root_.L2.PO.weak {e : Option Expr} {t t' : TO} (h : PO X e t) (w : ∀ σ H Q, t' σ H Q → t σ H Q) : PO X e t' := ⟨fun pins s σ H Q I q => h.run pins s σ H Q I (w _ _ _ q)⟩
theorem do_none : DO X none oNone := po_none.weak fun σ H Q ⟨ρ, O, T, B, o, st, e1, q⟩ => by
  unfold oNone at e1
  cases e1
  exact q H (Same.refl H)
theorem do_some (h : DE X a f) : DO X (some a) (oSome f) := (po_some h).weak fun σ H Q ⟨ρ, O, T, B, o, st, e1, q⟩ => by
  unfold oSome at e1
  cases ef : f ρ with
  | none => rw [ef] at e1; cases e1
  | some x =>
    obtain ⟨d, fl⟩ := x
    rw [ef, Option.bind_some] at e1
    simp only at e1
    split at e1
    · cases e1
      exact ⟨ρ, O, T, B, _, _, st, ef, fun v H' s r => ⟨_, rep_int r.rep, q H' s⟩⟩
    · cases e1
def cutD {α : Type} (xs : List α) (lo hi : Option Int) : List α := (xs.drop (HT.sIx xs.length 0 lo)).take (HT.sIx xs.length xs.length hi - HT.sIx xs.length 0 lo)
def eSlF (x : DF) (lo hi : Option Int) : Option DF := match x.1 with
  | .lst ds => some (.lst (cutD ds lo hi), if eshr (.lst ds) x.2 then .fr 1 else .any)
  | .tup ds => some (.tup (cutD ds lo hi), if shr (.tup ds) x.2 then .fr 0 else .any)
  | .str z => if z.length ≤ sizeLine then some (.str (cutS z lo hi), .fr 0) else none
  | _ => none
def eSl (f : EF) (lo hi : OF) : EF := fun ρ => (f ρ).bind fun x => (lo ρ).bind fun l => (hi ρ).bind fun u => eSlF x l u
theorem RepL.cut {K : PySem.W.Frag} {H : Hp} {ds : List D} {vs : List V} (r : RepL K H ds vs) (lo hi : Option Int) : RepL K H (cutD ds lo hi) (cutV vs lo hi) := by
  unfold cutD cutV
  rw [r.length]
  exact RepL.take _ (RepL.drop _ r)
theorem cut_whole {α : Type} (xs : List α) {lo hi : Option Int} (h : HT.sIx xs.length 0 lo = 0 ∧ HT.sIx xs.length xs.length hi = xs.length) : cutD xs lo hi = xs := by
  unfold cutD
  rw [h.1, h.2]
  simp
def rSlO (K : PySem.W.Frag) : V → Option Int → Option Int → Hp → VK → Prop := fun x lo hi H Q => ∃ a xs, x = .ref a ∧ SqT K H a xs ∧
  (HT.sIx xs.length 0 lo = 0 ∧ HT.sIx xs.length xs.length hi = xs.length → Q (.ref a) H) ∧ (¬ (HT.sIx xs.length 0 lo = 0 ∧ HT.sIx xs.length xs.length hi = xs.length) → ∀ p o, H p = none → IsTO o (cutV xs lo hi) → Q (.ref p) (upd H p o))
theorem sl_tupO : SlR X (rSlO X.K) := by
  intro pins s σ H x v vl vu lo hi sl Q I rx hs pl pu h
  obtain ⟨a, xs, rfl, hx, q1, q2⟩ := h
  cases rx
  obtain ⟨its, r, ht, hz⟩ := I.tuple hx
  have hlen : its.toArray.size = xs.length := by rw [List.size_toArray]; exact r.length.symm
  refine ⟨"tuple", _, PyProof.Rows.slot_tuple_getitem.lookup, ht.typeIs, ?_⟩
  by_cases hw : HT.sIx xs.length 0 lo = 0 ∧ HT.sIx xs.length xs.length hi = xs.length
  · exact getItem_tuple_whole ht hs pl pu (by rw [hlen]; exact hw) ⟨.ref a, H, I, rfl, q1 hw⟩
  · refine HT.getItem_tuple_cut ht hs pl pu (by rw [hlen]; exact hw) ?_ (by rw [hlen]; exact hz)
    rw [hlen]
    obtain ⟨o, ho, I2⟩ := I.newTO (t' := s.toks) (vs := cutV xs lo hi) ((r.drop (HT.sIx xs.length 0 lo)).take (HT.sIx xs.length xs.length hi - HT.sIx xs.length 0 lo)) (Nat.le_trans (cutV_length xs lo hi) hz)
    exact ⟨.ref s.heap.objs.size, _, I2, rfl, q2 hw _ o (I.hok.fresh (Nat.le_refl _)) ho⟩
theorem de_slice {lo hi : Option Expr} {fl fh : OF} {p2 : Pos} (ha : DE X a f) (hl : DO X lo fl) (hu : DO X hi fh) : DE X (.Subscript a (.Slice lo hi none p2) pos) (eSl f fl fh) :=
  (pe_slice (SlR.or sl_list (SlR.or sl_tupO sl_str)) ha hl hu).weak fun σ H Q ⟨ρ, O, T, B, d, fd, st, e1, q⟩ => by
    unfold eSl at e1
    cases ef : f ρ with
    | none => rw [ef] at e1; cases e1
    | some x =>
      obtain ⟨dx, fx⟩ := x
      cases el : fl ρ with
      | none => rw [ef, Option.bind_some, el] at e1; cases e1
      | some l =>
        cases eh : fh ρ with
        | none => rw [ef, Option.bind_some, el, Option.bind_some, eh] at e1; cases e1
        | some u =>
          rw [ef, Option.bind_some, el, Option.bind_some, eh, Option.bind_some] at e1
          refine ⟨ρ, O, T, B, dx, fx, st, ef, fun v H1 s1 r1 => ⟨ρ, O, T, B, l, st.mono s1, el, fun H2 s2 => ⟨ρ, O, T, B, u, (st.mono s1).mono s2, eh, fun H3 s3 => ?_⟩⟩⟩
          have s := (s1.trans s2).trans s3
          have r := r1.mono (s2.trans s3)
          unfold eSlF at e1
          simp only at e1
          split at e1
          · cases e1
            obtain ⟨a, vs, rfl, h1, h2, h3⟩ := r.items st s
            refine .inl ⟨a, vs, rfl, h1, fun p hp => q _ _ (s.trans (same_new hp)) ?_⟩
            split
            · exact Res.newL st s ((h3 (by assumption)).cut l u) hp
            · exact Rep.newL (h2.cut l u) hp
          · cases e1
            obtain ⟨a, vs, rfl, h1, h2, h3⟩ := r.tuple st s
            refine .inr (.inl ⟨a, vs, rfl, h1, fun hw => q _ _ s ?_, fun hw p o hp ho => q _ _ (s.trans (same_new hp)) ?_⟩)
            · rw [h2.length] at hw
              rw [cut_whole _ hw]
              split
              · exact Res.sh (r.shared st s (by assumption))
              · exact r.rep
            · split
              · exact Res.newT st s ((h3 (by assumption)).cut l u) hp ho
              · exact Rep.newT (h2.cut l u) hp ho
          · split at e1
            · cases e1
              exact .inr (.inr ⟨_, rep_str r.rep, by assumption, q _ _ s Res.str⟩)
            · cases e1
          · cases e1

/-! ### built-ins of one argument -/
def eLenF (x : DF) : Option DF := match x.1 with
  | .lst ds => scal (.int ds.length)
  | .tup ds => scal (.int ds.length)
  | .str z => if z.length ≤ sizeLine then scal (.int z.length) else none
  | _ => none
theorem g_len {K : PySem.W.Frag} : UnG K (fun v => (fun xs H Q => ∃ x n, xs = [x] ∧ LenV K x H n ∧ Q (.int n) H) [v]) eLenF := fun H0 H σ ρ O T B st s x z v Q e rx q => by
  obtain ⟨dx, fx⟩ := x
  unfold eLenF at e
  have r := rx.rep
  simp only at e
  split at e
  · cases e
    unfold Rep at r
    obtain ⟨a, vs, rfl, h1, h2⟩ := r
    refine ⟨_, vs.length, rfl, .inl ⟨vs, h1, rfl⟩, ?_⟩
    rw [h2.length]
    exact q _ H (Same.refl H) Res.int
  · cases e
    unfold Rep at r
    obtain ⟨a, vs, rfl, h1, h2⟩ := r
    refine ⟨_, vs.length, rfl, .inr ⟨vs, h1.sq, rfl⟩, ?_⟩
    rw [h2.length]
    exact q _ H (Same.refl H) Res.int
  · split at e
    · cases e
      have := rep_str r
      subst this
      exact ⟨_, _, rfl, ⟨by assumption, rfl⟩, q _ H (Same.refl H) Res.int⟩
    · cases e
  · cases e
def eAbsF (x : DF) : Option DF := match x.1 with
  | .int i => scal (.int (if i < 0 then -i else i))
  | _ => none
theorem g_abs {K : PySem.W.Frag} : UnG K (fun v => (fun xs H Q => ∃ i, xs = [.int i] ∧ Q (.int (if i < 0 then -i else i)) H) [v]) eAbsF := fun H0 H σ ρ O T B st s x z v Q e rx q => by
  obtain ⟨dx, fx⟩ := x
  unfold eAbsF at e
  simp only at e
  split at e
  · cases e
    exact ⟨_, by rw [rep_int rx.rep], q _ H (Same.refl H) Res.int⟩
  · cases e
def eIntF (x : DF) : Option DF := match x.1 with
  | .int i => scal (.int i)
  | .bl k => scal (.int (if k then 1 else 0))
  | _ => none
theorem g_int {K : PySem.W.Frag} : UnG K (fun v => (fun xs H Q => (∃ i, xs = [.int i] ∧ Q (.int i) H) ∨ ∃ k, xs = [.bl k] ∧ Q (.int (if k then 1 else 0)) H) [v]) eIntF := fun H0 H σ ρ O T B st s x z v Q e rx q => by
  obtain ⟨dx, fx⟩ := x
  unfold eIntF at e
  simp only at e
  split at e
  · cases e
    exact .inl ⟨_, by rw [rep_int rx.rep], q _ H (Same.refl H) Res.int⟩
  · cases e
    exact .inr ⟨_, by rw [rep_bl rx.rep], q _ H (Same.refl H) Res.int⟩
  · cases e
/-- a list of intL, of bools -/
def intL : List D → Option (List Int)
  | [] => some []
  | .int i :: ds => (intL ds).map (i :: ·)
  | _ => none
def blsL : List D → Option (List Bool)
  | [] => some []
  | .bl i :: ds => (blsL ds).map (i :: ·)
  | _ => none
theorem intL_rep {K : PySem.W.Frag} {H : Hp} : ∀ {ds : List D} {ns : List Int} {vs : List V}, intL ds = some ns → RepL K H ds vs → vs = ns.map V.int
  | [], ns, vs, e, r => by
    cases e
    exact r.nil_inv
  | d :: ds, ns, vs, e, r => by
    obtain ⟨v, vr, rfl, h1, h2⟩ := r.cons_inv
    cases d <;> simp only [intL] at e <;> try (cases e; done)
    cases ei : intL ds with
    | none => rw [ei] at e; cases e
    | some ms =>
      rw [ei, Option.map_some] at e
      cases e
      rw [rep_int h1, intL_rep ei h2]
      rfl
theorem blsL_rep {K : PySem.W.Frag} {H : Hp} : ∀ {ds : List D} {ns : List Bool} {vs : List V}, blsL ds = some ns → RepL K H ds vs → vs = ns.map V.bl
  | [], ns, vs, e, r => by
    cases e
    exact r.nil_inv
  | d :: ds, ns, vs, e, r => by
    obtain ⟨v, vr, rfl, h1, h2⟩ := r.cons_inv
    cases d <;> simp only [blsL] at e <;> try (cases e; done)
    cases ei : blsL ds with
    | none => rw [ei] at e; cases e
    | some ms =>
      rw [ei, Option.map_some] at e
      cases e
      rw [rep_bl h1, blsL_rep ei h2]
      rfl
theorem intL_len : ∀ {ds : List D} {ns : List Int}, intL ds = some ns → ns.length = ds.length
  | [], ns, e => by cases e; rfl
  | d :: ds, ns, e => by
    cases d <;> simp only [intL] at e <;> try (cases e; done)
    cases ei : intL ds with
    | none => rw [ei] at e; cases e
    | some ms =>
      rw [ei, Option.map_some] at e
      cases e
      simp [intL_len ei]
def lstOf : D → Option (List D)
  | .lst ds => some ds
  | _ => none
/-- a built-in of a list of intL (bools), whose result is no object -/
def eIntsF (p : List Int → Option D) (x : DF) : Option DF := (lstOf x.1).bind fun ds => (intL ds).bind fun ns => (p ns).bind scal
def eBlsF (p : List Bool → Option D) (x : DF) : Option DF := (lstOf x.1).bind fun ds => (blsL ds).bind fun ns => (p ns).bind scal
theorem eIntsF_inv {p : List Int → Option D} {x z : DF} (h : eIntsF p x = some z) : ∃ ds ns d, x.1 = .lst ds ∧ intL ds = some ns ∧ p ns = some d ∧ z = (d, .fr 0) := by
  obtain ⟨dx, fx⟩ := x
  unfold eIntsF at h
  cases dx <;> simp only [lstOf, Option.bind_none, Option.bind_some] at h <;> try (cases h; done)
  rename_i ds
  cases ei : intL ds with
  | none => rw [ei] at h; cases h
  | some ns =>
    rw [ei, Option.bind_some] at h
    cases ep : p ns with
    | none => rw [ep] at h; cases h
    | some d =>
      rw [ep, Option.bind_some] at h
      cases h
      first | exact ⟨ds, ns, d, rfl, ei, ep, rfl⟩ | exact ⟨ds, ns, d, rfl, rfl, ep, rfl⟩
theorem eBlsF_inv {p : List Bool → Option D} {x z : DF} (h : eBlsF p x = some z) : ∃ ds ns d, x.1 = .lst ds ∧ blsL ds = some ns ∧ p ns = some d ∧ z = (d, .fr 0) := by
  obtain ⟨dx, fx⟩ := x
  unfold eBlsF at h
  cases dx <;> simp only [lstOf, Option.bind_none, Option.bind_some] at h <;> try (cases h; done)
  rename_i ds
  cases ei : blsL ds with
  | none => rw [ei] at h; cases h
  | some ns =>
    rw [ei, Option.bind_some] at h
    cases ep : p ns with
    | none => rw [ep] at h; cases h
    | some d =>
      rw [ep, Option.bind_some] at h
      cases h
      first | exact ⟨ds, ns, d, rfl, ei, ep, rfl⟩ | exact ⟨ds, ns, d, rfl, rfl, ep, rfl⟩
theorem rep_lst {K : PySem.W.Frag} {H : Hp} {ds : List D} {v : V} (r : Rep K H (.lst ds) v) : ∃ a vs, v = .ref a ∧ SqL K H a vs ∧ RepL K H ds vs := by unfold Rep at r; exact r
theorem rep_tupX {K : PySem.W.Frag} {H : Hp} {ds : List D} {v : V} (r : Rep K H (.tup ds) v) : ∃ a vs, v = .ref a ∧ TupAt H a vs ∧ RepL K H ds vs := by unfold Rep at r; exact r
theorem rep_tup {K : PySem.W.Frag} {H : Hp} {ds : List D} {v : V} (r : Rep K H (.tup ds) v) : ∃ a vs, v = .ref a ∧ SqT K H a vs ∧ RepL K H ds vs := by
  obtain ⟨a, vs, e, h1, h2⟩ := rep_tupX r
  exact ⟨a, vs, e, h1.sq, h2⟩
abbrev eSumF := eIntsF fun ns => some (.int ns.sum)
theorem g_sum {K : PySem.W.Frag} : UnG K (fun v => rSum K [v]) eSumF := fun H0 H σ ρ O T B st s x z v Q e rx q => by
  obtain ⟨dx, fx⟩ := x
  obtain ⟨ds, ns, d, rfl, e1, e2, rfl⟩ := eIntsF_inv e
  cases e2
  obtain ⟨a, vs, rfl, h1, h2⟩ := rep_lst rx.rep
  rw [intL_rep e1 h2] at h1
  exact ⟨a, ns, rfl, h1, q _ H (Same.refl H) Res.int⟩
abbrev eAllF := eBlsF fun ns => some (.bl (ns.all id))
abbrev eAnyF := eBlsF fun ns => some (.bl (ns.any id))
theorem g_all {K : PySem.W.Frag} : UnG K (fun v => rAll K [v]) eAllF := fun H0 H σ ρ O T B st s x z v Q e rx q => by
  obtain ⟨dx, fx⟩ := x
  obtain ⟨ds, ns, d, rfl, e1, e2, rfl⟩ := eBlsF_inv e
  cases e2
  obtain ⟨a, vs, rfl, h1, h2⟩ := rep_lst rx.rep
  rw [blsL_rep e1 h2] at h1
  exact ⟨a, ns, rfl, h1, q _ H (Same.refl H) Res.bl⟩
theorem g_any {K : PySem.W.Frag} : UnG K (fun v => rAny K [v]) eAnyF := fun H0 H σ ρ O T B st s x z v Q e rx q => by
  obtain ⟨dx, fx⟩ := x
  obtain ⟨ds, ns, d, rfl, e1, e2, rfl⟩ := eBlsF_inv e
  cases e2
  obtain ⟨a, vs, rfl, h1, h2⟩ := rep_lst rx.rep
  rw [blsL_rep e1 h2] at h1
  exact ⟨a, ns, rfl, h1, q _ H (Same.refl H) Res.bl⟩
def maxI : List Int → Option Int
  | [] => none
  | x :: xs => some (xs.foldl (fun m y => if y > m then y else m) x)
def minI : List Int → Option Int
  | [] => none
  | x :: xs => some (xs.foldl (fun m y => if y < m then y else m) x)
theorem foldl_max : ∀ (xs : List Int) (x : Int), (xs.foldl (fun m y => if y > m then y else m) x) ∈ x :: xs ∧ ∀ y ∈ x :: xs, y ≤ xs.foldl (fun m y => if y > m then y else m) x
  | [], x => ⟨by simp, by simp⟩
  | z :: xs, x => by
    rw [List.foldl_cons]
    obtain ⟨h1, h2⟩ := foldl_max xs (if z > x then z else x)
    generalize xs.foldl (fun m y => if y > m then y else m) (if z > x then z else x) = M at h1 h2 ⊢
    constructor
    · rcases List.mem_cons.mp h1 with h | h
      · rw [h]
        split <;> simp
      · exact List.mem_cons_of_mem _ (List.mem_cons_of_mem _ h)
    · intro y hy
      have h3 := h2 _ List.mem_cons_self
      rcases List.mem_cons.mp hy with rfl | hy
      · split at h3 <;> omega
      · rcases List.mem_cons.mp hy with rfl | hy
        · split at h3 <;> omega
        · exact h2 y (List.mem_cons_of_mem _ hy)
theorem foldl_min : ∀ (xs : List Int) (x : Int), (xs.foldl (fun m y => if y < m then y else m) x) ∈ x :: xs ∧ ∀ y ∈ x :: xs, xs.foldl (fun m y => if y < m then y else m) x ≤ y
  | [], x => ⟨by simp, by simp⟩
  | z :: xs, x => by
    rw [List.foldl_cons]
    obtain ⟨h1, h2⟩ := foldl_min xs (if z < x then z else x)
    generalize xs.foldl (fun m y => if y < m then y else m) (if z < x then z else x) = M at h1 h2 ⊢
    constructor
    · rcases List.mem_cons.mp h1 with h | h
      · rw [h]
        split <;> simp
      · exact List.mem_cons_of_mem _ (List.mem_cons_of_mem _ h)
    · intro y hy
      have h3 := h2 _ List.mem_cons_self
      rcases List.mem_cons.mp hy with rfl | hy
      · split at h3 <;> omega
      · rcases List.mem_cons.mp hy with rfl | hy
        · split at h3 <;> omega
        · exact h2 y (List.mem_cons_of_mem _ hy)
theorem maxI_spec {ns : List Int} {m : Int} (h : maxI ns = some m) : m ∈ ns ∧ ∀ y ∈ ns, y ≤ m := by
  cases ns with
  | nil => cases h
  | cons x xs =>
    cases h
    exact foldl_max xs x
theorem minI_spec {ns : List Int} {m : Int} (h : minI ns = some m) : m ∈ ns ∧ ∀ y ∈ ns, m ≤ y := by
  cases ns with
  | nil => cases h
  | cons x xs =>
    cases h
    exact foldl_min xs x
abbrev eMaxF := eIntsF fun ns => (maxI ns).map .int
abbrev eMinF := eIntsF fun ns => (minI ns).map .int
theorem g_max {K : PySem.W.Frag} : UnG K (fun v => rMax K [v]) eMaxF := fun H0 H σ ρ O T B st s x z v Q e rx q => by
  obtain ⟨dx, fx⟩ := x
  obtain ⟨ds, ns, d, rfl, e1, e2, rfl⟩ := eIntsF_inv e
  obtain ⟨a, vs, rfl, h1, h2⟩ := rep_lst rx.rep
  rw [intL_rep e1 h2] at h1
  cases em : maxI ns with
  | none => rw [em] at e2; cases e2
  | some m =>
    rw [em] at e2
    cases e2
    obtain ⟨k1, k2⟩ := maxI_spec em
    refine ⟨a, ns, rfl, h1, List.length_pos_of_mem k1, fun m' h3 h4 => ?_⟩
    have : m' = m := Int.le_antisymm (k2 _ h3) (h4 _ k1)
    subst this
    exact q _ H (Same.refl H) Res.int
theorem g_min {K : PySem.W.Frag} : UnG K (fun v => rMin K [v]) eMinF := fun H0 H σ ρ O T B st s x z v Q e rx q => by
  obtain ⟨dx, fx⟩ := x
  obtain ⟨ds, ns, d, rfl, e1, e2, rfl⟩ := eIntsF_inv e
  obtain ⟨a, vs, rfl, h1, h2⟩ := rep_lst rx.rep
  rw [intL_rep e1 h2] at h1
  cases em : minI ns with
  | none => rw [em] at e2; cases e2
  | some m =>
    rw [em] at e2
    cases e2
    obtain ⟨k1, k2⟩ := minI_spec em
    refine ⟨a, ns, rfl, h1, List.length_pos_of_mem k1, fun m' h3 h4 => ?_⟩
    have : m' = m := Int.le_antisymm (h4 _ k1) (k2 _ h3)
    subst this
    exact q _ H (Same.refl H) Res.int
/-- two intL -/
theorem g_max2 {K : PySem.W.Frag} : OpG K (fun v u => (fun xs H Q => ∃ i j, xs = [.int i, .int j] ∧ Q (.int (if j > i then j else i)) H) [v, u]) (iop fun i j => some (if j > i then j else i)) := fun H0 H σ ρ O T B st s x y z v u Q e0 rx ry q => by
  obtain ⟨i, j, k, fx, fy, rfl, rfl, e, rfl⟩ := iop_inv e0
  cases e
  exact ⟨i, j, by rw [rep_int rx.rep, rep_int ry.rep], q _ H (Same.refl H) Res.int⟩
theorem g_min2 {K : PySem.W.Frag} : OpG K (fun v u => (fun xs H Q => ∃ i j, xs = [.int i, .int j] ∧ Q (.int (if j < i then j else i)) H) [v, u]) (iop fun i j => some (if j < i then j else i)) := fun H0 H σ ρ O T B st s x y z v u Q e0 rx ry q => by
  obtain ⟨i, j, k, fx, fy, rfl, rfl, e, rfl⟩ := iop_inv e0
  cases e
  exact ⟨i, j, by rw [rep_int rx.rep, rep_int ry.rep], q _ H (Same.refl H) Res.int⟩
abbrev eMax2F := iop fun i j => some (if j > i then j else i)
abbrev eMin2F := iop fun i j => some (if j < i then j else i)
/-- list(x), tuple(x) of a list or a tuple -/
def eListF (x : DF) : Option DF := match x.1 with
  | .lst ds => some (.lst ds, if eshr (.lst ds) x.2 then .fr 1 else .any)
  | .tup ds => some (.lst ds, if shr (.tup ds) x.2 then .fr 1 else .any)
  | _ => none
def eTupleF (x : DF) : Option DF := match x.1 with
  | .lst ds => some (.tup ds, if eshr (.lst ds) x.2 then .fr 0 else .any)
  | .tup ds => some (.tup ds, if shr (.tup ds) x.2 then .fr 0 else .any)
  | _ => none
theorem g_list {K : PySem.W.Frag} : UnG K (fun v => (fun xs H Q => ∃ p ys, xs = [.ref p] ∧ (SqL K H p ys ∨ SqT K H p ys) ∧ ∀ l, H l = none → Q (.ref l) (upd H l (.lst ys))) [v]) eListF := fun H0 H σ ρ O T B st s x z v Q e rx q => by
  obtain ⟨dx, fx⟩ := x
  unfold eListF at e
  simp only at e
  split at e
  · cases e
    obtain ⟨a, vs, rfl, h1, h2, h3⟩ := rx.items st s
    refine ⟨a, vs, rfl, .inl h1, fun l hl => q _ _ (same_new hl) ?_⟩
    simp only
    split
    · exact Res.newL st s (h3 (by assumption)) hl
    · exact Rep.newL h2 hl
  · cases e
    obtain ⟨a, vs, rfl, h1, h2, h3⟩ := rx.tuple st s
    refine ⟨a, vs, rfl, .inr h1, fun l hl => q _ _ (same_new hl) ?_⟩
    simp only
    split
    · exact Res.newL st s (h3 (by assumption)) hl
    · exact Rep.newL h2 hl
  · cases e
def rTupO (K : PySem.W.Frag) : List V → Hp → VK → Prop := fun xs H Q => ∃ p ys, xs = [.ref p] ∧ ((SqL K H p ys ∧ ∀ l o, H l = none → IsTO o ys → Q (.ref l) (upd H l o)) ∨ (SqT K H p ys ∧ Q (.ref p) H))
theorem call_tupO {X : Cx} : CallR X (.type "tuple") (rTupO X.K) := by
  intro pins s σ H xs us Q I r h
  obtain ⟨p, ys, rfl, h⟩ := h
  obtain ⟨u, rfl, rx⟩ := vals1 r
  cases rx
  rcases h with ⟨hq, q⟩ | ⟨hq, q⟩
  · obtain ⟨its, r', pl, hz⟩ := I.list hq
    have hlen := r'.length
    refine call_tuple_list pl.isList (fun h' kp => ?_) (by simp only [List.size_toArray] <;> omega)
    have I1 : Inv X pins σ H { s with heap := h' } := I.kept (t' := s.toks) kp
    obtain ⟨o, ho, I2⟩ := I1.newTO (t' := s.toks) r' hz
    exact ⟨.ref h'.objs.size, _, I2, rfl, q _ o (I1.hok.fresh (Nat.le_refl _)) ho⟩
  · obtain ⟨its, r', pl, hz⟩ := I.tuple hq
    exact call_tuple_same pl ⟨.ref p, H, I, rfl, q⟩
theorem g_tuple {K : PySem.W.Frag} : UnG K (fun v => rTupO K [v]) eTupleF := fun H0 H σ ρ O T B st s x z v Q e rx q => by
  obtain ⟨dx, fx⟩ := x
  unfold eTupleF at e
  simp only at e
  split at e
  · cases e
    obtain ⟨a, vs, rfl, h1, h2, h3⟩ := rx.items st s
    refine ⟨a, vs, rfl, .inl ⟨h1, fun l o hl ho => q _ _ (same_new hl) ?_⟩⟩
    simp only
    split
    · exact Res.newT st s (h3 (by assumption)) hl ho
    · exact Rep.newT h2 hl ho
  · cases e
    obtain ⟨a, vs, rfl, h1, h2, h3⟩ := rx.tuple st s
    refine ⟨a, vs, rfl, .inr ⟨h1, q _ _ (Same.refl H) ?_⟩⟩
    simp only
    split
    · exact Res.sh (rx.shared st s (by assumption))
    · exact rx.rep
  · cases e
end
end PF

set_option Elab.async false
set_option linter.all false
set_option maxRecDepth 100000
set_option maxHeartbeats 4000000
/-! PF6: what a statement does to the frame's data. -/
namespace PF
open PySem PySem.Spec PyProof.Rows L2

inductive Out where
  | nx (ρ : Env) | rt (d : D) (k : Nat) | bk (ρ : Env) | ct (ρ : Env)
abbrev SF := Env → Option Out
def Fin (K : PySem.W.Frag) (B : Hp) (E : Ends) : Out → Prop
  | .nx ρ => ∀ σ H O, Sta K H σ ρ O T0 B → E.nx σ H
  | .rt d k => ∀ v H S, Same B H → (∀ a, S a → B a = none) → Own K (Rst H S) H k d v S → E.rt v H
  | .bk ρ => ∀ σ H O, Sta K H σ ρ O T0 B → E.bk σ H
  | .ct ρ => ∀ σ H O, Sta K H σ ρ O T0 B → E.ct σ H
def tS (K : PySem.W.Frag) (f : SF) : TS := fun E σ H => ∃ ρ O B o, Sta K H σ ρ O T0 B ∧ f ρ = some o ∧ Fin K B E o
def DS (X : Cx) (st : Stmt) (f : SF) : Prop := PS X st (tS X.K f)
def DSs (X : Cx) (st : List Stmt) (f : SF) : Prop := PSs X st (tS X.K f)
section
variable {X : Cx}
theorem _root_.L2.PS.weak {e : Stmt} {t t' : TS} (h : PS X e t) (w : ∀ D σ H, t' D σ H → t D σ H) : PS X e t' := ⟨fun pins s σ H D I q => h.run pins s σ H D I (w _ _ _ q)⟩
theorem _root_.L2.PSs.weak {e : List Stmt} {t t' : TS} (h : PSs X e t) (w : ∀ D σ H, t' D σ H → t D σ H) : PSs X e t' := ⟨fun pins s σ H D I q => h.run pins s σ H D I (w _ _ _ q)⟩
def sNil : SF := fun ρ => some (.nx ρ)
def sSeq (f g : SF) : SF := fun ρ => (f ρ).bind fun o => match o with
  | .nx ρ' => g ρ'
  | o => some o
theorem dss_nil : DSs X [] sNil := pss_nil.weak fun D σ H ⟨ρ, O, B, o, st, e1, q⟩ => by
  unfold sNil at e1
  cases e1
  exact q σ H O st
theorem tSeq_of {K : PySem.W.Frag} {f g : SF} {E : Ends} {σ : L2.St} {H : Hp} (h : tS K (sSeq f g) E σ H) : tSeq (tS K f) (tS K g) E σ H := by
  obtain ⟨ρ, O, B, o, st, e1, q⟩ := h
  unfold sSeq at e1
  cases ef : f ρ with
  | none => rw [ef] at e1; cases e1
  | some o1 =>
    rw [ef, Option.bind_some] at e1
    refine ⟨ρ, O, B, o1, st, ef, ?_⟩
    cases o1 with
    | nx ρ' => exact fun σ' H' O' st' => ⟨ρ', O', B, o, st', e1, q⟩
    | rt d k => cases e1; exact q
    | bk ρ' => cases e1; exact q
    | ct ρ' => cases e1; exact q
theorem dss_cons {st : Stmt} {rest : List Stmt} {f g : SF} (h1 : DS X st f) (h2 : DSs X rest g) : DSs X (st :: rest) (sSeq f g) := (pss_cons h1 h2).weak fun D σ H h => tSeq_of h
theorem dss_one {st : Stmt} {f : SF} (h1 : DS X st f) : DSs X [st] f := pss_one h1
def sBreak : SF := fun ρ => some (.bk ρ)
def sCont : SF := fun ρ => some (.ct ρ)
theorem ds_pass {pos} : DS X (.Pass pos) sNil := ps_pass.weak fun D σ H ⟨ρ, O, B, o, st, e1, q⟩ => by
  unfold sNil at e1
  cases e1
  exact q σ H O st
theorem ds_break {pos} : DS X (.Break pos) sBreak := ps_break.weak fun D σ H ⟨ρ, O, B, o, st, e1, q⟩ => by
  unfold sBreak at e1
  cases e1
  exact q σ H O st
theorem ds_continue {pos} : DS X (.Continue pos) sCont := ps_continue.weak fun D σ H ⟨ρ, O, B, o, st, e1, q⟩ => by
  unfold sCont at e1
  cases e1
  exact q σ H O st
def sIf (t : TF) (f g : SF) : SF := fun ρ => (t ρ).bind fun k => if k = true then f ρ else g ρ
theorem ds_if {c : Expr} {a b : List Stmt} {t : TF} {f g : SF} {pos} (hc : DT X c t) (ha : DSs X a f) (hb : DSs X b g) : DS X (.If c a b pos) (sIf t f g) := (ps_if hc ha hb).weak fun D σ H ⟨ρ, O, B, o, st, e1, q⟩ => by
  unfold sIf at e1
  cases ef : t ρ with
  | none => rw [ef] at e1; cases e1
  | some k =>
    rw [ef, Option.bind_some] at e1
    refine ⟨ρ, O, T0, B, k, st, ef, fun H1 s1 => ?_⟩
    cases k with
    | true =>
      rw [if_pos rfl] at e1 ⊢
      exact ⟨ρ, O, B, o, st.mono s1, e1, q⟩
    | false =>
      rw [if_neg Bool.false_ne_true] at e1 ⊢
      exact ⟨ρ, O, B, o, st.mono s1, e1, q⟩

/-! ### return -/
def sRet (f : EF) : SF := fun ρ => (f ρ).map fun x => match x.2 with
  | .fr k => .rt x.1 k
  | .bo k => .rt x.1 k
  | .any => .rt x.1 0
theorem ds_ret {e : Expr} {f : EF} {pos} (h : DE X e f) : DS X (.Return (some e) pos) (sRet f) := (ps_ret h).weak fun D σ H ⟨ρ, O, B, o, st, e1, q⟩ => by
  unfold sRet at e1
  cases ef : f ρ with
  | none => rw [ef] at e1; cases e1
  | some x =>
    obtain ⟨d, fl⟩ := x
    rw [ef, Option.map_some] at e1
    refine ⟨ρ, O, T0, B, d, fl, st, ef, fun v H' s r => ?_⟩
    have hb : ∀ {S : Addr → Prop}, (∀ a, S a → H a = none) → ∀ a, S a → B a = none := fun f a z => st.base.free (f a z)
    cases fl with
    | any =>
      cases e1
      refine q v H' (fun _ => False) (st.base.trans s) (fun _ z => z.elim) ⟨?_, fun _ z => z⟩
      refine Rep.mono (fun b o e => ?_) d v r
      rw [Rst.at (fun z => z)]
      exact e
    | fr k =>
      cases e1
      obtain ⟨S, f, w⟩ := r
      exact q v H' S (st.base.trans s) (hb f) (w.mono (Rst.sub fun a z => .inr z) (fun _ _ _ e => e) fun a z => Rst.none z)
    | bo k =>
      cases e1
      obtain ⟨S, f, w⟩ := r
      refine q v H' S (st.base.trans s) (fun a z => ?_) (w.mono (Rst.sub fun a z => .inr (f a z)) (fun _ _ _ e => e) fun a z => Rst.none z)
      obtain ⟨i, z⟩ := f a z
      exact st.baseO i a z

/-! ### a slot is given a new content -/
def putO (O : Nat → Addr → Prop) (i : Nat) (S : Addr → Prop) : Nat → Addr → Prop := fun j a => (j = i ∧ S a) ∨ (j ≠ i ∧ O j a)
theorem putO_same {O : Nat → Addr → Prop} {i : Nat} {S : Addr → Prop} {a : Addr} : putO O i S i a ↔ S a := by
  unfold putO
  exact ⟨fun h => h.elim (·.2) fun h => absurd rfl h.1, fun h => .inl ⟨rfl, h⟩⟩
theorem putO_ne {O : Nat → Addr → Prop} {i j : Nat} {S : Addr → Prop} {a : Addr} (h : j ≠ i) : putO O i S j a ↔ O j a := by
  unfold putO
  exact ⟨fun q => q.elim (fun q => absurd q.1 h) (·.2), fun q => .inr ⟨h, q⟩⟩
theorem Un_put {O : Nat → Addr → Prop} {T : Addr → Prop} {i : Nat} {S : Addr → Prop} {a : Addr} (h : Un (putO O i S) T a) : Un O T a ∨ S a := by
  rcases h with h | ⟨j, h | h⟩
  · exact .inl (.inl h)
  · exact .inr h.2
  · exact .inl (.inr ⟨j, h.2⟩)
theorem Own.eqv {K : PySem.W.Frag} {R H : Hp} {k : Nat} {d : D} {v : V} {S S' : Addr → Prop} (h : ∀ a, S' a ↔ S a) (w : Own K R H k d v S) : Own K R H k d v S' := by
  have : S' = S := funext fun a => propext (h a)
  rw [this]
  exact w
/-- slot i takes a value whose own addresses are new -/
theorem Sta.put {K : PySem.W.Frag} {H H' : Hp} {σ : L2.St} {ρ : Env} {O : Nat → Addr → Prop} {T : Addr → Prop} {B : Hp} {i k : Nat} {d : D} {v : V} {S : Addr → Prop} (st : Sta K H σ ρ O T B) (s : Same H H') (hi : i < ρ.length) (f : ∀ a, S a → H a = none)
    (w : Own K (Rst H' (fun a => Un O T a ∨ S a)) H' k d v S) : Sta K H' (σ.set i (some v)) (ρ.set i (some (k, d))) (putO O i S) T B where
  len := by rw [List.length_set, List.length_set]; exact st.len
  slot := fun j k' d' e => by
    by_cases hj : j = i
    · subst hj
      rw [List.getElem?_set_self hi] at e
      cases e
      refine ⟨v, List.getElem?_set_self (by rw [st.len]; exact hi), ?_⟩
      refine (w.mono (Rst.sub fun a q => Un_put q) (fun _ _ _ e => e) fun a q => Rst.none (.inr ⟨j, putO_same.mpr q⟩)).eqv fun a => putO_same
    · rw [List.getElem?_set_ne (fun h => hj h.symm)] at e
      obtain ⟨u, e1, w1⟩ := st.slot j k' d' e
      refine ⟨u, by rw [List.getElem?_set_ne (fun h => hj h.symm)]; exact e1, ?_⟩
      refine (w1.mono (Rst.fresh s fun a o e2 q => ?_) (fun a o _ e2 => s _ _ e2) fun a q => Rst.none (.inr ⟨j, (putO_ne hj).mpr q⟩)).eqv fun a => putO_ne hj
      rcases Un_put q with q | q
      · exact q
      · rw [f a q] at e2; cases e2
  nil := fun j e a q => by
    by_cases hj : j = i
    · subst hj
      exact e k d (List.getElem?_set_self hi)
    · rw [putO_ne hj] at q
      refine st.nil j (fun k' d' e' => e k' d' ?_) a q
      rw [List.getElem?_set_ne (fun h => hj h.symm)]
      exact e'
  dis := fun j l a q q' => by
    by_cases hj : j = i
    · by_cases hl : l = i
      · rw [hj, hl]
      · rw [hj, putO_same] at q
        rw [putO_ne hl] at q'
        obtain ⟨o, e, _⟩ := st.allO q'
        rw [f a q] at e; cases e
    · by_cases hl : l = i
      · rw [hl, putO_same] at q'
        rw [putO_ne hj] at q
        obtain ⟨o, e, _⟩ := st.allO q
        rw [f a q'] at e; cases e
      · rw [putO_ne hj] at q
        rw [putO_ne hl] at q'
        exact st.dis j l a q q'
  disT := fun j a q z => by
    rcases q with q | q
    · obtain ⟨o, e, _⟩ := st.allT a z
      rw [f a q.2] at e; cases e
    · exact st.disT j a q.2 z
  allT := fun a q => by
    obtain ⟨o, e, f⟩ := st.allT a q
    exact ⟨o, s _ _ e, f⟩
  base := st.base.trans s
  baseO := fun j a q => by
    rcases q with q | q
    · exact st.base.free (f a q.2)
    · exact st.baseO j a q.2
theorem Sta.putS {K : PySem.W.Frag} {H H' : Hp} {σ : L2.St} {ρ : Env} {O : Nat → Addr → Prop} {T : Addr → Prop} {B : Hp} {i : Nat} {d : D} {v : V} (st : Sta K H σ ρ O T B) (s : Same H H') (hi : i < ρ.length)
    (w : Rep K (Rst H' (Un O T)) d v) : Sta K H' (σ.set i (some v)) (ρ.set i (some (0, d))) (putO O i fun _ => False) T B :=
  st.put s hi (fun _ q => q.elim) ⟨Rep.mono (Rst.sub fun a q => q.elim id False.elim) d v w, fun _ q => q⟩
/-- slot i is shared from here on -/
theorem Sta.release {K : PySem.W.Frag} {H : Hp} {σ : L2.St} {ρ : Env} {O : Nat → Addr → Prop} {T : Addr → Prop} {B : Hp} {i k : Nat} {d : D} (st : Sta K H σ ρ O T B) (e : ρ[i]? = some (some (k, d))) :
    Sta K H σ (ρ.set i (some (0, d))) (putO O i fun _ => False) T B := by
  have hi : i < ρ.length := (List.getElem?_eq_some_iff.mp e).1
  obtain ⟨v, ev, w⟩ := st.slot i k d e
  have sub : ∀ a, Un (putO O i fun _ => False) T a → Un O T a := fun a q => (Un_put q).elim id False.elim
  have r : Rep K (Rst H (Un (putO O i fun _ => False) T)) d v := w.rep (Rst.sub sub) fun a o q e => by
    rw [Rst.at]
    · exact e
    · rintro (z | ⟨j, z | z⟩)
      · exact st.disT i a q z
      · exact z.2
      · exact z.1 (st.dis j i a z.2 q)
  refine ⟨by rw [List.length_set]; exact st.len, fun j k' d' e' => ?_, fun j e' a q => ?_, fun j l a q q' => ?_, fun j a q z => ?_, st.allT, st.base, fun j a q => ?_⟩
  · by_cases hj : j = i
    · subst hj
      rw [List.getElem?_set_self hi] at e'
      cases e'
      exact ⟨v, ev, r, fun a q => putO_same.mp q⟩
    · rw [List.getElem?_set_ne (fun h => hj h.symm)] at e'
      obtain ⟨u, e1, w1⟩ := st.slot j k' d' e'
      refine ⟨u, e1, (w1.mono (Rst.sub sub) (fun a o _ e2 => e2) fun a q => Rst.none (.inr ⟨j, (putO_ne hj).mpr q⟩)).eqv fun a => putO_ne hj⟩
  · by_cases hj : j = i
    · subst hj
      exact putO_same.mp q
    · rw [putO_ne hj] at q
      refine st.nil j (fun k' d' e2 => e' k' d' ?_) a q
      rw [List.getElem?_set_ne (fun h => hj h.symm)]
      exact e2
  · rcases q with q | q
    · exact q.2.elim
    · rcases q' with q' | q'
      · exact q'.2.elim
      · exact st.dis j l a q.2 q'.2
  · rcases q with q | q
    · exact q.2.elim
    · exact st.disT j a q.2 z
  · rcases q with q | q
    · exact q.2.elim
    · exact st.baseO j a q.2
/-- what slot i owns is changed: the object at l -/
theorem Sta.mut {K : PySem.W.Frag} {H H1 : Hp} {σ : L2.St} {ρ : Env} {O : Nat → Addr → Prop} {T : Addr → Prop} {B : Hp} {i k k' : Nat} {d d' : D} {v : V} {l : Addr} {o' : HO} {S : Addr → Prop} (st : Sta K H σ ρ O T B) (s : Same H H1)
    (e : ρ[i]? = some (some (k, d))) (ev : σ[i]? = some (some v)) (hl : O i l) (hS : ∀ a, S a → O i a ∨ H a = none)
    (w : Own K (Rst (upd H1 l o') (Un (putO O i S) T)) (upd H1 l o') k' d' v S) : Sta K (upd H1 l o') σ (ρ.set i (some (k', d'))) (putO O i S) T B := by
  have hi : i < ρ.length := (List.getElem?_eq_some_iff.mp e).1
  have lne : ∀ a, (∀ j, j ≠ i → True) → (¬ O i a) → a ≠ l := fun a _ h z => h (by rw [z]; exact hl)
  have sm : ∀ a o, H a = some o → ¬ O i a → (upd H1 l o') a = some o := fun a o e1 n => by
    rw [upd_ne fun z => n (by rw [z]; exact hl)]
    exact s _ _ e1
  refine ⟨by rw [List.length_set]; exact st.len, fun j k2 d2 e' => ?_, fun j e' a q => ?_, fun j m a q q' => ?_, fun j a q z => ?_, fun a q => ?_, fun a o e1 => ?_, fun j a q => ?_⟩
  · by_cases hj : j = i
    · subst hj
      rw [List.getElem?_set_self hi] at e'
      cases e'
      exact ⟨v, ev, w.eqv fun a => putO_same⟩
    · rw [List.getElem?_set_ne (fun h => hj h.symm)] at e'
      obtain ⟨u, e1, w1⟩ := st.slot j k2 d2 e'
      refine ⟨u, e1, (w1.mono (fun a o e2 => ?_) (fun a o q e2 => sm a o e2 fun z => hj (st.dis j i a q z)) fun a q => Rst.none (.inr ⟨j, (putO_ne hj).mpr q⟩)).eqv fun a => putO_ne hj⟩
      obtain ⟨n, e3⟩ := Rst.some e2
      rw [Rst.at fun q => ?_]
      · exact sm a o e3 fun z => n (.inr ⟨i, z⟩)
      · rcases Un_put q with q | q
        · exact n q
        · rcases hS a q with q | q
          · exact n (.inr ⟨i, q⟩)
          · rw [q] at e3; cases e3
  · by_cases hj : j = i
    · subst hj
      exact e' k' d' (List.getElem?_set_self hi)
    · rw [putO_ne hj] at q
      refine st.nil j (fun k2 d2 e2 => e' k2 d2 ?_) a q
      rw [List.getElem?_set_ne (fun h => hj h.symm)]
      exact e2
  · by_cases hj : j = i
    · by_cases hm : m = i
      · rw [hj, hm]
      · rw [hj, putO_same] at q
        rw [putO_ne hm] at q'
        rcases hS a q with q | q
        · exact absurd (st.dis m i a q' q) hm
        · obtain ⟨o, e2, _⟩ := st.allO q'
          rw [q] at e2; cases e2
    · by_cases hm : m = i
      · rw [hm, putO_same] at q'
        rw [putO_ne hj] at q
        rcases hS a q' with q' | q'
        · exact absurd (st.dis j i a q q') hj
        · obtain ⟨o, e2, _⟩ := st.allO q
          rw [q'] at e2; cases e2
      · rw [putO_ne hj] at q
        rw [putO_ne hm] at q'
        exact st.dis j m a q q'
  · rcases q with q | q
    · rcases hS a q.2 with q | q
      · exact st.disT i a q z
      · obtain ⟨o, e2, _⟩ := st.allT a z
        rw [q] at e2; cases e2
    · exact st.disT j a q.2 z
  · obtain ⟨o, e2, f⟩ := st.allT a q
    exact ⟨o, sm a o e2 fun z => st.disT i a z q, f⟩
  · refine sm a o (st.base _ _ e1) fun z => ?_
    rw [st.baseO i a z] at e1
    cases e1
  · rcases q with q | q
    · rcases hS a q.2 with q | q
      · exact st.baseO i a q
      · exact st.base.free q
    · exact st.baseO j a q.2
end
end PF

set_option Elab.async false
set_option linter.all false
set_option maxRecDepth 100000
set_option maxHeartbeats 4000000
/-! PF7: assignments, targets, changes of lists that a slot owns. -/
namespace PF
open PySem PySem.Spec PyProof.Rows L2
section
variable {X : Cx}

/-! ### name = e -/
def sAsg (i : Nat) (f : EF) : SF := fun ρ => if i < ρ.length then (f ρ).bind fun x => match x.2 with
    | .fr k => some (.nx (ρ.set i (some (k, x.1))))
    | fl => if shr x.1 fl then some (.nx (ρ.set i (some (0, x.1)))) else none
  else none
theorem asg_fin {K : PySem.W.Frag} {f : EF} {E : Ends} {i : Nat} {σ : L2.St} {H : Hp} (h : tS K (sAsg i f) E σ H) : tAsg (tE K f) (gName i) E σ H := by
  obtain ⟨ρ, O, B, o, st, e1, q⟩ := h
  unfold sAsg at e1
  split at e1
  · rename_i hi
    cases ef : f ρ with
    | none => rw [ef] at e1; cases e1
    | some x =>
      obtain ⟨d, fl⟩ := x
      rw [ef, Option.bind_some] at e1
      refine ⟨ρ, O, T0, B, d, fl, st, ef, fun v H' s r => ?_⟩
      have shd : shr d fl = true → o = .nx (ρ.set i (some (0, d))) → E.nx (σ.set i (some v)) H' := fun h e => by
        subst e
        exact q _ _ _ (st.putS s hi (r.shared st s h))
      cases fl with
      | fr k =>
        cases e1
        obtain ⟨S, f, w⟩ := r
        exact q _ _ _ (st.put s hi f w)
      | bo k =>
        simp only at e1
        split at e1
        · exact shd (by assumption) (by cases e1; rfl)
        · cases e1
      | any =>
        simp only at e1
        split at e1
        · exact shd (by assumption) (by cases e1; rfl)
        · cases e1
  · cases e1
theorem ds_set {i : Nat} {x : Str} {e : Expr} {f : EF} {pos' pos : Pos} (hN : X.N.Nodup) (hi : X.N[i]? = some x) (hx : Loc X.env.scope x) (he : DE X e f) (hs : swapsWith e (some (.Name x pos')) pos.line X.env = pure false := by rfl)
    (hf : X.fn x = true ∨ X.env.scope.names.lookup x = some .local := by first | exact .inl rfl | exact .inr rfl | assumption) : DS X (.Assign [.Name x pos'] e pos) (sAsg i f) :=
  (ps_set hN hi hx he hs hf).weak fun D σ H h => asg_fin h
/-- name = name, of what may be owned: shared from here on -/
def sAsgV (i j : Nat) : SF := fun ρ => if i < ρ.length then match ρ[j]? with
    | some (some (k, d)) => some (.nx ((ρ.set j (some (0, d))).set i (some (0, d))))
    | _ => none
  else none
theorem ds_setV {i j : Nat} {x : Str} {e : Expr} {pos' pos : Pos} (hN : X.N.Nodup) (hi : X.N[i]? = some x) (hx : Loc X.env.scope x) (he : PE X e (tVar j)) (hs : swapsWith e (some (.Name x pos')) pos.line X.env = pure false := by rfl)
    (hf : X.fn x = true ∨ X.env.scope.names.lookup x = some .local := by first | exact .inl rfl | exact .inr rfl | assumption) : DS X (.Assign [.Name x pos'] e pos) (sAsgV i j) :=
  (ps_set hN hi hx he hs hf).weak fun D σ H ⟨ρ, O, B, o, st, e1, q⟩ => by
    unfold sAsgV at e1
    split at e1
    · rename_i hi
      split at e1
      · rename_i k d ej
        cases e1
        have st' := st.release ej
        obtain ⟨v, ev, w⟩ := st'.slot j 0 d (List.getElem?_set_self (List.getElem?_eq_some_iff.mp ej).1)
        exact ⟨v, ev, q _ _ _ (st'.putS (Same.refl H) (by rw [List.length_set]; exact hi) w.1)⟩
      · cases e1
    · cases e1

/-! ### targets -/
abbrev GF := D → Env → Option Env
def tG (K : PySem.W.Frag) (g : GF) (is : List Nat) : TG := fun v σ H Q => ∃ ρ O T B d ρ', Sta K H σ ρ O T B ∧ Rep K (Rst H (Un O T)) d v ∧ g d ρ = some ρ' ∧
  ∀ σ' O', Sta K H σ' ρ' O' T B → (σ'.length = σ.length ∧ ∀ j, j ∉ is → σ'[j]? = σ[j]?) → (∀ j a, O' j a ↔ (j ∉ is ∧ O j a)) → Q σ' H
def tGs (K : PySem.W.Frag) (g : List D → Env → Option Env) (is : List Nat) : TGs := fun vs σ H Q => ∃ ρ O T B ds ρ', Sta K H σ ρ O T B ∧ RepL K (Rst H (Un O T)) ds vs ∧ g ds ρ = some ρ' ∧
  ∀ σ' O', Sta K H σ' ρ' O' T B → (σ'.length = σ.length ∧ ∀ j, j ∉ is → σ'[j]? = σ[j]?) → (∀ j a, O' j a ↔ (j ∉ is ∧ O j a)) → Q σ' H
def DG (X : Cx) (tg : Expr) (g : GF) (is : List Nat) : Prop := PG X tg (tG X.K g is)
def DGs (X : Cx) (tg : List Expr) (g : List D → Env → Option Env) (is : List Nat) : Prop := PGs X tg (tGs X.K g is)
theorem _root_.L2.PG.weak {e : Expr} {t t' : TG} (h : PG X e t) (w : ∀ v σ H Q, t' v σ H Q → t v σ H Q) : PG X e t' := ⟨fun pins s σ H v u Q I r q => h.run pins s σ H v u Q I r (w _ _ _ _ q)⟩
theorem _root_.L2.PGs.weak {e : List Expr} {t t' : TGs} (h : PGs X e t) (w : ∀ v σ H Q, t' v σ H Q → t v σ H Q) : PGs X e t' := ⟨fun pins s σ H v u Q I r q => h.run pins s σ H v u Q I r (w _ _ _ _ q)⟩
def gNm (i : Nat) : GF := fun d ρ => if i < ρ.length then some (ρ.set i (some (0, d))) else none
theorem dg_name {i : Nat} {x : Str} {pos : Pos} (hN : X.N.Nodup) (hi : X.N[i]? = some x) (hx : Loc X.env.scope x) (hf : X.fn x = true ∨ X.env.scope.names.lookup x = some .local := by first | exact .inl rfl | exact .inr rfl | assumption) : DG X (.Name x pos) (gNm i) [i] :=
  (pg_name hN hi hx hf).weak fun v σ H Q ⟨ρ, O, T, B, d, ρ', st, r, e1, q⟩ => by
    unfold gNm at e1
    split at e1
    · cases e1
      refine q _ _ (st.putS (Same.refl H) (by assumption) r) ⟨List.length_set, fun j hj => ?_⟩ fun j a => ?_
      · rw [List.getElem?_set_ne]
        intro h
        exact hj (by rw [h]; exact List.mem_singleton_self j)
      · unfold putO
        simp
    · cases e1
def gsNil : List D → Env → Option Env := fun ds ρ => match ds with
  | [] => some ρ
  | _ => none
def gsCons (g : GF) (h : List D → Env → Option Env) : List D → Env → Option Env := fun ds ρ => match ds with
  | d :: ds => (g d ρ).bind fun ρ' => h ds ρ'
  | [] => none
theorem dgs_nil : DGs X [] gsNil [] := pgs_nil.weak fun vs σ H Q ⟨ρ, O, T, B, ds, ρ', st, r, e1, q⟩ => by
  unfold gsNil at e1
  split at e1
  · cases e1
    exact ⟨r.nil_inv, q _ _ st ⟨rfl, fun _ _ => rfl⟩ fun j a => by simp⟩
  · cases e1
theorem dgs_cons {e : Expr} {es : List Expr} {g : GF} {h : List D → Env → Option Env} {is js : List Nat} (h1 : DG X e g is) (h2 : DGs X es h js)
    (hs : (assignEach (e :: es) X.env).map (·.2) = assign e X.env :: (assignEach es X.env).map (·.2) := by rfl) : DGs X (e :: es) (gsCons g h) (is ++ js) :=
  (pgs_cons h1 h2 hs).weak fun vs σ H Q ⟨ρ, O, T, B, ds, ρ', st, r, e1, q⟩ => by
    unfold gsCons at e1
    split at e1
    · rename_i d ds
      obtain ⟨v, vr, rfl, r1, r2⟩ := r.cons_inv
      cases eg : g d ρ with
      | none => rw [eg] at e1; cases e1
      | some ρ1 =>
        rw [eg, Option.bind_some] at e1
        refine ⟨v, vr, rfl, ρ, O, T, B, d, ρ1, st, r1, eg, fun σ1 O1 st1 k1 l1 => ⟨ρ1, O1, T, B, ds, ρ', st1, RepL.mono (Rst.sub fun a z => ?_) _ _ r2, e1, fun σ2 O2 st2 k2 l2 => q σ2 O2 st2 ⟨k2.1.trans k1.1, fun j hj => ?_⟩ fun j a => ?_⟩⟩
        · rcases z with z | ⟨j, z⟩
          · exact .inl z
          · exact .inr ⟨j, ((l1 j a).mp z).2⟩
        · rw [List.mem_append] at hj
          rw [k2.2 j fun z => hj (.inr z), k1.2 j fun z => hj (.inl z)]
        · rw [l2, l1, List.mem_append]
          exact ⟨fun ⟨a1, a2, a3⟩ => ⟨fun z => z.elim a2 a1, a3⟩, fun ⟨a1, a2⟩ => ⟨fun z => a1 (.inr z), fun z => a1 (.inl z), a2⟩⟩
    · cases e1
def gTp (n : Nat) (h : List D → Env → Option Env) : GF := fun d ρ => match d with
  | .tup ds => if ds.length = n then h ds ρ else none
  | .wtp ds => if ds.length = n then h ds ρ else none
  | _ => none
theorem rep_wtp {K : PySem.W.Frag} {H : Hp} {ds : List D} {v : V} (r : Rep K H (.wtp ds) v) : ∃ a vs, v = .ref a ∧ SqT K H a vs ∧ RepL K H ds vs := by unfold Rep at r; exact r
theorem dg_tup {es : List Expr} {k n : Nat} {pos : Pos} {g : List D → Env → Option Env} {is : List Nat} (hc : X.calm = true) (h : DGs X es g is) (hn : (assignEach es X.env).length = n := by rfl) (hst : (assignEach es X.env).findIdx? (·.1) = none := by rfl) :
    DG X (.Tuple es k pos) (gTp n g) is := (pg_tup hc h hn hst).weak fun v σ H Q ⟨ρ, O, T, B, d, ρ', st, r, e1, q⟩ => by
  unfold gTp at e1
  split at e1
  · split at e1
    · rename_i hl
      obtain ⟨a, vs, rfl, r1, r2⟩ := rep_tup r
      exact ⟨a, vs, rfl, SqT.mono Rst.same r1, by rw [r2.length]; exact hl, ρ, O, T, B, _, ρ', st, r2, e1, q⟩
    · cases e1
  · split at e1
    · rename_i hl
      obtain ⟨a, vs, rfl, r1, r2⟩ := rep_wtp r
      exact ⟨a, vs, rfl, SqT.mono Rst.same r1, by rw [r2.length]; exact hl, ρ, O, T, B, _, ρ', st, r2, e1, q⟩
    · cases e1
  · cases e1
/-- target = e, a tuple of names -/
def sAsgT (g : GF) (f : EF) : SF := fun ρ => (f ρ).bind fun x => if shr x.1 x.2 then (g x.1 ρ).map .nx else none
theorem ds_asgT {tg e : Expr} {f : EF} {g : GF} {is : List Nat} {pos : Pos} (he : DE X e f) (hg : DG X tg g is) (hs : swapsWithSole [tg] e pos.line X.env = pure false := by rfl) (hw : swappedStores [tg] e X.env = pure none := by rfl)
    (h1 : (assignEach [tg] X.env).map (·.2) = [assign tg X.env] := by rfl) : DS X (.Assign [tg] e pos) (sAsgT g f) := (ps_asg he hg hs hw h1).weak fun D σ H ⟨ρ, O, B, o, st, e1, q⟩ => by
  unfold sAsgT at e1
  cases ef : f ρ with
  | none => rw [ef] at e1; cases e1
  | some x =>
    obtain ⟨d, fl⟩ := x
    rw [ef, Option.bind_some] at e1
    split at e1
    · rename_i hsh
      cases eg : g d ρ with
      | none => simp only [eg] at e1; cases e1
      | some ρ' =>
        simp only [eg, Option.map_some] at e1
        cases e1
        exact ⟨ρ, O, T0, B, d, fl, st, ef, fun v H' s r => ⟨ρ, O, T0, B, d, ρ', st.mono s, r.shared st s hsh, eg, fun σ' O' st' _ _ => q σ' H' O' st'⟩⟩
    · cases e1
/-- x, y = a, b by the compiler's own exchange -/
def sPar (i j : Nat) (g : AF) : SF := fun ρ => if i < ρ.length ∧ j < ρ.length then (g ρ).bind fun y => match y with
    | ([d, e], true) => some (.nx ((ρ.set i (some (0, d))).set j (some (0, e))))
    | _ => none
  else none
theorem ds_par {i j : Nat} {x y : Str} {a b : Expr} {g : AF} {px py pt pos : Pos} {kt k2 pt2} (hc : X.calm = true) (hN : X.N.Nodup) (hi : X.N[i]? = some x) (hj : X.N[j]? = some y) (hij : i ≠ j)
    (hx : X.env.scope.names.lookup x = some .local) (hy : X.env.scope.names.lookup y = some .local) (ha : DA X [a, b] g)
    (hw : swappedStores [.Tuple [.Name x px, .Name y py] kt pt] (.Tuple [a, b] k2 pt2) X.env = pure (some [x, y]))
    (hs : swapsWithSole [.Tuple [.Name x px, .Name y py] kt pt] (.Tuple [a, b] k2 pt2) pos.line X.env = pure false := by rfl) :
    DS X (.Assign [.Tuple [.Name x px, .Name y py] kt pt] (.Tuple [a, b] k2 pt2) pos) (sPar i j g) := (ps_par hc hN hi hj hij hx hy ha hw hs).weak fun D σ H ⟨ρ, O, B, o, st, e1, q⟩ => by
  unfold sPar at e1
  split at e1
  · rename_i hl
    cases eg : g ρ with
    | none => rw [eg] at e1; cases e1
    | some y =>
      rw [eg, Option.bind_some] at e1
      split at e1
      · rename_i d e
        cases e1
        refine ⟨ρ, O, T0, B, [d, e], true, st, eg, fun vs H' s r => ?_⟩
        obtain ⟨v, vr, rfl, r1, r2⟩ := (r.2 rfl).cons_inv
        obtain ⟨u, ur, rfl, r3, r4⟩ := r2.cons_inv
        have := r4.nil_inv
        subst this
        have st1 := st.putS s hl.1 r1
        refine ⟨v, u, rfl, q _ _ _ (st1.putS (Same.refl H') (by rw [List.length_set]; exact hl.2) (Rep.mono (Rst.sub fun a z => (Un_put z).elim id False.elim) _ _ r3))⟩
      · cases e1
  · cases e1

/-! ### name op= e, of ints -/
def sAugI (i : Nat) (o : DF → DF → Option DF) (f : EF) : SF := sAsg i (eOp o (eVar i) f)
theorem ds_aug {i : Nat} {x : Str} {e : Expr} {f : EF} {op : Operator} {r : R2} {o : DF → DF → Option DF} {pos' pos : Pos} (hop : OpG X.K r o) (hN : X.N.Nodup) (hi : X.N[i]? = some x) (hx : Loc X.env.scope x) (he : DE X e f) (ho : OpR X (inplaceOp op) r)
    (hf : X.fn x = true ∨ X.env.scope.names.lookup x = some .local := by first | exact .inl rfl | exact .inr rfl | assumption) : DS X (.AugAssign (.Name x pos') op e pos) (sAugI i o f) :=
  (ps_aug hN hi hx he ho hf).weak fun D σ H h => by
    have h2 := asg_fin h
    have h3 := tOp_of hop h2
    obtain ⟨ρ, O, T, B, d, fl, st, e1, q⟩ := h3
    unfold eVar at e1
    split at e1
    · rename_i k d' e2
      cases e1
      obtain ⟨v, e3, w⟩ := st.slot i _ _ e2
      exact ⟨v, e3, q v H (Same.refl H) ⟨O i, fun a q => ⟨i, q⟩, w⟩⟩
    · cases e1

/-! ### xs.append(e), xs[i] = e, xs.insert(i, e), xs.pop() of an owned list -/
theorem OwnL.append {P : D → V → (Addr → Prop) → Prop} : ∀ {ds : List D} {vs : List V} {S S2 : Addr → Prop} {d : D} {v : V}, OwnL P ds vs S → P d v S2 → (∀ a, S a → ¬ S2 a) → OwnL P (ds ++ [d]) (vs ++ [v]) (fun a => S a ∨ S2 a)
  | [], vs, S, S2, d, v, h, h2, dj => by
    obtain ⟨rfl, n⟩ := h
    exact ⟨v, [], S2, fun _ => False, rfl, h2, ⟨rfl, fun _ q => q⟩, fun a => ⟨fun q => q.elim (fun q => (n a q).elim) .inl, fun q => q.elim .inr False.elim⟩, fun _ _ q => q⟩
  | x :: ds, vs, S, S2, d, v, h, h2, dj => by
    obtain ⟨v0, vr, Sa, Sb, rfl, h1, h3, h4, h5⟩ := h
    refine ⟨v0, vr ++ [v], Sa, fun a => Sb a ∨ S2 a, rfl, h1, OwnL.append h3 h2 fun a q => dj a ((h4 a).mpr (.inr q)), fun a => ?_, fun a q z => ?_⟩
    · show (S a ∨ S2 a) ↔ Sa a ∨ (Sb a ∨ S2 a)
      rw [h4]
      exact ⟨fun q => q.elim (fun q => q.elim .inl fun q => .inr (.inl q)) fun q => .inr (.inr q), fun q => q.elim (fun q => .inl (.inl q)) fun q => q.elim (fun q => .inl (.inr q)) .inr⟩
    · rcases z with z | z
      · exact h5 a q z
      · exact dj a ((h4 a).mpr (.inl q)) z
/-- items of depth 0 -/
theorem OwnL.zero {K : PySem.W.Frag} {R H : Hp} : ∀ {ds : List D} {vs : List V} {S : Addr → Prop}, OwnL (Own K R H 0) ds vs S ↔ RepL K R ds vs ∧ ∀ a, ¬ S a
  | [], vs, S => ⟨fun h => ⟨by rw [h.1]; exact RepL.nil, h.2⟩, fun h => ⟨h.1.nil_inv, h.2⟩⟩
  | d :: ds, vs, S => by
    constructor
    · rintro ⟨v, vr, S1, S2, rfl, h1, h2, h3, h4⟩
      have h5 := OwnL.zero.mp h2
      refine ⟨RepL.cons h1.1 h5.1, fun a q => ?_⟩
      rcases (h3 a).mp q with q | q
      · exact h1.2 a q
      · exact h5.2 a q
    · rintro ⟨h1, h2⟩
      obtain ⟨v, vr, rfl, r1, r2⟩ := h1.cons_inv
      exact ⟨v, vr, fun _ => False, fun _ => False, rfl, ⟨r1, fun _ q => q⟩, OwnL.zero.mpr ⟨r2, fun _ q => q⟩, fun a => ⟨fun q => (h2 a q).elim, fun q => q.elim False.elim False.elim⟩, fun _ q => q.elim⟩
/-- a list of depth 1: its own address alone -/
theorem Own.one {K : PySem.W.Frag} {R H : Hp} {ds : List D} {v : V} {S : Addr → Prop} : Own K R H 1 (.lst ds) v S ↔ ∃ a vs, v = .ref a ∧ (∀ b, S b ↔ b = a) ∧ R a = none ∧ H a = some (.lst vs) ∧ RepL K R ds vs := by
  constructor
  · rintro ⟨a, S', rfl, na, hs, ra, h⟩
    rcases h with ⟨ds', vs, e1, e2, e3⟩ | ⟨kvs, ks, e1, _⟩ | ⟨kvs, ks, e1, _⟩
    · cases e1
      obtain ⟨r, n⟩ := OwnL.zero.mp e3
      exact ⟨a, vs, rfl, fun b => ⟨fun q => ((hs b).mp q).elim id fun q => (n b q).elim, fun q => (hs b).mpr (.inl q)⟩, ra, e2, r⟩
    · cases e1
    · cases e1
  · rintro ⟨a, vs, rfl, hs, ra, e2, r⟩
    exact ⟨a, fun _ => False, rfl, fun q => q, fun b => by rw [hs]; exact ⟨.inl, fun q => q.elim id False.elim⟩, ra, .inl ⟨ds, vs, rfl, e2, OwnL.zero.mpr ⟨r, fun _ q => q⟩⟩⟩
/-- the owned list in slot i, its object -/
theorem Sta.list {K : PySem.W.Frag} {H : Hp} {σ : L2.St} {ρ : Env} {O : Nat → Addr → Prop} {T : Addr → Prop} {B : Hp} {i k : Nat} {ds : List D} (st : Sta K H σ ρ O T B) (e : ρ[i]? = some (some (k + 1, .lst ds))) :
    ∃ a vs S', σ[i]? = some (some (.ref a)) ∧ H a = some (.lst vs) ∧ O i a ∧ ¬ S' a ∧ (∀ b, O i b ↔ b = a ∨ S' b) ∧ OwnL (Own K (Rst H (Un O T)) H k) ds vs S' := by
  obtain ⟨v, ev, a, S', rfl, na, hs, ra, h⟩ := st.slot i _ _ e
  rcases h with ⟨ds', vs, e1, e2, e3⟩ | ⟨kvs, ks, e1, _⟩ | ⟨kvs, ks, e1, _⟩
  · cases e1
    exact ⟨a, vs, S', ev, e2, (hs a).mpr (.inl rfl), na, hs, e3⟩
  · cases e1
  · cases e1
theorem OwnL.repL' {K : PySem.W.Frag} {R H : Hp} {k : Nat} {ds : List D} {vs : List V} {S : Addr → Prop} (h : OwnL (Own K R H k) ds vs S) (s : Same R H) : RepL K H ds vs := OwnL.repL (fun d' v' S'' q h' => Own.rep s (fun b o m e => e) h') h
/-- a changed list of depth k + 1 in slot i: its items anew -/
theorem Sta.relist {K : PySem.W.Frag} {H H1 : Hp} {σ : L2.St} {ρ : Env} {O : Nat → Addr → Prop} {T : Addr → Prop} {B : Hp} {i k k' : Nat} {ds ds' : List D} {a : Addr} {vs' : List V} {S2 : Addr → Prop} (st : Sta K H σ ρ O T B) (s : Same H H1)
    (e : ρ[i]? = some (some (k + 1, .lst ds))) (ev : σ[i]? = some (some (.ref a))) (oa : O i a) (na : ¬ S2 a) (hS : ∀ b, S2 b → O i b ∨ H b = none)
    (w : OwnL (Own K (Rst (upd H1 a (.lst vs')) (Un (putO O i fun b => b = a ∨ S2 b) T)) (upd H1 a (.lst vs')) k') ds' vs' S2) : Sta K (upd H1 a (.lst vs')) σ (ρ.set i (some (k' + 1, .lst ds'))) (putO O i fun b => b = a ∨ S2 b) T B :=
  st.mut s e ev oa (fun b q => q.elim (fun z => .inl (by rw [z]; exact oa)) (hS b)) ⟨a, S2, rfl, na, fun b => Iff.rfl, Rst.none (.inr ⟨i, putO_same.mpr (.inl rfl)⟩), .inl ⟨ds', vs', rfl, upd_same, w⟩⟩
/-- the shared part behind the change -/
theorem Sta.resh {K : PySem.W.Frag} {H H1 : Hp} {σ : L2.St} {ρ : Env} {O : Nat → Addr → Prop} {T : Addr → Prop} {B : Hp} {i : Nat} {a : Addr} {o : HO} {S2 : Addr → Prop} (st : Sta K H σ ρ O T B) (s : Same H H1) (oa : O i a) (hS : ∀ b, S2 b → O i b ∨ H b = none) :
    Same (Rst H (Un O T)) (Rst (upd H1 a o) (Un (putO O i fun b => b = a ∨ S2 b) T)) := fun b o e => by
  obtain ⟨n, e2⟩ := Rst.some e
  rw [Rst.at fun q => ?_]
  · rw [upd_ne fun z => n (by rw [z]; exact .inr ⟨i, oa⟩)]
    exact s _ _ e2
  · rcases Un_put q with q | q | q
    · exact n q
    · exact n (by rw [q]; exact .inr ⟨i, oa⟩)
    · rcases hS b q with q | q
      · exact n (.inr ⟨i, q⟩)
      · rw [q] at e2; cases e2
def sAppend (i : Nat) (f : EF) : SF := fun ρ => (f ρ).bind fun x => match ρ[i]? with
  | some (some (k + 1, .lst ds)) => if ds.length < sizeLine then
      match x.2 with
      | .fr (m + 1) => if ds.isEmpty || k == m + 1 then some (.nx (ρ.set i (some (m + 2, .lst (ds ++ [x.1]))))) else if k = 0 then some (.nx (ρ.set i (some (1, .lst (ds ++ [x.1]))))) else none
      | fl => if k = 0 ∧ shr x.1 fl = true then some (.nx (ρ.set i (some (1, .lst (ds ++ [x.1]))))) else none
      else none
  | _ => none
theorem OwnL.carry {K : PySem.W.Frag} {R R' H H' : Hp} {k : Nat} {ds : List D} {vs : List V} {S : Addr → Prop} (w : OwnL (Own K R H k) ds vs S) (s : Same R R') (e : ∀ b o, S b → H b = some o → H' b = some o) (z : ∀ b, S b → R' b = none) : OwnL (Own K R' H' k) ds vs S :=
  OwnL.imp (fun d' v' S'' q _ h' => h'.mono s (fun b o m => e b o (q b m)) fun b m => z b (q b m)) w
theorem sAppend_of {K : PySem.W.Frag} {f : EF} {E : Ends} {i : Nat} {σ : L2.St} {H : Hp} (h : tS K (sAppend i f) E σ H) : tBM K "list" rAppend (tVar i) (tCons (tE K f) tNil) σ H fun _ H1 => E.nx σ H1 := by
  obtain ⟨ρ, O, B, o, st, e1, q⟩ := h
  unfold sAppend at e1
  cases ef : f ρ with
  | none => rw [ef] at e1; cases e1
  | some x =>
    obtain ⟨d, fl⟩ := x
    rw [ef, Option.bind_some] at e1
    simp only at e1
    split at e1
    · rename_i k ds ei
      split at e1
      · rename_i hlen
        obtain ⟨a, vs, S', ev, ha, oa, na, hs, w⟩ := st.list ei
        have hl : vs.length = ds.length := (w.repL' Rst.same).length
        refine ⟨.ref a, ev, .inl ⟨rfl, vs, SqL.of ha⟩, ρ, O, T0, B, d, fl, st, ef, fun v H1 s r => ⟨a, vs, v, rfl, rfl, s _ _ ha, by rw [hl]; exact hlen, ?_⟩⟩
        have hS' : ∀ b, S' b → O i b ∨ H b = none := fun b z => .inl ((hs b).mpr (.inr z))
        have shd : k = 0 → shr d fl = true → E.nx σ (upd H1 a (.lst (vs ++ [v]))) ∨ o ≠ .nx (ρ.set i (some (1, .lst (ds ++ [d])))) := fun hk hsh => by
          by_cases ho : o = .nx (ρ.set i (some (1, .lst (ds ++ [d]))))
          · subst hk ho
            left
            have rs := st.resh (o := .lst (vs ++ [v])) s oa hS'
            obtain ⟨w1, w2⟩ := OwnL.zero.mp w
            refine q _ _ _ (st.relist s ei ev oa na hS' (OwnL.zero.mpr ⟨RepL.append (RepL.mono rs _ _ w1) (RepL.cons (Rep.mono ?_ _ _ (r.shared st s hsh)) RepL.nil), w2⟩))
            have := Sta.resh (o := .lst (vs ++ [v])) (st.mono s) (Same.refl H1) oa (S2 := S') (fun b z => (w2 b z).elim)
            exact this
          · exact .inr ho
        have deep : ∀ m, fl = .fr (m + 1) → (ds.isEmpty || k == m + 1) = true → o = .nx (ρ.set i (some (m + 2, .lst (ds ++ [d])))) → E.nx σ (upd H1 a (.lst (vs ++ [v]))) := fun m hf hk ho => by
          subst hf ho
          obtain ⟨Sx, fx, wx⟩ := r
          have hS2 : ∀ b, (S' b ∨ Sx b) → O i b ∨ H b = none := fun b z => z.elim (hS' b) fun z => .inr (fx b z)
          have nx : ¬ Sx a := fun z => by
            rw [fx a z] at ha
            cases ha
          have rs := st.resh (o := .lst (vs ++ [v])) s oa hS2
          refine q _ _ _ (st.relist (k' := m + 1) s ei ev oa (S2 := fun b => S' b ∨ Sx b) (fun z => z.elim na nx) hS2 (OwnL.append ?_ ?_ fun b z1 z2 => ?_))
          · rw [Bool.or_eq_true] at hk
            rcases hk with hk | hk
            · have hd : ds = [] := by simpa using hk
              subst hd
              exact w
            · have hk : k = m + 1 := by simpa using hk
              subst hk
              refine w.carry rs (fun b o z e => ?_) fun b z => Rst.none (.inr ⟨i, putO_same.mpr (.inr (.inl z))⟩)
              rw [upd_ne fun y => na (by rw [← y]; exact z)]
              exact s _ _ e
          · refine wx.mono (fun b o e => ?_) (fun b o z e => ?_) fun b z => Rst.none (.inr ⟨i, putO_same.mpr (.inr (.inr z))⟩)
            · obtain ⟨n, e2⟩ := Rst.some e
              rw [Rst.at fun y => ?_]
              · rw [upd_ne fun y => n (.inl (by rw [y]; exact .inr ⟨i, oa⟩))]
                exact e2
              · rcases Un_put y with y | y | y | y
                · exact n (.inl y)
                · exact n (.inl (by rw [y]; exact .inr ⟨i, oa⟩))
                · exact n (.inl (.inr ⟨i, (hs b).mpr (.inr y)⟩))
                · exact n (.inr y)
            · rw [upd_ne fun y => nx (by rw [← y]; exact z)]
              exact e
          · obtain ⟨o2, e2, _⟩ := st.allO ((hs b).mpr (.inr z1))
            rw [fx b z2] at e2
            cases e2
        split at e1
        · rename_i m
          split at e1
          · exact deep m rfl (by assumption) (by cases e1; rfl)
          · split at e1
            · exact (shd (by assumption) rfl).elim id fun n => absurd (by cases e1; rfl) n
            · cases e1
        · split at e1
          · rename_i hc
            exact (shd hc.1 hc.2).elim id fun n => absurd (by cases e1; rfl) n
          · cases e1
      · cases e1
    · cases e1
end
section
variable {X : Cx}
/-- h: pe_bm PySem.F.plainAttrs_list PySem.F.slot_list_append PySem.F.type_list_append mt_append (pv i) (pa_cons HE pa_nil) -/
theorem ds_append {i : Nat} {c : Expr} {f : EF} {pos : Pos} (h : PE X c (tBM X.K "list" rAppend (tVar i) (tCons (tE X.K f) tNil))) (hs : swapsWith c none pos.line X.env = pure false := by rfl) :
    DS X (.Expr c pos) (sAppend i f) := (ps_expr h hs).weak fun D σ H h => sAppend_of h

/-! ### xs[i] = e at depth 1 -/
def sSetI (i : Nat) (fi f : EF) : SF := fun ρ => (f ρ).bind fun x => (fi ρ).bind fun y => match ρ[i]?, y.1 with
  | some (some (1, .lst ds)), .int z => match ixN ds.length z with
    | some j => if shr x.1 x.2 then some (.nx (ρ.set i (some (1, .lst (ds.set j x.1))))) else none
    | none => none
  | _, _ => none
theorem ds_setI {i : Nat} {tg e : Expr} {fi f : EF} {pos : Pos} (h : PS X (.Assign [tg] e pos) (tAsg (tE X.K f) (gSub (tVar i) (tE X.K fi) rSetL))) : DS X (.Assign [tg] e pos) (sSetI i fi f) := h.weak fun E σ H ⟨ρ, O, B, o, st, e1, q⟩ => by
  unfold sSetI at e1
  cases ef : f ρ with
  | none => rw [ef] at e1; cases e1
  | some x =>
    obtain ⟨d, fl⟩ := x
    cases eg : fi ρ with
    | none => rw [ef, Option.bind_some, eg] at e1; cases e1
    | some y =>
      obtain ⟨dy, fy⟩ := y
      rw [ef, Option.bind_some, eg, Option.bind_some] at e1
      simp only at e1
      split at e1
      · rename_i ds z ei
        split at e1
        · rename_i j hj
          split at e1
          · rename_i hsh
            cases e1
            obtain ⟨a, vs, S', ev, ha, oa, na, hs, w⟩ := st.list ei
            obtain ⟨w1, w2⟩ := OwnL.zero.mp w
            have hl : vs.length = ds.length := w1.length
            refine ⟨ρ, O, T0, B, d, fl, st, ef, fun v H1 s1 r1 => ⟨.ref a, ev, ρ, O, T0, B, _, fy, st.mono s1, eg, fun u H2 s2 r2 => ⟨a, vs, z, j, rfl, rep_int r2.rep, s2 _ _ (s1 _ _ ha), by rw [hl]; exact hj, ?_⟩⟩⟩
            have hS : ∀ b, S' b → O i b ∨ H b = none := fun b z => (w2 b z).elim
            have s := s1.trans s2
            have rs := Sta.resh (o := .lst (vs.set j v)) st s oa hS
            have rs2 := Sta.resh (o := .lst (vs.set j v)) (st.mono s) (Same.refl H2) oa (S2 := S') (fun b z => (w2 b z).elim)
            exact q _ _ _ (st.relist s ei ev oa na hS (OwnL.zero.mpr ⟨RepL.set (Rep.mono rs2 _ _ (Rep.mono (Rst.mono s2) _ _ (r1.shared st s1 hsh))) j (RepL.mono rs _ _ w1), w2⟩))
          · cases e1
        · cases e1
      · cases e1

/-! ### xs.insert(i, e), xs.pop() at depth 1, as statements -/
def sInsert (i : Nat) (fi f : EF) : SF := fun ρ => (fi ρ).bind fun y => (f ρ).bind fun x => match ρ[i]?, y.1 with
  | some (some (1, .lst ds)), .int z => if ds.length < sizeLine ∧ 0 ≤ z ∧ z < 2 ^ 63 ∧ shr x.1 x.2 = true then some (.nx (ρ.set i (some (1, .lst (ds.take z.toNat ++ [x.1] ++ ds.drop z.toNat))))) else none
  | _, _ => none
def rInsert : V → List V → Hp → VK → Prop := fun x vs H Q => ∃ (l : Addr) (xs : List V) (i : Int) (y : V), x = .ref l ∧ vs = [.int i, y] ∧ H l = some (.lst xs) ∧ xs.length < sizeLine ∧ 0 ≤ i ∧ i < 2 ^ 63 ∧ Q .non (upd H l (.lst (xs.take i.toNat ++ [y] ++ xs.drop i.toNat)))
theorem ds_insert {i : Nat} {c : Expr} {fi f : EF} {pos : Pos} (h : PE X c (tBM X.K "list" rInsert (tVar i) (tCons (tE X.K fi) (tCons (tE X.K f) tNil)))) (hs : swapsWith c none pos.line X.env = pure false := by rfl) :
    DS X (.Expr c pos) (sInsert i fi f) := (ps_expr h hs).weak fun E σ H ⟨ρ, O, B, o, st, e1, q⟩ => by
  unfold sInsert at e1
  cases eg : fi ρ with
  | none => rw [eg] at e1; cases e1
  | some y =>
    obtain ⟨dy, fy⟩ := y
    cases ef : f ρ with
    | none => rw [eg, Option.bind_some, ef] at e1; cases e1
    | some x =>
      obtain ⟨d, fl⟩ := x
      rw [eg, Option.bind_some, ef, Option.bind_some] at e1
      simp only at e1
      split at e1
      · rename_i ds z ei
        split at e1
        · rename_i hc
          cases e1
          obtain ⟨a, vs, S', ev, ha, oa, na, hs, w⟩ := st.list ei
          obtain ⟨w1, w2⟩ := OwnL.zero.mp w
          have hl : vs.length = ds.length := w1.length
          refine ⟨.ref a, ev, .inl ⟨rfl, vs, SqL.of ha⟩, ρ, O, T0, B, _, fy, st, eg, fun u H1 s1 r1 => ⟨ρ, O, T0, B, d, fl, st.mono s1, ef, fun v H2 s2 r2 => ⟨a, vs, z, v, rfl, by rw [rep_int r1.rep], s2 _ _ (s1 _ _ ha), by rw [hl]; exact hc.1, hc.2.1, hc.2.2.1, ?_⟩⟩⟩
          have hS : ∀ b, S' b → O i b ∨ H b = none := fun b z => (w2 b z).elim
          have s := s1.trans s2
          have rs := Sta.resh (o := .lst (vs.take z.toNat ++ [v] ++ vs.drop z.toNat)) st s oa hS
          have rs2 := Sta.resh (o := .lst (vs.take z.toNat ++ [v] ++ vs.drop z.toNat)) (st.mono s) (Same.refl H2) oa (S2 := S') (fun b z => (w2 b z).elim)
          have r0 := RepL.mono rs _ _ w1
          exact q _ _ _ (st.relist s ei ev oa na hS (OwnL.zero.mpr ⟨RepL.append (RepL.append (RepL.take _ r0) (RepL.cons (Rep.mono rs2 _ _ (r2.shared (st.mono s1) s2 hc.2.2.2)) RepL.nil)) (RepL.drop _ r0), w2⟩))
        · cases e1
      · cases e1
def sPop (i : Nat) : SF := fun ρ => match ρ[i]? with
  | some (some (1, .lst ds)) => if ds.isEmpty then none else some (.nx (ρ.set i (some (1, .lst ds.dropLast))))
  | _ => none
theorem RepL.dropLast {K : PySem.W.Frag} {H : Hp} {ds : List D} {vs : List V} (r : RepL K H ds vs) : RepL K H ds.dropLast vs.dropLast := by
  rw [List.dropLast_eq_take, List.dropLast_eq_take, r.length]
  exact RepL.take _ r
theorem ds_pop {i : Nat} {c : Expr} {pos : Pos} (h : PE X c (tBM0 X.K "list" rPop (tVar i))) (hs : swapsWith c none pos.line X.env = pure false := by rfl) :
    DS X (.Expr c pos) (sPop i) := (ps_expr h hs).weak fun E σ H ⟨ρ, O, B, o, st, e1, q⟩ => by
  unfold sPop at e1
  split at e1
  · rename_i ds ei
    split at e1
    · cases e1
    · rename_i hne
      cases e1
      obtain ⟨a, vs, S', ev, ha, oa, na, hs, w⟩ := st.list ei
      obtain ⟨w1, w2⟩ := OwnL.zero.mp w
      have hl : vs.length = ds.length := w1.length
      have hp : 0 < ds.length := by
        cases ds with
        | nil => exact absurd rfl hne
        | cons _ _ => simp
      have hS : ∀ b, S' b → O i b ∨ H b = none := fun b z => (w2 b z).elim
      have rs := Sta.resh (o := .lst vs.dropLast) st (Same.refl H) oa hS
      refine ⟨.ref a, ev, .inl ⟨rfl, vs, SqL.of ha⟩, a, vs, vs[vs.length - 1]'(by omega), rfl, rfl, ha, List.getElem?_eq_getElem (by omega), ?_⟩
      exact q _ _ _ (st.relist (Same.refl H) ei ev oa na hS (OwnL.zero.mpr ⟨RepL.dropLast (RepL.mono rs _ _ w1), w2⟩))
  · cases e1
end
end PF

set_option Elab.async false
set_option linter.all false
set_option maxRecDepth 100000
set_option maxHeartbeats 4000000
/-! PF8: loops. -/
namespace PF
open PySem PySem.Spec PyProof.Rows L2

/-! ### while -/
def whileF (t : TF) (b : SF) : Nat → Env → Option Out
  | 0, _ => none
  | n + 1, ρ => (t ρ).bind fun k => if k = true then (b ρ).bind fun o => match o with
      | .nx ρ' => whileF t b n ρ'
      | .ct ρ' => whileF t b n ρ'
      | .bk ρ' => some (.nx ρ')
      | .rt d k => some (.rt d k)
    else some (.nx ρ)
def FUEL : Nat := 1000000
def sWhile (t : TF) (b : SF) : SF := whileF t b FUEL
theorem tWhile_of {K : PySem.W.Frag} {t : TF} {b : SF} {n : Nat} {E : Ends} {σ : L2.St} {H : Hp} (h : tS K (whileF t b n) E σ H) : tWhile (tT K t) (tS K b) E σ H := by
  obtain ⟨ρ, O, B, o, st, e1, q⟩ := h
  refine ⟨fun m σ H => ∃ ρ O o, Sta K H σ ρ O T0 B ∧ whileF t b m ρ = some o ∧ Fin K B E o, ⟨n, ρ, O, o, st, e1, q⟩, ?_⟩
  rintro m σ H ⟨ρ, O, o, st, e1, q⟩
  cases m with
  | zero => cases e1
  | succ m =>
    unfold whileF at e1
    cases et : t ρ with
    | none => rw [et] at e1; cases e1
    | some k =>
      rw [et, Option.bind_some] at e1
      refine ⟨ρ, O, T0, B, k, st, et, fun H1 s1 => ?_⟩
      cases k with
      | false =>
        rw [if_neg Bool.false_ne_true] at e1 ⊢
        cases e1
        exact q σ H1 O (st.mono s1)
      | true =>
        rw [if_pos rfl] at e1 ⊢
        refine ⟨fun σ H => ∃ ρ O o, Sta K H σ ρ O T0 B ∧ whileF t b m ρ = some o ∧ Fin K B E o, fun σ' H' w => ⟨m, Nat.lt_succ_self m, w⟩, ?_⟩
        cases eb : b ρ with
        | none => rw [eb] at e1; cases e1
        | some o1 =>
          rw [eb, Option.bind_some] at e1
          refine ⟨ρ, O, B, o1, st.mono s1, eb, ?_⟩
          cases o1 with
          | nx ρ' => exact fun σ' H' O' st' => ⟨ρ', O', o, st', e1, q⟩
          | ct ρ' => exact fun σ' H' O' st' => ⟨ρ', O', o, st', e1, q⟩
          | bk ρ' => cases e1; exact q
          | rt d k => cases e1; exact q
section
variable {X : Cx}
theorem ds_while {c : Expr} {body : List Stmt} {t : TF} {b : SF} {pos : Pos} (hp : PassesOwn (model X.prog X.w) X.A X.env X.xe) (hc : DT X c t) (hb : DSs X body b) : DS X (.While c body [] pos) (sWhile t b) :=
  (ps_while hp hc hb).weak fun E σ H h => tWhile_of h
end

/-! ### what is walked -/
def Ov (H H' P : Hp) : Hp := fun a => match H a with
  | none => H' a
  | some _ => P a
structure Steps (K : PySem.W.Frag) (J : It) (G P : Hp) (items : List D) : Prop where
  go : ∀ i H, Same G H → i < items.length → J.go i H
  stop : ∀ i H, Same G H → items.length ≤ i → J.stop i H
  yld : ∀ i H x H' d, Same G H → Same P H → items[i]? = some d → J.yld i H x H' → Same H H' ∧ Rep K (Ov H H' P) d x
abbrev IF := Env → Option (List D)
def tI (K : PySem.W.Frag) (f : IF) : TI := fun σ H R => ∃ ρ O T B items, Sta K H σ ρ O T B ∧ f ρ = some items ∧ ∀ J H1, Same H H1 → Steps K J (Rst H1 (Un O T)) (Rst H1 (Un O T)) items → R J H1
/-- .. where nothing is changed meanwhile -/
def tIc (K : PySem.W.Frag) (f : IF) : TI := fun σ H R => ∃ ρ O T B items, Sta K H σ ρ O T B ∧ f ρ = some items ∧ ∀ J H1, Same H H1 → Steps K J H1 (Rst H1 (Un O T)) items → R J H1
def DIc (X : Cx) (tg it : Expr) (f : IF) : Prop := PI X tg it (tIc X.K f)
def DI (X : Cx) (tg it : Expr) (f : IF) : Prop := PI X tg it (tI X.K f)
theorem _root_.L2.PI.weak {X : Cx} {tg it : Expr} {t t' : TI} (h : PI X tg it t) (w : ∀ σ H Q, t' σ H Q → t σ H Q) : PI X tg it t' := ⟨fun pins s σ H R I q => h.run pins s σ H R I (w _ _ _ q)⟩
theorem Sta.over {K : PySem.W.Frag} {H0 H H' P : Hp} {σ : L2.St} {ρ : Env} {O : Nat → Addr → Prop} {T : Addr → Prop} {B : Hp} (st : Sta K H σ ρ O T B) (sp : Same P (Rst H (Un O T))) (s : Same H H') : Same (Ov H H' P) (Rst H' (Un O T)) := fun a o e => by
  unfold Ov at e
  split at e
  · rename_i h
    rw [Rst.at fun q => ?_]
    · exact e
    · obtain ⟨o', e', _⟩ := st.allU q
      rw [h] at e'
      cases e'
  · exact Rst.mono s _ _ (sp _ _ e)
theorem Sta.rebase {K : PySem.W.Frag} {H : Hp} {σ : L2.St} {ρ : Env} {O : Nat → Addr → Prop} {T : Addr → Prop} {B P : Hp} (st : Sta K H σ ρ O T P) (s : Same B P) : Sta K H σ ρ O T B :=
  ⟨st.len, st.slot, st.nil, st.dis, st.disT, st.allT, s.trans st.base, fun i a q => s.free (st.baseO i a q)⟩
theorem Fin.rebase {K : PySem.W.Frag} {B P : Hp} {E : Ends} {o : Out} (h : Fin K B E o) (s : Same B P) : Fin K P E o := by
  cases o with
  | nx ρ => exact fun σ H O st => h σ H O (st.rebase s)
  | bk ρ => exact fun σ H O st => h σ H O (st.rebase s)
  | ct ρ => exact fun σ H O st => h σ H O (st.rebase s)
  | rt d k => exact fun v H S s1 f w => h v H S (s.trans s1) (fun a q => s.free (f a q)) w
/-- all that no slot owns is kept -/
theorem Sta.shared {K : PySem.W.Frag} {H : Hp} {σ : L2.St} {ρ : Env} {O : Nat → Addr → Prop} {B : Hp} (st : Sta K H σ ρ O T0 B) : Sta K H σ ρ O T0 (Rst H (Un O T0)) ∧ Same B (Rst H (Un O T0)) :=
  ⟨⟨st.len, st.slot, st.nil, st.dis, st.disT, st.allT, Rst.same, fun i a q => Rst.none (.inr ⟨i, q⟩)⟩, fun a o e => by
    rw [Rst.at fun q => ?_]
    · exact st.base _ _ e
    · rcases q with q | ⟨i, q⟩
      · exact q
      · rw [st.baseO i a q] at e; cases e⟩

/-! ### for -/
def forF (g : GF) (b : SF) : List D → Env → Option Out
  | [], ρ => some (.nx ρ)
  | d :: ds, ρ => (g d ρ).bind fun ρ1 => (b ρ1).bind fun o => match o with
      | .nx ρ' => forF g b ds ρ'
      | .ct ρ' => forF g b ds ρ'
      | .bk ρ' => some (.nx ρ')
      | .rt d k => some (.rt d k)
def sFor (it : IF) (g : GF) (b : SF) : SF := fun ρ => (it ρ).bind fun items => forF g b items ρ
theorem tFor_of {K : PySem.W.Frag} {it : IF} {g : GF} {b : SF} {is : List Nat} {E : Ends} {σ : L2.St} {H : Hp} (h : tS K (sFor it g b) E σ H) : tFor (tI K it) (tG K g is) (tS K b) E σ H := by
  obtain ⟨ρ, O, B, o, st, e1, q⟩ := h
  unfold sFor at e1
  cases ei : it ρ with
  | none => rw [ei] at e1; cases e1
  | some items =>
    rw [ei, Option.bind_some] at e1
    refine ⟨ρ, O, T0, B, items, st, ei, fun J H1 s1 J1 => ?_⟩
    obtain ⟨st1, sb⟩ := (st.mono s1).shared
    generalize hP : Rst H1 (Un O T0) = P at st1 sb J1
    refine ⟨fun i m σ H => ∃ ρ O o, Sta K H σ ρ O T0 P ∧ forF g b (items.drop i) ρ = some o ∧ Fin K P E o ∧ i + m = items.length, ⟨items.length, ρ, O, o, st1, e1, q.rebase sb, Nat.zero_add _⟩, ?_⟩
    rintro i m σ H ⟨ρ, O, o, st, e1, q, hm⟩
    by_cases hi : i < items.length
    · rw [List.drop_eq_getElem_cons hi] at e1
      unfold forF at e1
      refine .inr ⟨J1.go i H st.base hi, fun σ H => ∃ ρ O o, Sta K H σ ρ O T0 P ∧ forF g b (items.drop (i + 1)) ρ = some o ∧ Fin K P E o, fun σ' H' ⟨ρ, O, o, a1, a2, a3⟩ => ⟨m - 1, by omega, ρ, O, o, a1, a2, a3, by omega⟩, fun x H' hy => ?_⟩
      obtain ⟨s2, r⟩ := J1.yld i H x H' items[i] st.base st.base (List.getElem?_eq_getElem hi) hy
      cases eg : g items[i] ρ with
      | none => rw [eg] at e1; cases e1
      | some ρ1 =>
        rw [eg, Option.bind_some] at e1
        have sp : Same P (Rst H (Un O T0)) := st.shared.2
        refine ⟨ρ, O, T0, P, items[i], ρ1, st.mono s2, Rep.mono (st.over (H0 := H) sp s2) _ _ r, eg, fun σ2 O2 st2 _ _ => ?_⟩
        cases eb : b ρ1 with
        | none => rw [eb] at e1; cases e1
        | some o1 =>
          rw [eb, Option.bind_some] at e1
          refine ⟨ρ1, O2, P, o1, st2, eb, ?_⟩
          cases o1 with
          | nx ρ' => exact fun σ' H' O' st' => ⟨ρ', O', o, st', e1, q⟩
          | ct ρ' => exact fun σ' H' O' st' => ⟨ρ', O', o, st', e1, q⟩
          | bk ρ' => cases e1; exact q
          | rt d k => cases e1; exact q
    · rw [List.drop_of_length_le (by omega)] at e1
      cases e1
      exact .inl ⟨J1.stop i H st.base (by omega), q σ H O st⟩
section
variable {X : Cx}
theorem ds_for {tg iter : Expr} {body : List Stmt} {it : IF} {g : GF} {is : List Nat} {b : SF} {pos : Pos} (hp : PassesOwn (model X.prog X.w) X.A X.env X.xe) (hc : X.calm = true) (hi : DI X tg iter it) (hg : DG X tg g is) (hb : DSs X body b) (hs : ∀ x, foldedSetIterable iter X.env x = pure x := by intro _; rfl) : DS X (.For tg iter body [] pos) (sFor it g b) :=
  (ps_for hp hc hi hg hb hs).weak fun E σ H h => tFor_of h
/-- slot j is shared from here on -/
def relE (j : Nat) (ρ : Env) : Env := match ρ[j]? with
  | some (some (k, d)) => ρ.set j (some (0, d))
  | _ => ρ
def sRel (j : Nat) (f : SF) : SF := fun ρ => f (relE j ρ)
theorem ds_rel {st : Stmt} {f : SF} (j : Nat) (h : DS X st f) : DS X st (sRel j f) := h.weak fun E σ H ⟨ρ, O, B, o, s, e1, q⟩ => by
  unfold sRel relE at e1
  split at e1
  · rename_i k d ej
    exact ⟨_, _, B, o, s.release ej, e1, q⟩
  · exact ⟨ρ, O, B, o, s, e1, q⟩

/-! ### lists, tuples, texts, ranges -/
theorem Steps.lax {K : PySem.W.Frag} {J : It} {G P : Hp} {items : List D} (h : Steps K J P P items) (s : Same P G) : Steps K J G P items :=
  ⟨fun i H s' => h.go i H (s.trans s'), fun i H s' => h.stop i H (s.trans s'), fun i H x H' d s' sp => h.yld i H x H' d sp sp⟩
theorem Ov.same {H P : Hp} (s : Same P H) : Same P (Ov H H P) := fun a o e => by
  unfold Ov
  rw [s _ _ e]
  exact e
theorem steps_list {K : PySem.W.Frag} {G P : Hp} {a : Addr} {vs : List V} {ds : List D} (h1 : SqL K G a vs) (h2 : RepL K P ds vs) : Steps K (Itl K a) G P ds where
  go := fun i H s hi => ⟨vs, vs[i]'(by rw [h2.length]; exact hi), SqL.mono s h1, List.getElem?_eq_getElem _⟩
  stop := fun i H s hi => ⟨vs, SqL.mono s h1, by rw [h2.length]; exact hi⟩
  yld := fun i H x H' d s sp hd hy => by
    obtain ⟨rfl, f⟩ := hy
    obtain ⟨v, e, r⟩ := h2.get hd
    have := f vs (SqL.mono s h1)
    rw [e] at this
    cases this
    exact ⟨Same.refl _, Rep.mono (Ov.same sp) _ _ r⟩
theorem steps_tup {K : PySem.W.Frag} {G P : Hp} {a : Addr} {vs : List V} {ds : List D} (h1 : SqT K G a vs) (h2 : RepL K P ds vs) : Steps K (Itt K a) G P ds where
  go := fun i H s hi => ⟨vs, vs[i]'(by rw [h2.length]; exact hi), SqT.mono s h1, List.getElem?_eq_getElem _⟩
  stop := fun i H s hi => ⟨vs, SqT.mono s h1, by rw [h2.length]; exact hi⟩
  yld := fun i H x H' d s sp hd hy => by
    obtain ⟨rfl, f⟩ := hy
    obtain ⟨v, e, r⟩ := h2.get hd
    have := f vs (SqT.mono s h1)
    rw [e] at this
    cases this
    exact ⟨Same.refl _, Rep.mono (Ov.same sp) _ _ r⟩
theorem upd_tup_rep {K : PySem.W.Frag} {H P : Hp} {T : Addr} {vs : List V} {ds : List D} (hT : H T = none) (sp : Same P H) (r : RepL K P ds vs) : Rep K (Ov H (upd H T (.tup vs)) P) (.wtp ds) (.ref T) := by
  unfold Rep
  refine ⟨T, vs, rfl, SqT.of ?_, RepL.mono (fun a o e => ?_) _ _ r⟩
  · unfold Ov
    rw [hT]
    exact upd_same
  · unfold Ov
    rw [sp _ _ e]
    exact e
end
end PF

set_option Elab.async false
set_option linter.all false
set_option maxRecDepth 100000
set_option maxHeartbeats 4000000
/-! PF9: what is walked: lists, tuples, texts, ranges, enumerate, zip, reversed. -/
namespace PF
open PySem PySem.Spec PyProof.Rows L2

/-! ### enumerate of a tuple -/
theorem meets_enumerate_new1 {v : Value} {o : Obj} {H : Heap → Prop} (B : Begins v o H) :
    Meets (Builtin.«enumerate.__new__» ⟨[.type "enumerate", v], []⟩) (fun _ R s => H s.heap ∧
      R (.ok (.ret (.ref (s.heap.push o).objs.size))) { s with heap := (s.heap.push o).push { cls := .type "enumerate", data := .fields #[.none, .bool false, .ref s.heap.objs.size, rawInt 0, .none, .none] } }) :=
  .of_wp fun prog w A R s h => by
    obtain ⟨hp, g, d, tk, os⟩ := s; obtain ⟨h1, h⟩ := h
    have hsub := sub_enumerate
    have q1 : ∀ {A' : Around} {E : Value → Shared → Prop} {Q : Value → Shared → Prop}, Q (.ref hp.objs.size) ⟨hp.push o, g, d, tk, os⟩ → wpAny (model prog w) A' (pyIter v) Q E ⟨hp, g, d, tk, os⟩ :=
      fun q => B.iter prog w _ _ ⟨hp, g, d, tk, os⟩ _ h1 q
    wp_walk using q1
    refine wpAny_stack_any fun st => wpAny_pure ?_
    split
    · rename_i c _ _ _ _ _
      cases (c == Value.type "enumerate")
      · wp_walk using q1
        exact ⟨_, rfl, h⟩
      · wp_walk using q1
        exact ⟨_, rfl, h⟩
    · wp_walk using q1
      exact ⟨_, rfl, h⟩
theorem enum_begins1 {prog : Program} {w : World} {A : Around} {E : Value → Shared → Prop} {s : Shared} {v : Value} {o : Obj} {H : Heap → Prop} {Q : Value → Shared → Prop} (B : Begins v o H) (h1 : H s.heap)
    (h : ∀ h', IsEnum h' (s.heap.objs.size + 1) s.heap.objs.size 0 .none → h'.get? s.heap.objs.size = some o → h'.objs.size = s.heap.objs.size + 2 →
      (∀ b o, s.heap.get? b = some o → h'.get? b = some o) → Q (.ref (s.heap.objs.size + 1)) { s with heap := h' }) :
    wpAny (model prog w) A (call (.type "enumerate") [v]) Q E s := by
  refine callType_new F.called_enumerate (by decide) (F.typeCall_enumerate_1 _) (F.newCall_enumerate_1 _) (fun obj => F.args_object_init_2 obj _) F.entry_enumerate_new
    (meets_enumerate_new1 B) ⟨h1, ?_⟩
  have hz : (s.heap.push o).objs.size = s.heap.objs.size + 1 := Heap.size_push ..
  show _ ∧ _
  rw [hz]
  have he : IsEnum ((s.heap.push o).push { cls := .type "enumerate", data := .fields #[.none, .bool false, .ref s.heap.objs.size, rawInt 0, .none, .none] }) (s.heap.objs.size + 1) s.heap.objs.size 0 .none := by
    have := Heap.get?_push_size (s.heap.push o) (o := { cls := .type "enumerate", data := .fields #[.none, .bool false, .ref s.heap.objs.size, rawInt 0, .none, .none] }) rfl
    rw [hz] at this; exact this
  refine ⟨⟨_, he, rfl⟩, h _ he (Heap.get?_push_of_some _ (Heap.get?_push_size _ B.free)) (by rw [Heap.size_push, hz]) fun b o x => Heap.get?_push_of_some _ (Heap.get?_push_of_some _ x)⟩
def IteT (K : PySem.W.Frag) (a : Addr) : It :=
  ⟨fun i H => ∃ (xs : List V) (x : V), SqT K H a xs ∧ xs[i]? = some x, fun i H v H' => ∃ T x, v = .ref T ∧ H T = none ∧ H' = upd H T (.tup [.int (i : Nat), x]) ∧ ∀ xs, SqT K H a xs → xs[i]? = some x, fun i H => ∃ xs : List V, SqT K H a xs ∧ xs.length ≤ i⟩
theorem turn_enumT {P : Program} {w : World} {K : PySem.W.Frag} {elts : List Expr} {kk : Nat} {tpos : Pos} (a e it : Addr) :
    Turn P w K (.Tuple elts kk tpos) (IteT K a) [e, it] e (fun i h => (∃ old, IsEnum h e it ((i : Nat) : Int) old) ∧ h.IsTupleIter it a i ∧ e ≠ it) where
  mem := by simp
  obj := fun i h st b hb => by
    obtain ⟨⟨old, he⟩, ⟨o, ho, hc, hd⟩, _⟩ := st
    have e' : b = e ∨ b = it := by simpa using hb
    rcases e' with z | z
    · rw [z]; exact ⟨_, he, fun v q => nomatch q⟩
    · rw [z]; exact ⟨o, ho, fun v q => by rw [hd] at q; cases q⟩
  keep := fun i h h' st k => let ⟨⟨old, he⟩, hi, hne⟩ := st; ⟨⟨old, k e (by simp) _ he⟩, hi.at fun o q => k it (by simp) o q, hne⟩
  item := by
    intro X hP hw hK hc i pins s σ H E I hf st hg
    subst hP hw hK
    obtain ⟨⟨old, he⟩, hit, hne⟩ := st
    obtain ⟨xs, x, hq, hx⟩ := hg
    obtain ⟨its, rv, p, hz⟩ := I.tuple hq
    obtain ⟨u, hu, ru⟩ := rv.get hx
    have hel : e < s.heap.objs.size := Heap.lt_size he
    have hil : it < s.heap.objs.size := by obtain ⟨_, q, _⟩ := hit; exact Heap.lt_size q
    have tI : s.heap.IsTuple a its.toArray := p
    have nit : a ≠ it := fun z => by
      obtain ⟨o, h1, h2, _⟩ := id tI
      obtain ⟨o', h3, h4, _⟩ := hit
      rw [← z, h1] at h3
      cases h3
      exact absurd (Value.type.inj (h2.symm.trans h4)) (by decide)
    have ne : a ≠ e := fun z => by
      obtain ⟨o, h1, h2, _⟩ := id tI
      have h3 : s.heap.get? e = some _ := he
      rw [← z, h1] at h3
      cases h3
      exact absurd (Value.type.inj h2) (by decide)
    have hlt : i < its.toArray.size := by
      have := (List.getElem?_eq_some_iff.mp hu).1
      simpa using this
    refine wpAny_pyNext_enum_itemC (Draws.tuple (A := X.A.in1) (I.ok.hd hc) it a nit its.toArray) he (i := i) ⟨hit, tI⟩ hlt hne (fun hm => ?_) fun x' h' tk hx' ho hs' hT hsz hk => ?_
    · have : e = it ∨ e = a := by simpa using hm
      exact this.elim hne fun z => ne z.symm
    · have ex : x' = u := by
        have h1 : its.toArray[i]? = some x' := hx'
        rw [List.getElem?_toArray, hu] at h1
        cases h1
        rfl
      subst ex
      refine ⟨_, rfl, wpAny_letOwnedTupleGo_enum (s := { s with heap := h', toks := tk + 1 }) ho fun h'' he' sb => ?_⟩
      have hT2 : h''.get? s.heap.objs.size = some { cls := .type "tuple", data := .seq #[.int i tk, x'] } := (sb.2 _ (Nat.ne_of_gt hel)).trans hT
      have new : ObjOk X.prog X.w (upd H s.heap.objs.size (.tup [.int (i : Nat), x])) h'' s.heap.objs.size (.tup [.int (i : Nat), x]) :=
        ⟨by show 2 ≤ sizeLine; decide, [.int i tk, x'], .cons ⟨_, rfl⟩ (.cons ru .nil), ⟨_, hT2, rfl, _, rfl⟩⟩
      have I1 : Inv X pins σ (upd H s.heap.objs.size (.tup [.int (i : Nat), x])) { s with heap := h'', toks := tk + 1 } :=
        I.turnedNew (ch := [e, it]) (fun b ob hb q => (sb.2 b (fun z => hb (by simp [z]))).trans (hk b ob (fun z => hb (by simp [z])) (fun z => hb (by simp [z])) q)) hf (Nat.le_refl _) new
      refine ⟨.ref s.heap.objs.size, _, I1, rfl, ⟨_, x, rfl, I.hok.fresh (Nat.le_refl _), rfl, fun ys hy => by rw [I.tuple_inj hy hq]; exact hx⟩, ⟨⟨x', ?_⟩, hs'.1.at fun o q => (sb.2 it (Ne.symm hne)).trans q, hne⟩, fun b hb => ?_⟩
      · have e1 : ((i + 1 : Nat) : Int) = (i : Int) + 1 := by omega
        rw [e1]; exact he'
      · have hb' : b < s.heap.objs.size := by
          have e' : b = e ∨ b = it := by simpa using hb
          rcases e' with z | z
          · rw [z]; exact hel
          · rw [z]; exact hil
        rw [upd_ne (Nat.ne_of_lt hb')]
        exact (hf b hb).1
  done := by
    intro X hP hw hK hc i pins s σ H E I hf st hg
    subst hP hw hK
    obtain ⟨⟨old, he⟩, hit, hne⟩ := st
    obtain ⟨xs, hq, hx⟩ := hg
    obtain ⟨its, rv, p, hz⟩ := I.tuple hq
    obtain ⟨f0, f1, f2, f3, f4, f5⟩ := hf it (by simp)
    have hl := rv.length
    have hh : X.A.in1.handled = none := I.ok.hd hc
    have hT : s.TypeIs (.ref e) "enumerate" := ⟨_, he, rfl⟩
    unfold pyNext
    refine wpAny_bind (wpAny_attempt (wpAny_callSpecial?_slot (name := Str.ofString "__next__") hT F.slot_enumerate_next
      (wpAny_call_entry F.slot_enumerate_next hT F.entry_enumerate_next ?_ (F.args_enumerate_next_1 _))))
    show wpAny _ _ (field (.ref e) 2 >>= _) _ _ _
    refine wpAny_bind (wpAny_field he rfl (x := .ref it) rfl ?_)
    refine wpAny_bind (PySem.wpAny_nextOf_tuple_end hh hit (show s.heap.IsTuple a its.toArray from p) (by simp; omega) fun h' x he' hx' => ?_)
    obtain ⟨o, ho, hcl⟩ := hx'
    refine wpAny_bind (wpAny_isInstance (T := "StopIteration") (b := true) ⟨o, ho, hcl⟩ isSubtype_stop ?_)
    exact wpAny_pure ⟨rfl, I.turned (t' := s.toks) (fun b o hb q => he' b o hb q) f0 f1 f3 f4 f5⟩
  self := fun A i s Q E st h => let ⟨⟨_, he⟩, _⟩ := st; wpAny_pyIter_enum he h
def iEnumT (K : PySem.W.Frag) (ta : TA) : TI := fun σ H R => ta σ H fun vs H1 => ∃ a xs, vs = [.ref a] ∧ SqT K H1 a xs ∧ R (IteT K a) H1
theorem pi_enumT {X : Cx} {e : Expr} {ta : TA} {p pos tpos : Pos} {elts : List Expr} {kk : Nat} (hg : Gl X "enumerate") (hm : X.mg "enumerate" = none) (ha : PA X [e] ta) (hs : starEach [e] X.env = [(false, eval e X.env)] := by rfl) :
    PI X (.Tuple elts kk tpos) (.Call (.Name "enumerate" p) [e] [] pos) (iEnumT X.K ta) := by
  refine ⟨fun pins s σ H R I h => ?_⟩
  refine Call_ (ld_blt I hg hm boot_enumerate (PyProof.Rows.callWith_type1 (thn (ha.run pos pins s σ H _ I h) fun us s1 ⟨vs, H1, I1, r1, q1⟩ => ?_) hs rfl))
  obtain ⟨a, xs, ex, hq, q⟩ := q1
  subst ex
  cases r1 with
  | cons r rr =>
    cases rr
    cases r
    obtain ⟨its, rv, p', hz⟩ := I1.tuple hq
    refine enum_begins1 (begins_tuple a its.toArray) (show s1.heap.IsTuple a its.toArray from p') fun h' he hit hsz hk => wpAny_pyIter_enum he ?_
    have I2 : Inv X pins σ H1 { s1 with heap := h' } := I1.kept (t' := s1.toks) hk
    refine ⟨s1.heap.objs.size + 1, [s1.heap.objs.size + 1, s1.heap.objs.size], _, _, H1, rfl, I2, turn_enumT a (s1.heap.objs.size + 1) s1.heap.objs.size, ⟨⟨.none, he⟩, ⟨_, hit, rfl, rfl⟩, Nat.succ_ne_self _⟩, fun b hb => ?_, q⟩
    have e' : b = s1.heap.objs.size + 1 ∨ b = s1.heap.objs.size := by simpa using hb
    have hle : s1.heap.objs.size ≤ b := by
      rcases e' with z | z
      · rw [z]; exact Nat.le_add_right _ _
      · rw [z]; exact Nat.le_refl _
    exact I1.fpOk hle (I1.hok.fresh hle)

/-! ### data walked -/
section
variable {X : Cx} {tg a b : Expr} {f g : EF} {pos : Pos}
/-- the items of a list, a tuple, a text that no slot owns -/
def seqS (x : DF) : Option (List D) := match x.1 with
  | .lst ds => match x.2 with
    | .fr _ => some ds
    | .bo 0 => some ds
    | _ => none
  | .tup ds => if shr (.tup ds) x.2 then some ds else none
  | .str z => some (z.cps.toList.map fun c => .str ⟨#[c]⟩)
  | _ => none
/-- .. whose items are shared -/
def seqC (x : DF) : Option (List D) := match x.1 with
  | .lst ds => if eshr (.lst ds) x.2 then some ds else none
  | .tup ds => if shr (.tup ds) x.2 then some ds else none
  | .str z => some (z.cps.toList.map fun c => .str ⟨#[c]⟩)
  | _ => none
def iSeq (f : EF) : IF := fun ρ => (f ρ).bind seqS
def iSeqC (f : EF) : IF := fun ρ => (f ρ).bind seqC
theorem Res.strict {K : PySem.W.Frag} {H0 H : Hp} {σ : L2.St} {ρ : Env} {O : Nat → Addr → Prop} {T : Addr → Prop} {B : Hp} {ds : List D} {fl : Fl} {v : V} (st : Sta K H0 σ ρ O T B) (s : Same H0 H) (r : Res K H0 H O T (.lst ds) fl v) {is : List D} (h : seqS (.lst ds, fl) = some is) :
    is = ds ∧ ∃ a vs, v = .ref a ∧ SqL K (Rst H (Un O T)) a vs ∧ RepL K (Rst H (Un O T)) ds vs := by
  unfold seqS at h
  simp only at h
  have sh : shr (.lst ds) fl = true ∧ is = ds := by
    split at h
    · cases h; exact ⟨rfl, rfl⟩
    · cases h; exact ⟨rfl, rfl⟩
    · cases h
  refine ⟨sh.2, ?_⟩
  have := r.shared st s sh.1
  exact rep_lst this
theorem str_steps {K : PySem.W.Frag} {G P : Hp} {z : Str} : Steps K (Its z) G P (z.cps.toList.map fun c => D.str ⟨#[c]⟩) where
  go := fun i H s hi => by
    have : i < z.cps.toList.length := by simpa using hi
    simpa [Its] using this
  stop := fun i H s hi => by
    have : z.cps.toList.length ≤ i := by simpa using hi
    simpa [Its] using this
  yld := fun i H x H' d s sp hd hy => by
    obtain ⟨rfl, c, e, rfl⟩ := hy
    refine ⟨Same.refl _, ?_⟩
    rw [List.getElem?_map] at hd
    have e2 : z.cps.toList[i]? = some c := by rw [Array.getElem?_toList]; exact e
    rw [e2] at hd
    cases hd
    exact scV_rep rfl
theorem di_seq (ha : DE X a f) : DI X tg a (iSeq f) := ⟨fun pins s σ H R I h => by
  obtain ⟨ρ, O, T, B, items, st, e1, q⟩ := h
  unfold iSeq at e1
  cases ef : f ρ with
  | none => rw [ef] at e1; cases e1
  | some x =>
    obtain ⟨d, fl⟩ := x
    rw [ef, Option.bind_some] at e1
    cases d with
    | lst ds =>
      refine (pi_list ha).run pins s σ H R I ⟨ρ, O, T, B, _, fl, st, ef, fun v H1 s1 r1 => ?_⟩
      obtain ⟨rfl, a, vs, rfl, h1, h2⟩ := r1.strict st s1 e1
      exact ⟨a, rfl, ⟨vs, SqL.mono Rst.same h1⟩, q _ H1 s1 (steps_list h1 h2)⟩
    | tup ds =>
      refine (pi_tup ha).run pins s σ H R I ⟨ρ, O, T, B, _, fl, st, ef, fun v H1 s1 r1 => ?_⟩
      unfold seqS at e1
      simp only at e1
      split at e1
      · cases e1
        have := r1.shared st s1 (by assumption)
        obtain ⟨a, vs, rfl, h1, h2⟩ := rep_tup this
        exact ⟨a, rfl, ⟨vs, SqT.mono Rst.same h1⟩, q _ H1 s1 (steps_tup h1 h2)⟩
      · cases e1
    | str z =>
      refine (pi_str ha).run pins s σ H R I ⟨ρ, O, T, B, _, fl, st, ef, fun v H1 s1 r1 => ?_⟩
      cases e1
      exact ⟨z, rep_str r1.rep, q _ H1 s1 str_steps⟩
    | non => cases e1
    | bl _ => cases e1
    | int _ => cases e1
    | dic _ _ => cases e1
    | wtp _ => cases e1⟩
theorem di_seqC (ha : DE X a f) : DIc X tg a (iSeqC f) := ⟨fun pins s σ H R I h => by
  obtain ⟨ρ, O, T, B, items, st, e1, q⟩ := h
  unfold iSeqC at e1
  cases ef : f ρ with
  | none => rw [ef] at e1; cases e1
  | some x =>
    obtain ⟨d, fl⟩ := x
    rw [ef, Option.bind_some] at e1
    cases d with
    | lst ds =>
      refine (pi_list ha).run pins s σ H R I ⟨ρ, O, T, B, _, fl, st, ef, fun v H1 s1 r1 => ?_⟩
      unfold seqC at e1
      simp only at e1
      split at e1
      · cases e1
        obtain ⟨a, vs, rfl, h1, h2, h3⟩ := r1.items st s1
        exact ⟨a, rfl, ⟨vs, h1⟩, q _ H1 s1 (steps_list h1 (h3 (by assumption)))⟩
      · cases e1
    | tup ds =>
      refine (pi_tup ha).run pins s σ H R I ⟨ρ, O, T, B, _, fl, st, ef, fun v H1 s1 r1 => ?_⟩
      unfold seqC at e1
      simp only at e1
      split at e1
      · cases e1
        have := r1.shared st s1 (by assumption)
        obtain ⟨a, vs, rfl, h1, h2⟩ := rep_tup this
        exact ⟨a, rfl, ⟨vs, SqT.mono Rst.same h1⟩, q _ H1 s1 (steps_tup (SqT.mono Rst.same h1) h2)⟩
      · cases e1
    | str z =>
      refine (pi_str ha).run pins s σ H R I ⟨ρ, O, T, B, _, fl, st, ef, fun v H1 s1 r1 => ?_⟩
      cases e1
      exact ⟨z, rep_str r1.rep, q _ H1 s1 str_steps⟩
    | non => cases e1
    | bl _ => cases e1
    | int _ => cases e1
    | dic _ _ => cases e1
    | wtp _ => cases e1⟩
theorem DI.c {it : IF} {e : Expr} (h : DI X tg e it) : DIc X tg e it := h.weak fun σ H R ⟨ρ, O, T, B, items, st, e1, q⟩ => ⟨ρ, O, T, B, items, st, e1, fun J H1 s1 J1 => q J H1 s1 (J1.lax Rst.same)⟩

/-! ### ranges -/
def rangeD (lo : Int) (n : Nat) : List D := (List.range n).map fun (i : Nat) => D.int (lo + (i : Int))
def inR (i : Int) : Bool := decide (-(2 ^ 62) ≤ i) && decide (i < 2 ^ 62)
theorem inR_ok {i : Int} (h : inR i = true) : -(2 ^ 62) ≤ i ∧ i < 2 ^ 62 := by
  unfold inR at h
  simpa using h
def iRange1 (f : EF) : IF := fun ρ => (f ρ).bind fun x => match x.1 with
  | .int j => if inR j then some (rangeD 0 j.toNat) else none
  | _ => none
def iRange2 (f g : EF) : IF := fun ρ => (f ρ).bind fun x => (g ρ).bind fun y => match x.1, y.1 with
  | .int i, .int j => if inR i && inR j then some (rangeD i (j - i).toNat) else none
  | _, _ => none
theorem range_steps {K : PySem.W.Frag} {G P : Hp} {lo : Int} {n : Nat} : Steps K (Itr lo n) G P (rangeD lo n) where
  go := fun i H s hi => by
    have : i < n := by simpa [rangeD] using hi
    exact this
  stop := fun i H s hi => by
    have : n ≤ i := by simpa [rangeD] using hi
    exact this
  yld := fun i H x H' d s sp hd hy => by
    obtain ⟨rfl, rfl⟩ := hy
    refine ⟨Same.refl _, ?_⟩
    unfold rangeD at hd
    rw [List.getElem?_map, List.getElem?_range] at hd
    · cases hd
      exact scV_rep rfl
    · cases e : (List.range n)[i]? with
      | none => rw [e] at hd; cases hd
      | some k =>
        have := (List.getElem?_eq_some_iff.mp e).1
        simpa using this
theorem di_range1 {p : Pos} (hg : Gl X "range") (hm : X.mg "range" = none) (ha : DE X a f) (hs : starEach [a] X.env = [(false, eval a X.env)] := by rfl) (hs1 : starEach [a] X.env = (false, eval a X.env) :: starEach [] X.env := by rfl) : DI X tg (.Call (.Name "range" p) [a] [] pos) (iRange1 f) :=
  (pi_range1 hg hm (pa_cons ha pa_nil hs1) hs).weak fun σ H R ⟨ρ, O, T, B, items, st, e1, q⟩ => by
    unfold iRange1 at e1
    cases ef : f ρ with
    | none => rw [ef] at e1; cases e1
    | some x =>
      obtain ⟨d, fl⟩ := x
      rw [ef, Option.bind_some] at e1
      simp only at e1
      split at e1
      · split at e1
        · rename_i j hj
          cases e1
          exact ⟨ρ, O, T, B, _, fl, st, ef, fun v H1 s1 r1 => ⟨j, by rw [rep_int r1.rep], (inR_ok hj).1, (inR_ok hj).2, q _ H1 s1 range_steps⟩⟩
        · cases e1
      · cases e1
theorem di_range2 {p : Pos} (hg : Gl X "range") (hm : X.mg "range" = none) (ha : DE X a f) (hb : DE X b g) (hs : starEach [a, b] X.env = [(false, eval a X.env), (false, eval b X.env)] := by rfl) (hs2 : starEach [b] X.env = [(false, eval b X.env)] := by rfl)
    (hs3 : starEach [a, b] X.env = (false, eval a X.env) :: starEach [b] X.env := by rfl) (hs4 : starEach [b] X.env = (false, eval b X.env) :: starEach [] X.env := by rfl) : DI X tg (.Call (.Name "range" p) [a, b] [] pos) (iRange2 f g) :=
  (pi_range2 hg hm (pa_cons ha (pa_cons hb pa_nil hs4) hs3) hs hs2).weak fun σ H R ⟨ρ, O, T, B, items, st, e1, q⟩ => by
    unfold iRange2 at e1
    cases ef : f ρ with
    | none => rw [ef] at e1; cases e1
    | some x =>
      obtain ⟨d, fl⟩ := x
      cases eg : g ρ with
      | none => rw [ef, Option.bind_some, eg] at e1; cases e1
      | some y =>
        obtain ⟨d2, fl2⟩ := y
        rw [ef, Option.bind_some, eg, Option.bind_some] at e1
        simp only at e1
        split at e1
        · split at e1
          · rename_i i j hj
            rw [Bool.and_eq_true] at hj
            cases e1
            exact ⟨ρ, O, T, B, _, fl, st, ef, fun v H1 s1 r1 => ⟨ρ, O, T, B, _, fl2, st.mono s1, eg, fun u H2 s2 r2 => ⟨i, j, by rw [rep_int r1.rep, rep_int r2.rep], ⟨(inR_ok hj.1).1, (inR_ok hj.1).2, (inR_ok hj.2).1, (inR_ok hj.2).2⟩, q _ H2 (s1.trans s2) range_steps⟩⟩⟩
          · cases e1
        · cases e1

/-! ### enumerate, zip, reversed -/
def enumD (ds : List D) : List D := ds.mapIdx fun i d => .wtp [.int (i : Int), d]
def seqE (x : DF) : Option (List D) := match x.1 with
  | .lst ds => match x.2 with
    | .fr _ => some ds
    | .bo 0 => some ds
    | _ => none
  | .tup ds => if shr (.tup ds) x.2 then some ds else none
  | _ => none
def iEnumD (f : EF) : IF := fun ρ => (f ρ).bind fun x => (seqE x).map enumD
def iEnumC (f : EF) : IF := fun ρ => (f ρ).bind fun x => match x.1 with
  | .lst ds => if eshr (.lst ds) x.2 then some (enumD ds) else none
  | .tup ds => if shr (.tup ds) x.2 then some (enumD ds) else none
  | _ => none
theorem enum_stepsL {K : PySem.W.Frag} {G P : Hp} {a : Addr} {vs : List V} {ds : List D} (h1 : SqL K G a vs) (h2 : RepL K P ds vs) : Steps K (Ite K a) G P (enumD ds) where
  go := fun i H s hi => ⟨vs, vs[i]'(by rw [h2.length]; simpa [enumD] using hi), SqL.mono s h1, List.getElem?_eq_getElem _⟩
  stop := fun i H s hi => ⟨vs, SqL.mono s h1, by rw [h2.length]; simpa [enumD] using hi⟩
  yld := fun i H x H' d s sp hd hy => by
    obtain ⟨T, v, rfl, hT, rfl, f⟩ := hy
    unfold enumD at hd
    rw [List.getElem?_mapIdx] at hd
    cases e : ds[i]? with
    | none => rw [e] at hd; cases hd
    | some d0 =>
      rw [e] at hd
      cases hd
      obtain ⟨u, e1, r⟩ := h2.get e
      have := f vs (SqL.mono s h1)
      rw [e1] at this
      cases this
      exact ⟨same_new hT, upd_tup_rep hT sp (RepL.cons (scV_rep rfl) (RepL.cons r RepL.nil))⟩
theorem enum_stepsT {K : PySem.W.Frag} {G P : Hp} {a : Addr} {vs : List V} {ds : List D} (h1 : SqT K G a vs) (h2 : RepL K P ds vs) : Steps K (IteT K a) G P (enumD ds) where
  go := fun i H s hi => ⟨vs, vs[i]'(by rw [h2.length]; simpa [enumD] using hi), SqT.mono s h1, List.getElem?_eq_getElem _⟩
  stop := fun i H s hi => ⟨vs, SqT.mono s h1, by rw [h2.length]; simpa [enumD] using hi⟩
  yld := fun i H x H' d s sp hd hy => by
    obtain ⟨T, v, rfl, hT, rfl, f⟩ := hy
    unfold enumD at hd
    rw [List.getElem?_mapIdx] at hd
    cases e : ds[i]? with
    | none => rw [e] at hd; cases hd
    | some d0 =>
      rw [e] at hd
      cases hd
      obtain ⟨u, e1, r⟩ := h2.get e
      have := f vs (SqT.mono s h1)
      rw [e1] at this
      cases this
      exact ⟨same_new hT, upd_tup_rep hT sp (RepL.cons (scV_rep rfl) (RepL.cons r RepL.nil))⟩
theorem di_enum {elts : List Expr} {kk : Nat} {p tpos : Pos} (hg : Gl X "enumerate") (hm : X.mg "enumerate" = none) (ha : DE X a f) (hs : starEach [a] X.env = [(false, eval a X.env)] := by rfl) (hs1 : starEach [a] X.env = (false, eval a X.env) :: starEach [] X.env := by rfl) :
    DI X (.Tuple elts kk tpos) (.Call (.Name "enumerate" p) [a] [] pos) (iEnumD f) := ⟨fun pins s σ H R I h => by
  obtain ⟨ρ, O, T, B, items, st, e1, q⟩ := h
  unfold iEnumD at e1
  cases ef : f ρ with
  | none => rw [ef] at e1; cases e1
  | some x =>
    obtain ⟨d, fl⟩ := x
    rw [ef, Option.bind_some] at e1
    cases es : seqE (d, fl) with
    | none => rw [es] at e1; cases e1
    | some ds0 =>
      rw [es, Option.map_some] at e1
      cases e1
      cases d with
      | lst ds =>
        refine (pi_enum hg hm (pa_cons ha pa_nil hs1) hs).run pins s σ H R I ⟨ρ, O, T, B, _, fl, st, ef, fun v H1 s1 r1 => ?_⟩
        obtain ⟨rfl, a, vs, rfl, h1, h2⟩ := r1.strict st s1 (is := ds0) es
        exact ⟨a, vs, rfl, SqL.mono Rst.same h1, q _ H1 s1 (enum_stepsL h1 h2)⟩
      | tup ds =>
        refine (pi_enumT hg hm (pa_cons ha pa_nil hs1) hs).run pins s σ H R I ⟨ρ, O, T, B, _, fl, st, ef, fun v H1 s1 r1 => ?_⟩
        unfold seqE at es
        simp only at es
        split at es
        · cases es
          have := r1.shared st s1 (by assumption)
          obtain ⟨a, vs, rfl, h1, h2⟩ := rep_tup this
          exact ⟨a, vs, rfl, SqT.mono Rst.same h1, q _ H1 s1 (enum_stepsT h1 h2)⟩
        · cases es
      | str z => cases es
      | non => cases es
      | bl _ => cases es
      | int _ => cases es
      | dic _ _ => cases es
      | wtp _ => cases es⟩
theorem di_enumC {elts : List Expr} {kk : Nat} {p tpos : Pos} (hg : Gl X "enumerate") (hm : X.mg "enumerate" = none) (ha : DE X a f) (hs : starEach [a] X.env = [(false, eval a X.env)] := by rfl) (hs1 : starEach [a] X.env = (false, eval a X.env) :: starEach [] X.env := by rfl) :
    DIc X (.Tuple elts kk tpos) (.Call (.Name "enumerate" p) [a] [] pos) (iEnumC f) := ⟨fun pins s σ H R I h => by
  obtain ⟨ρ, O, T, B, items, st, e1, q⟩ := h
  unfold iEnumC at e1
  cases ef : f ρ with
  | none => rw [ef] at e1; cases e1
  | some x =>
    obtain ⟨d, fl⟩ := x
    rw [ef, Option.bind_some] at e1
    simp only at e1
    split at e1
    · split at e1
      · cases e1
        refine (pi_enum hg hm (pa_cons ha pa_nil hs1) hs).run pins s σ H R I ⟨ρ, O, T, B, _, fl, st, ef, fun v H1 s1 r1 => ?_⟩
        obtain ⟨a, vs, rfl, h1, h2, h3⟩ := r1.items st s1
        exact ⟨a, vs, rfl, h1, q _ H1 s1 (enum_stepsL h1 (h3 (by assumption)))⟩
      · cases e1
    · split at e1
      · cases e1
        refine (pi_enumT hg hm (pa_cons ha pa_nil hs1) hs).run pins s σ H R I ⟨ρ, O, T, B, _, fl, st, ef, fun v H1 s1 r1 => ?_⟩
        have := r1.shared st s1 (by assumption)
        obtain ⟨a, vs, rfl, h1, h2⟩ := rep_tup this
        exact ⟨a, vs, rfl, SqT.mono Rst.same h1, q _ H1 s1 (enum_stepsT (SqT.mono Rst.same h1) h2)⟩
      · cases e1
    · cases e1⟩
end
end PF

set_option Elab.async false
set_option linter.all false
set_option maxRecDepth 100000
set_option maxHeartbeats 4000000
/-! PF10: zip, reversed, comprehensions. -/
namespace PF
open PySem PySem.Spec PyProof.Rows L2
section
variable {X : Cx} {tg a b : Expr} {f g : EF} {pos : Pos}

/-! ### zip of two lists, of two tuples -/
def zipD : List D → List D → List D := List.zipWith fun a b => .wtp [a, b]
inductive Two where
  | l (a b : List D) | t (a b : List D)
def Two.zip : Two → List D
  | .l a b => zipD a b
  | .t a b => zipD a b
/-- strict: no slot owns them; else their items are shared -/
def seqT (c : Bool) (x : DF) : Option (List D × Bool) := match x.1 with
  | .lst ds => if c then (if eshr (.lst ds) x.2 then some (ds, true) else none) else (seqS x).map fun ds => (ds, true)
  | .tup ds => if shr (.tup ds) x.2 then some (ds, false) else none
  | _ => none
def iZipF (c : Bool) (f g : EF) : IF := fun ρ => (f ρ).bind fun x => (g ρ).bind fun y => (seqT c x).bind fun p => (seqT c y).bind fun q => if p.2 = q.2 then some (zipD p.1 q.1) else none
theorem seqT_inv {c : Bool} {x : DF} {p : List D × Bool} (h : seqT c x = some p) : (x.1 = .lst p.1 ∧ p.2 = true ∧ (c = true → eshr x.1 x.2 = true) ∧ (c = false → seqS x = some p.1)) ∨ (x.1 = .tup p.1 ∧ p.2 = false ∧ shr x.1 x.2 = true) := by
  obtain ⟨d, fl⟩ := x
  unfold seqT at h
  simp only at h
  split at h
  · left
    split at h
    · split at h
      · cases h
        rename_i hc hs
        exact ⟨rfl, rfl, fun _ => hs, fun z => by rw [hc] at z; cases z⟩
      · cases h
    · rename_i hc
      rename_i ds
      cases es : seqS (.lst ds, fl) with
      | none => rw [es] at h; cases h
      | some is =>
        rw [es, Option.map_some] at h
        cases h
        have : is = ds := by
          unfold seqS at es
          simp only at es
          split at es <;> cases es <;> rfl
        subst this
        exact ⟨rfl, rfl, fun z => absurd z hc, fun _ => rfl⟩
  · right
    split at h
    · cases h
      exact ⟨rfl, rfl, by assumption⟩
    · cases h
  · cases h
theorem zip_get {ds es : List D} {i : Nat} {d : D} (h : (zipD ds es)[i]? = some d) : ∃ a b, ds[i]? = some a ∧ es[i]? = some b ∧ d = .wtp [a, b] := by
  unfold zipD at h
  rw [List.getElem?_zipWith] at h
  cases e1 : ds[i]? with
  | none => rw [e1] at h; simp at h
  | some a =>
    cases e2 : es[i]? with
    | none => rw [e1, e2] at h; simp at h
    | some b =>
      rw [e1, e2] at h
      simp at h
      exact ⟨a, b, rfl, rfl, h.symm⟩
theorem zip_len {ds es : List D} : (zipD ds es).length = min ds.length es.length := by unfold zipD; exact List.length_zipWith
theorem zip_stepsL {K : PySem.W.Frag} {G P : Hp} {a b : Addr} {vs us : List V} {ds es : List D} (h1 : SqL K G a vs) (h2 : RepL K P ds vs) (k1 : SqL K G b us) (k2 : RepL K P es us) : Steps K (Itz K a b) G P (zipD ds es) where
  go := fun i H s hi => by
    rw [zip_len] at hi
    exact ⟨vs, us, vs[i]'(by rw [h2.length]; omega), us[i]'(by rw [k2.length]; omega), SqL.mono s h1, SqL.mono s k1, List.getElem?_eq_getElem _, List.getElem?_eq_getElem _⟩
  stop := fun i H s hi => by
    rw [zip_len] at hi
    exact ⟨vs, us, SqL.mono s h1, SqL.mono s k1, by rw [h2.length, k2.length]; omega⟩
  yld := fun i H x H' d s sp hd hy => by
    obtain ⟨T, v, u, rfl, hT, rfl, f1, f2⟩ := hy
    obtain ⟨da, db, e1, e2, rfl⟩ := zip_get hd
    obtain ⟨v', e3, r1⟩ := h2.get e1
    obtain ⟨u', e4, r2⟩ := k2.get e2
    have q1 := f1 vs (SqL.mono s h1)
    have q2 := f2 us (SqL.mono s k1)
    rw [e3] at q1
    rw [e4] at q2
    cases q1
    cases q2
    exact ⟨same_new hT, upd_tup_rep hT sp (RepL.cons r1 (RepL.cons r2 RepL.nil))⟩
theorem zip_stepsT {K : PySem.W.Frag} {G P : Hp} {a b : Addr} {vs us : List V} {ds es : List D} (h1 : SqT K G a vs) (h2 : RepL K P ds vs) (k1 : SqT K G b us) (k2 : RepL K P es us) : Steps K (RZ.ItzT K a b) G P (zipD ds es) where
  go := fun i H s hi => by
    rw [zip_len] at hi
    exact ⟨vs, us, vs[i]'(by rw [h2.length]; omega), us[i]'(by rw [k2.length]; omega), SqT.mono s h1, SqT.mono s k1, List.getElem?_eq_getElem _, List.getElem?_eq_getElem _⟩
  stop := fun i H s hi => by
    rw [zip_len] at hi
    exact ⟨vs, us, SqT.mono s h1, SqT.mono s k1, by rw [h2.length, k2.length]; omega⟩
  yld := fun i H x H' d s sp hd hy => by
    obtain ⟨T, v, u, rfl, hT, rfl, f1, f2⟩ := hy
    obtain ⟨da, db, e1, e2, rfl⟩ := zip_get hd
    obtain ⟨v', e3, r1⟩ := h2.get e1
    obtain ⟨u', e4, r2⟩ := k2.get e2
    have q1 := f1 vs (SqT.mono s h1)
    have q2 := f2 us (SqT.mono s k1)
    rw [e3] at q1
    rw [e4] at q2
    cases q1
    cases q2
    exact ⟨same_new hT, upd_tup_rep hT sp (RepL.cons r1 (RepL.cons r2 RepL.nil))⟩
/-- the two flags: is the list itself in the shared part -/
theorem seq_at {K : PySem.W.Frag} {c : Bool} {H0 H : Hp} {σ : L2.St} {ρ : Env} {O : Nat → Addr → Prop} {T : Addr → Prop} {B : Hp} {x : DF} {p : List D × Bool} {v : V} (st : Sta K H0 σ ρ O T B) (s : Same H0 H) (r : Res K H0 H O T x.1 x.2 v) (h : seqT c x = some p) :
    ∃ a vs, v = .ref a ∧ RepL K (Rst H (Un O T)) p.1 vs ∧ (if p.2 = true then SqL K (if c then H else Rst H (Un O T)) a vs else SqT K (Rst H (Un O T)) a vs) := by
  obtain ⟨d, fl⟩ := x
  rcases seqT_inv h with ⟨e1, e2, e3, e4⟩ | ⟨e1, e2, e3⟩
  · simp only at e1
    subst e1
    simp only [e2, if_true]
    cases c with
    | true =>
      obtain ⟨a, vs, rfl, h1, h2, h3⟩ := r.items st s
      exact ⟨a, vs, rfl, h3 (e3 rfl), h1⟩
    | false =>
      obtain ⟨_, a, vs, rfl, h1, h2⟩ := Res.strict st s r (e4 rfl)
      exact ⟨a, vs, rfl, h2, h1⟩
  · simp only at e1
    subst e1
    simp only [e2, Bool.false_eq_true, if_false]
    have := r.shared st s e3
    obtain ⟨a, vs, rfl, h1, h2⟩ := rep_tup this
    exact ⟨a, vs, rfl, h2, h1⟩
theorem zip_of {K : PySem.W.Frag} {c : Bool} {σ : L2.St} {H : Hp} {R : It → Hp → Prop} (h : ∃ ρ O T B items, Sta K H σ ρ O T B ∧ iZipF c f g ρ = some items ∧ ∀ J H1, Same H H1 → Steps K J (if c then H1 else Rst H1 (Un O T)) (Rst H1 (Un O T)) items → R J H1) :
    RZ.iZipA K (tCons (tE K f) (tCons (tE K g) tNil)) σ H R := by
  obtain ⟨ρ, O, T, B, items, st, e1, q⟩ := h
  unfold iZipF at e1
  cases ef : f ρ with
  | none => rw [ef] at e1; cases e1
  | some x =>
    cases eg : g ρ with
    | none => rw [ef, Option.bind_some, eg] at e1; cases e1
    | some y =>
      rw [ef, Option.bind_some, eg, Option.bind_some] at e1
      cases ex : seqT c x with
      | none => rw [ex] at e1; cases e1
      | some p =>
        cases ey : seqT c y with
        | none => rw [ex, Option.bind_some, ey] at e1; cases e1
        | some p2 =>
          rw [ex, Option.bind_some, ey, Option.bind_some] at e1
          split at e1
          · rename_i hb
            cases e1
            refine ⟨ρ, O, T, B, x.1, x.2, st, ef, fun v H1 s1 r1 => ⟨ρ, O, T, B, y.1, y.2, st.mono s1, eg, fun u H2 s2 r2 => ?_⟩⟩
            obtain ⟨a, vs, rfl, h1, h2⟩ := seq_at st (s1.trans s2) (r1.mono s2) ex
            obtain ⟨b, us, rfl, k1, k2⟩ := seq_at (st.mono s1) s2 r2 ey
            refine ⟨a, b, vs, us, rfl, ?_⟩
            cases hp : p.2 with
            | true =>
              rw [hp, if_pos rfl] at h2
              rw [← hb, hp, if_pos rfl] at k2
              have big : Same (if c = true then H2 else Rst H2 (Un O T)) H2 := by
                cases c
                · exact Rst.same
                · exact Same.refl _
              exact .inl ⟨SqL.mono big h2, SqL.mono big k2, q _ H2 (s1.trans s2) (zip_stepsL h2 h1 k2 k1)⟩
            | false =>
              rw [hp, if_neg Bool.false_ne_true] at h2
              rw [← hb, hp, if_neg Bool.false_ne_true] at k2
              have big : Same (Rst H2 (Un O T)) (if c = true then H2 else Rst H2 (Un O T)) := by
                cases c
                · exact Same.refl _
                · exact Rst.same
              exact .inr ⟨SqT.mono Rst.same h2, SqT.mono Rst.same k2, q _ H2 (s1.trans s2) (zip_stepsT (SqT.mono big h2) h1 (SqT.mono big k2) k1)⟩
          · cases e1
theorem di_zip {elts : List Expr} {kk : Nat} {p tpos : Pos} (hg : Gl X "zip") (hm : X.mg "zip" = none) (ha : DE X a f) (hb : DE X b g) (hs : starEach [a, b] X.env = (false, eval a X.env) :: starEach [b] X.env := by rfl) (hs2 : starEach [b] X.env = (false, eval b X.env) :: starEach [] X.env := by rfl)
    (hpl : (backTo pos (starEach [b] X.env)).any (·.1) = false := by rfl) : DI X (.Tuple elts kk tpos) (.Call (.Name "zip" p) [a, b] [] pos) (iZipF false f g) :=
  (RZ.pi_zipA hg hm (pa_cons ha (pa_cons hb pa_nil hs2) hs) hs hpl).weak fun σ H R h => zip_of (c := false) h
theorem di_zipC {elts : List Expr} {kk : Nat} {p tpos : Pos} (hg : Gl X "zip") (hm : X.mg "zip" = none) (ha : DE X a f) (hb : DE X b g) (hs : starEach [a, b] X.env = (false, eval a X.env) :: starEach [b] X.env := by rfl) (hs2 : starEach [b] X.env = (false, eval b X.env) :: starEach [] X.env := by rfl)
    (hpl : (backTo pos (starEach [b] X.env)).any (·.1) = false := by rfl) : DIc X (.Tuple elts kk tpos) (.Call (.Name "zip" p) [a, b] [] pos) (iZipF true f g) :=
  (RZ.pi_zipA hg hm (pa_cons ha (pa_cons hb pa_nil hs2) hs) hs hpl).weak fun σ H R h => zip_of (c := true) h
end

/-! ### a comprehension's frame: its own slots unset -/
def wipeE (ρ : Env) : List Nat → Env
  | [] => ρ
  | v :: vs => (wipeE ρ vs).set v none
theorem wipeE_len (ρ : Env) : ∀ vs, (wipeE ρ vs).length = ρ.length
  | [] => rfl
  | v :: vs => by unfold wipeE; rw [List.length_set, wipeE_len ρ vs]
theorem wipeE_some {ρ : Env} {i : Nat} {x : Nat × D} : ∀ {vs : List Nat}, (wipeE ρ vs)[i]? = some (some x) → ρ[i]? = some (some x) ∧ i ∉ vs
  | [], h => ⟨h, by simp⟩
  | v :: vs, h => by
    unfold wipeE at h
    by_cases e : v = i
    · subst e
      rw [List.getElem?_set] at h
      split at h
      · split at h <;> cases h
      · exact absurd rfl (by assumption)
    · rw [List.getElem?_set_ne e] at h
      obtain ⟨h1, h2⟩ := wipeE_some h
      exact ⟨h1, by simp [h2, Ne.symm e]⟩
theorem wipe_keep {σ : L2.St} {i : Nat} : ∀ {vs : List Nat}, i ∉ vs → (wipe σ vs)[i]? = σ[i]?
  | [], _ => rfl
  | v :: vs, h => by
    unfold wipe
    rw [List.getElem?_set_ne fun e => h (by rw [e]; exact List.mem_cons_self)]
    exact wipe_keep fun e => h (List.mem_cons_of_mem _ e)
theorem Sta.wipe {K : PySem.W.Frag} {H : Hp} {σ : L2.St} {ρ : Env} {O : Nat → Addr → Prop} {T : Addr → Prop} {B : Hp} (st : Sta K H σ ρ O T B) (vs : List Nat) :
    ∃ O' T', Sta K H (L2.wipe σ vs) (wipeE ρ vs) O' T' B ∧ (∀ a, Un O' T' a ↔ Un O T a) ∧ (∀ j a, j ∈ vs → ¬ O' j a) := by
  refine ⟨fun i a => i ∉ vs ∧ O i a, fun a => T a ∨ ∃ i, i ∈ vs ∧ O i a, ?_, ?_, fun j a h q => q.1 h⟩
  · have hu : ∀ a, Un (fun i a => i ∉ vs ∧ O i a) (fun a => T a ∨ ∃ i, i ∈ vs ∧ O i a) a → Un O T a := fun a q => by
      rcases q with (q | ⟨i, _, q⟩) | ⟨i, _, q⟩
      · exact .inl q
      · exact .inr ⟨i, q⟩
      · exact .inr ⟨i, q⟩
    refine ⟨by rw [wipe_length, wipeE_len]; exact st.len, fun i k d e => ?_, fun i e a q => ?_, fun i j a q q' => st.dis i j a q.2 q'.2, fun i a q z => ?_, fun a q => ?_, st.base, fun i a q => st.baseO i a q.2⟩
    · obtain ⟨e1, e2⟩ := wipeE_some e
      obtain ⟨v, e3, w⟩ := st.slot i k d e1
      refine ⟨v, by rw [wipe_keep e2]; exact e3, ?_⟩
      refine (w.mono (Rst.sub hu) (fun _ _ _ e => e) fun a q => Rst.none (.inr ⟨i, e2, q⟩)).eqv fun a => ⟨fun q => q.2, fun q => ⟨e2, q⟩⟩
    · by_cases h : ∃ k d, ρ[i]? = some (some (k, d))
      · obtain ⟨k, d, h⟩ := h
        have : (wipeE ρ vs)[i]? = some (some (k, d)) := by
          have : ∀ {vs : List Nat}, i ∉ vs → (wipeE ρ vs)[i]? = ρ[i]? := fun {vs} => by
            induction vs with
            | nil => exact fun _ => rfl
            | cons v vs ih =>
              intro h
              unfold wipeE
              rw [List.getElem?_set_ne fun e => h (by rw [e]; exact List.mem_cons_self)]
              exact ih fun e => h (List.mem_cons_of_mem _ e)
          rw [this q.1]
          exact h
        exact e k d this
      · exact st.nil i (fun k d e' => h ⟨k, d, e'⟩) a q.2
    · rcases z with z | ⟨j, hj, z⟩
      · exact st.disT i a q.2 z
      · have := st.dis i j a q.2 z
        subst this
        exact q.1 hj
    · rcases q with q | ⟨j, hj, q⟩
      · exact st.allT a q
      · exact st.allO q
  · intro a
    constructor
    · rintro ((q | ⟨i, _, q⟩) | ⟨i, _, q⟩)
      · exact .inl q
      · exact .inr ⟨i, q⟩
      · exact .inr ⟨i, q⟩
    · rintro (q | ⟨i, q⟩)
      · exact .inl (.inl q)
      · by_cases h : i ∈ vs
        · exact .inl (.inr ⟨i, h, q⟩)
        · exact .inr ⟨i, h, q⟩

/-! ### a temporary's content is changed -/
theorem Sta.tempSet {K : PySem.W.Frag} {H : Hp} {σ : L2.St} {ρ : Env} {O : Nat → Addr → Prop} {T : Addr → Prop} {B : Hp} {d : Addr} {o : HO} (st : Sta K H σ ρ O T B) (h : T d) (so : SoftO o) (hB : B d = none) : Sta K (upd H d o) σ ρ O T B where
  len := st.len
  slot := fun i k e0 e => by
    obtain ⟨v, e1, w⟩ := st.slot i k e0 e
    refine ⟨v, e1, w.mono (fun a o' e2 => ?_) (fun a o' q e2 => ?_) fun a q => Rst.none (.inr ⟨i, q⟩)⟩
    · obtain ⟨n, e3⟩ := Rst.some e2
      rw [Rst.at n, upd_ne fun z => n (.inl (by rw [z]; exact h))]
      exact e3
    · rw [upd_ne fun z => st.disT i a q (by rw [z]; exact h)]
      exact e2
  nil := st.nil
  dis := st.dis
  disT := st.disT
  allT := fun a q => by
    by_cases e : a = d
    · rw [e]
      exact ⟨o, upd_same, so⟩
    · rw [upd_ne e]
      exact st.allT a q
  base := fun a o' e => by
    rw [upd_ne fun z => by rw [z, hB] at e; cases e]
    exact st.base _ _ e
  baseO := st.baseO
theorem wipe_ext {σ σ' : L2.St} {vs : List Nat} (hl : σ.length = σ'.length) (h : ∀ j, j ∉ vs → σ[j]? = σ'[j]?) : wipe σ vs = wipe σ' vs := by
  apply List.ext_getElem?
  intro j
  by_cases hj : j ∈ vs
  · have key : ∀ (τ : L2.St) (vs : List Nat), j ∈ vs → (wipe τ vs)[j]? = if j < τ.length then some none else none := fun τ vs => by
      induction vs with
      | nil => intro h; cases h
      | cons v vs ih =>
        intro hm
        unfold wipe
        rw [List.getElem?_set]
        by_cases e : v = j
        · subst e
          rw [if_pos rfl, wipe_length]
        · rw [if_neg e]
          exact ih ((List.mem_cons.mp hm).resolve_left fun z => e z.symm)
    rw [key σ vs hj, key σ' vs hj, hl]
  · rw [wipe_keep hj, wipe_keep hj]
    exact h j hj

/-! ### [e for target in it if t] -/
def compL (g : GF) (t : TF) (e : EF) (ρ : Env) : List D → Option (List DF)
  | [] => some []
  | d :: ds => (g d ρ).bind fun ρ1 => (t ρ1).bind fun k => if k = true then (e ρ1).bind fun x => (compL g t e ρ ds).map (x :: ·) else compL g t e ρ ds
def modeOf : List DF → Nat
  | (_, .fr (k + 1)) :: r => if r.all (fun x => match x.2 with
      | .fr m => m == k + 1
      | _ => false) then k + 1 else 0
  | _ => 0
def compR (xs : List DF) : Option DF := if xs.all (fun x => shr x.1 x.2) && decide (xs.length ≤ sizeLine) then some (.lst (xs.map (·.1)), .fr (modeOf xs + 1)) else none
def eLc (it : IF) (g : GF) (t : TF) (vs : List Nat) (e : EF) : EF := fun ρ => (it ρ).bind fun items => (compL g t e (wipeE ρ vs) items).bind compR
/-- what each element gives in the mode m -/
def Good (m : Nat) (x : DF) : Prop := (m = 0 ∧ shr x.1 x.2 = true) ∨ ∃ k, m = k + 1 ∧ x.2 = .fr (k + 1)
theorem good_of {xs : List DF} (h : xs.all (fun x => shr x.1 x.2) = true) : ∀ x ∈ xs, Good (modeOf xs) x := by
  unfold modeOf
  split
  · rename_i d k r
    split
    · rename_i hr
      intro x hx
      right
      refine ⟨k, rfl, ?_⟩
      rcases List.mem_cons.mp hx with rfl | hx
      · rfl
      · have := List.all_eq_true.mp hr x hx
        obtain ⟨dx, fx⟩ := x
        simp only at this
        cases fx with
        | fr m => simp at this; rw [this]
        | bo m => cases this
        | any => cases this
    · exact fun x hx => .inl ⟨rfl, List.all_eq_true.mp h x hx⟩
  · exact fun x hx => .inl ⟨rfl, List.all_eq_true.mp h x hx⟩
theorem Res.good {K : PySem.W.Frag} {H H' : Hp} {σ : L2.St} {ρ : Env} {O : Nat → Addr → Prop} {T : Addr → Prop} {B : Hp} {m : Nat} {x : DF} {v : V} (st : Sta K H σ ρ O T B) (s : Same H H') (r : Res K H H' O T x.1 x.2 v) (h : Good m x) :
    ∃ S : Addr → Prop, (∀ a, S a → H a = none) ∧ Own K (Rst H' (fun a => Un O T a ∨ S a)) H' m x.1 v S := by
  obtain ⟨d, fl⟩ := x
  rcases h with ⟨rfl, h⟩ | ⟨k, rfl, h⟩
  · have := Res.sh (H := H) (r.shared st s h)
    exact this
  · simp only at h
    subst h
    exact r
theorem Own.softO {K : PySem.W.Frag} {R H : Hp} {k : Nat} {d : D} {v : V} {S : Addr → Prop} (w : Own K R H k d v S) : ∀ a, S a → ∃ o, H a = some o ∧ SoftO o := fun a q => (w.soft a q).2
theorem softL {xs : List V} : SoftO (.lst xs) := ⟨fun _ z => (by cases z), fun _ _ z => (by cases z)⟩
theorem Sta.eqvT {K : PySem.W.Frag} {H : Hp} {σ : L2.St} {ρ : Env} {O : Nat → Addr → Prop} {T T' : Addr → Prop} {B : Hp} (h : ∀ a, T' a ↔ T a) (st : Sta K H σ ρ O T B) : Sta K H σ ρ O T' B := by
  have : T' = T := funext fun a => propext (h a)
  rw [this]
  exact st
theorem tLc_of {K : PySem.W.Frag} {it : IF} {g : GF} {is vs : List Nat} {t : TF} {e : EF} (his : ∀ i ∈ is, i ∈ vs) {σ : L2.St} {H : Hp} {Q : VK} (h : tE K (eLc it g t vs e) σ H Q) : tLc (tIc K it) (tG K g is) (tT K t) (tE K e) vs σ H Q := by
  obtain ⟨ρ, O, T, B, d, fl, st, e1, q⟩ := h
  unfold eLc at e1
  cases ei : it ρ with
  | none => rw [ei] at e1; cases e1
  | some items =>
    rw [ei, Option.bind_some] at e1
    cases ec : compL g t e (wipeE ρ vs) items with
    | none => rw [ec] at e1; cases e1
    | some xs =>
      rw [ec, Option.bind_some] at e1
      unfold compR at e1
      split at e1
      · rename_i hx
        rw [Bool.and_eq_true, decide_eq_true_eq] at hx
        cases e1
        have hg := good_of hx.1
        generalize modeOf xs = m at hg q
        refine ⟨ρ, O, T, B, items, st, ei, fun J H1 s1 J1 p hD => ?_⟩
        obtain ⟨Ow, Tw, st0, hU, hO⟩ := (st.mono s1).wipe vs
        have nD : ∀ a, Un Ow Tw a → a ≠ p := fun a q z => by
          obtain ⟨o, e2, _⟩ := (st.mono s1).allU ((hU a).mp q)
          rw [z, hD] at e2; cases e2
        have BD : B p = none := (st.mono s1).base.free hD
        let W : Nat → Nat → Hp → Prop := fun i mm H => ∃ (S : Addr → Prop) (done : List PF.D) (us : List V) (rest : List DF), Sta K H (wipe σ vs) (wipeE ρ vs) Ow (fun a => Tw a ∨ (a = p ∨ S a)) B ∧ H p = some (.lst us) ∧ (∀ a, S a → H1 a = none) ∧ ¬ S p ∧ Same H1 H ∧
          OwnL (Own K (Rst H (fun a => Un Ow Tw a ∨ (a = p ∨ S a))) H m) done us S ∧ compL g t e (wipeE ρ vs) (items.drop i) = some rest ∧ done ++ rest.map (·.1) = xs.map (·.1) ∧ (∀ x ∈ rest, Good m x) ∧ i + mm = items.length
        refine ⟨W, ⟨items.length, fun _ => False, [], [], xs, ?_, upd_same, fun a q => q.elim, id, same_new hD, ⟨rfl, fun a q => q⟩, ec, rfl, hg, Nat.zero_add _⟩, ?_⟩
        · have := st0.temp (S := fun a => a = p ∨ False) (same_new (o := .lst []) hD) (fun a q => by rcases q with q | q; rw [q]; exact hD; exact q.elim) fun a q => by
            rcases q with q | q
            · rw [q]; exact ⟨_, upd_same, softL⟩
            · exact q.elim
          exact this
        · rintro i mm H ⟨S, done, us, rest, stw, hDu, fS, nSD, s2, ow, er, ed, hgr, hm⟩
          have hul : us.length = done.length := (OwnL.repL' ow Rst.same).length
          by_cases hi : i < items.length
          · refine .inr ⟨J1.go i H s2 hi, W (i + 1) (mm - 1), fun H' w => ⟨mm - 1, by omega, w⟩, fun x H' hy => ?_⟩
            have sp : Same (Rst H1 (Un O T)) (Rst H (Un Ow (fun a => Tw a ∨ (a = p ∨ S a)))) := fun a o e2 => by
              obtain ⟨n, e3⟩ := Rst.some e2
              rw [Rst.at fun y => ?_]
              · exact s2 _ _ e3
              · rcases y with (y | y | y) | y
                · exact n ((hU a).mp (.inl y))
                · rw [y, hD] at e3; cases e3
                · rw [fS a y] at e3; cases e3
                · exact n ((hU a).mp (.inr y))
            obtain ⟨s3, r⟩ := J1.yld i H x H' items[i] s2 (sp.trans Rst.same) (List.getElem?_eq_getElem hi) hy
            rw [List.drop_eq_getElem_cons hi] at er
            unfold compL at er
            cases eg : g items[i] (wipeE ρ vs) with
            | none => rw [eg] at er; cases er
            | some ρ1 =>
              rw [eg, Option.bind_some] at er
              refine ⟨wipeE ρ vs, Ow, _, B, items[i], ρ1, stw.mono s3, Rep.mono (stw.over (H0 := H) sp s3) _ _ r, eg, fun σ2 O2 st2 k2 o2 => ⟨?_, ?_⟩⟩
              · refine wipe_ext (by rw [k2.1, wipe_length]) fun j hj => ?_
                rw [k2.2 j fun z => hj (his j z), wipe_keep hj]
              · cases et : t ρ1 with
                | none => rw [et] at er; cases er
                | some k =>
                  rw [et, Option.bind_some] at er
                  refine ⟨ρ1, O2, _, B, k, st2, et, fun H3 s4 => ?_⟩
                  have s34 := s3.trans s4
                  cases k with
                  | false =>
                    simp only [Bool.false_eq_true, if_false] at er ⊢
                    exact ⟨S, done, us, rest, stw.mono s34, s34 _ _ hDu, fS, nSD, s2.trans s34, ow.carry (Rst.mono s34) (fun b o _ e => s34 _ _ e) (fun b z => Rst.none (.inr (.inr z))), er, ed, hgr, by omega⟩
                  | true =>
                    simp only [if_true] at er ⊢
                    cases ee : e ρ1 with
                    | none => rw [ee] at er; cases er
                    | some x1 =>
                      rw [ee, Option.bind_some] at er
                      cases er2 : compL g t e (wipeE ρ vs) (items.drop (i + 1)) with
                      | none => rw [er2] at er; cases er
                      | some rest2 =>
                        rw [er2, Option.map_some] at er
                        cases er
                        refine ⟨ρ1, O2, _, B, x1.1, x1.2, st2.mono s4, ee, fun y H4 s5 r4 => ⟨us, s5 _ _ (s34 _ _ hDu), ?_, ?_⟩⟩
                        · have h1 := congrArg List.length ed
                          simp only [List.length_append, List.length_map, List.length_cons] at h1
                          have h2 := hx.2
                          omega
                        · obtain ⟨Sx, fx, wx⟩ := r4.good (st2.mono s4) s5 (hgr x1 List.mem_cons_self)
                          have s345 := s34.trans s5
                          have fxH : ∀ a, Sx a → H a = none := fun a z => s34.free (fx a z)
                          have nx : ¬ Sx p := fun z => by rw [fxH p z] at hDu; cases hDu
                          have ne : ∀ {b}, S b → b ≠ p := fun z y => nSD (by rw [← y]; exact z)
                          have hO2 : ∀ a, Un O2 (fun a => Tw a ∨ (a = p ∨ S a)) a ↔ Un Ow (fun a => Tw a ∨ (a = p ∨ S a)) a := fun a => by
                            constructor
                            · rintro (z | ⟨j, z⟩)
                              · exact .inl z
                              · exact .inr ⟨j, ((o2 j a).mp z).2⟩
                            · rintro (z | ⟨j, z⟩)
                              · exact .inl z
                              · exact .inr ⟨j, (o2 j a).mpr ⟨fun y => hO j a (his j y) z, z⟩⟩
                          refine ⟨fun a => S a ∨ Sx a, done ++ [x1.1], us ++ [y], rest2, ?_, upd_same, fun a z => z.elim (fS a) fun z => s2.free (fxH a z), fun z => z.elim nSD nx, fun a o e2 => ?_, OwnL.append ?_ ?_ ?_, er2, ?_, fun x hx => hgr x (List.mem_cons_of_mem _ hx), by omega⟩
                          · have a1 := stw.temp s345 fxH wx.softO
                            have a2 := a1.tempSet (d := p) (o := .lst (us ++ [y])) (.inl (.inr (.inl rfl))) softL BD
                            refine a2.eqvT fun a => ?_
                            constructor
                            · rintro (z | z | z | z)
                              · exact .inl (.inl z)
                              · exact .inl (.inr (.inl z))
                              · exact .inl (.inr (.inr z))
                              · exact .inr z
                            · rintro ((z | z | z) | z)
                              · exact .inl z
                              · exact .inr (.inl z)
                              · exact .inr (.inr (.inl z))
                              · exact .inr (.inr (.inr z))
                          · rw [upd_ne (ne_of_none e2 hD)]
                            exact s345 _ _ (s2 _ _ e2)
                          · refine ow.carry (fun a o e2 => ?_) (fun b o z e2 => ?_) fun b z => Rst.none (.inr (.inr (.inl z)))
                            · obtain ⟨n, e3⟩ := Rst.some e2
                              rw [Rst.at fun z => ?_]
                              · rw [upd_ne fun z => n (.inr (.inl z))]
                                exact s345 _ _ e3
                              · rcases z with z | z | z | z
                                · exact n (.inl z)
                                · exact n (.inr (.inl z))
                                · exact n (.inr (.inr z))
                                · rw [fxH a z] at e3; cases e3
                            · rw [upd_ne (ne z)]
                              exact s345 _ _ e2
                          · refine wx.mono (fun a o e2 => ?_) (fun b o z e2 => ?_) fun b z => Rst.none (.inr (.inr (.inr z)))
                            · obtain ⟨n, e3⟩ := Rst.some e2
                              rw [Rst.at fun z => ?_]
                              · rw [upd_ne fun z => n (.inl (.inl (.inr (.inl z))))]
                                exact e3
                              · rcases z with z | z | z | z
                                · refine n (.inl ((hO2 a).mpr ?_))
                                  rcases z with z | ⟨j, z⟩
                                  · exact .inl (.inl z)
                                  · exact .inr ⟨j, z⟩
                                · exact n (.inl (.inl (.inr (.inl z))))
                                · exact n (.inl (.inl (.inr (.inr z))))
                                · exact n (.inr z)
                            · rw [upd_ne fun y => nx (by rw [← y]; exact z)]
                              exact e2
                          · intro a z y
                            have := OwnL.at (P := Own K (Rst H (fun a => Un Ow Tw a ∨ (a = p ∨ S a))) H m) (C := fun c => ∃ o, H c = some o ∧ SoftO o) (fun d' v' S'' h' c mm => Own.softO h' c mm) ow a z
                            obtain ⟨o, e3, _⟩ := this
                            rw [fxH a y] at e3; cases e3
                          · rw [← ed, List.map_cons, List.append_assoc]
                            rfl
          · rw [List.drop_of_length_le (by omega)] at er
            unfold compL at er
            cases er
            rw [List.map_nil, List.append_nil] at ed
            subst ed
            refine .inl ⟨J1.stop i H s2 (by omega), q _ H (s1.trans s2) ⟨fun a => a = p ∨ S a, fun a z => ?_, p, S, rfl, nSD, fun b => Iff.rfl, Rst.none (.inr (.inl rfl)), .inl ⟨_, us, rfl, hDu, ow.carry (Rst.sub fun a z => ?_) (fun b o _ e => e) fun b z => Rst.none (.inr (.inr z))⟩⟩⟩
            · rcases z with z | z
              · rw [z]; exact s1.free hD
              · exact s1.free (fS a z)
            · exact z.elim (fun z => .inl ((hU a).mpr z)) .inr
      · cases e1
end PF

set_option Elab.async false
set_option linter.all false
set_option maxRecDepth 100000
set_option maxHeartbeats 4000000
/-! PF11: comprehensions as expressions, calls of defs, a def's promise. -/
namespace PF
open PySem PySem.Spec PyProof.Rows L2
section
variable {X : Cx} {tg iter elt : Expr} {ifs : List Expr} {scope : Scope} {own : List (Str × Nat)} {pos : Pos} {it : IF} {g : GF} {is : List Nat} {t : TF} {e : EF}
def tYesF : TF := fun _ => some true
theorem dts_nil : PTs X [] (tT X.K tYesF) := ⟨fun pins s σ H Q I ⟨ρ, O, T, B, b, st, e1, q⟩ => by
  unfold tYesF at e1
  cases e1
  exact pts_nil.run pins s σ H Q I (q H (Same.refl H))⟩
theorem dts_one {c : Expr} (h : DT X c t) : PTs X [c] (tT X.K t) := pts_one h
theorem de_lc (hc : X.calm = true) (hN : X.N.Nodup) (ok : BlkOk X.N X.env.scope scope own) (hi : DIc X tg iter it)
    (hg : ∀ (s : Shared) (H : Hp) (C : Addr) (cl : List (Str × Addr)) (fp : List Addr), DG (X.blk s H scope (compEnvC scope cl C X.env) fp) tg g is)
    (ht : ∀ (s : Shared) (H : Hp) (C : Addr) (cl : List (Str × Addr)) (fp : List Addr), PTs (X.blk s H scope (compEnvC scope cl C X.env) fp) ifs (tT X.K t))
    (he : ∀ (s : Shared) (H : Hp) (C : Addr) (cl : List (Str × Addr)) (fp : List Addr), DE (X.blk s H scope (compEnvC scope cl C X.env) fp) elt e) (his : ∀ i ∈ is, i ∈ own.map (·.2) := by decide) (hs : ∀ x, foldedSetIterable iter X.env x = pure x := by intro _; rfl) :
    DE X (.ListComp elt [⟨tg, iter, ifs, 0⟩] scope pos) (eLc it g t (own.map (·.2)) e) := (pe_lc (g := tG X.K g is) (te := tE X.K e) hc hN hi ok (fun s H C cl fp => hg s H C cl fp) ht (fun s H C cl fp => he s H C cl fp) hs).weak fun σ H Q h => tLc_of his h
/-- name = [..] on one line -/
theorem ds_setLc {i : Nat} {y : Str} {py spos : Pos} (hc : X.calm = true) (hN : X.N.Nodup) (hy : X.N[i]? = some y) (hyl : X.env.scope.names.lookup y = some .local)
    (hsw : swapsWith (.ListComp elt [⟨tg, iter, ifs, 0⟩] scope pos) (some (.Name y py)) spos.line X.env = pure true) (ok : BlkOk X.N X.env.scope scope own) (hi : DIc X tg iter it)
    (hg : ∀ (s : Shared) (H : Hp) (C : Addr) (cl : List (Str × Addr)) (fp : List Addr), DG (X.blk s H scope (compEnvC scope cl C X.env) fp) tg g is)
    (ht : ∀ (s : Shared) (H : Hp) (C : Addr) (cl : List (Str × Addr)) (fp : List Addr), PTs (X.blk s H scope (compEnvC scope cl C X.env) fp) ifs (tT X.K t))
    (he : ∀ (s : Shared) (H : Hp) (C : Addr) (cl : List (Str × Addr)) (fp : List Addr), DE (X.blk s H scope (compEnvC scope cl C X.env) fp) elt e) (his : ∀ i ∈ is, i ∈ own.map (·.2) := by decide) (hs : ∀ x, foldedSetIterable iter X.env x = pure x := by intro _; rfl) :
    DS X (.Assign [.Name y py] (.ListComp elt [⟨tg, iter, ifs, 0⟩] scope pos) spos) (sAsg i (eLc it g t (own.map (·.2)) e)) := (ps_setLc (g := tG X.K g is) (te := tE X.K e) hc hN hy hyl hsw hi ok (fun s H C cl fp => hg s H C cl fp) ht (fun s H C cl fp => he s H C cl fp) hs).weak fun D σ H h => tLc_of his (asg_fin h)
end

/-! ### defs -/
abbrev FF := List D → Option (D × Nat)
def spF (K : PySem.W.Frag) (n : Nat) (G : FF) : Sp := fun vs H Q _ => ∃ ds d k, RepL K H ds vs ∧ ds.length = n ∧ G ds = some (d, k) ∧ ∀ v H' S, Same H H' → (∀ a, S a → H a = none) → Own K (Rst H' S) H' k d v S → Q v H'
/-- a def of n parameters, N names -/
def fnF (n N : Nat) (b : SF) : FF := fun ds => match b (ds.map (fun d => some (0, d)) ++ List.replicate (N - n) none) with
  | some (.rt d k) => some (d, k)
  | some (.nx _) => some (.non, 0)
  | _ => none
/-- the frame at a def's entry -/
theorem Sta.start {K : PySem.W.Frag} {H : Hp} {N : List Str} {ds : List D} {vs : List V} (r : RepL K H ds vs) (hl : ds.length ≤ N.length) :
    Sta K H (L2.start N vs) (ds.map (fun d => some (0, d)) ++ List.replicate (N.length - ds.length) none) O0 T0 H where
  len := by
    unfold L2.start
    simp [r.length]
  slot := fun i k d e => by
    unfold L2.start
    have hi : i < ds.length := by
      by_cases h : i < ds.length
      · exact h
      · rw [List.getElem?_append_right (by simp; omega), List.getElem?_replicate] at e
        split at e <;> cases e
    rw [List.getElem?_append_left (by simpa using hi), List.getElem?_map, List.getElem?_eq_getElem hi] at e
    simp only [Option.map_some, Option.some.injEq, Prod.mk.injEq] at e
    obtain ⟨rfl, rfl⟩ := e
    obtain ⟨v, e1, r1⟩ := r.get (List.getElem?_eq_getElem hi)
    refine ⟨v, ?_, Rep.mono (fun b o e => ?_) _ _ r1, fun _ q => q⟩
    · rw [List.getElem?_append_left (by simp [r.length]; exact hi), List.getElem?_map, e1]
      rfl
    · rw [Rst.at fun q => q.elim id fun ⟨_, q⟩ => q]
      exact e
  nil := fun _ _ _ q => q
  dis := fun _ _ _ q => q.elim
  disT := fun _ _ q => q.elim
  allT := fun _ q => q.elim
  base := Same.refl H
  baseO := fun _ _ q => q.elim
/-- a def of the module, as it stands behind the top -/
def Has (K : PySem.W.Frag) (mg : Str → Option Value) (x : Str) (st : Stmt) (ps : List Str) : Prop := ∃ f fd, mg x = some (.ref f) ∧ Fun K x x st f fd ∧ Binds K fd ps []
/-- it computes G -/
def Ok (P : Program) (w : World) (K : PySem.W.Frag) (mg : Str → Option Value) (base : Heap) (k : Nat) (x : Str) (n : Nat) (G : FF) : Prop :=
  ∃ f fd ps, mg x = some (.ref f) ∧ PySem.W.keepIn K (.ref f) = true ∧ Binds K fd ps [] ∧ ps.length = n ∧ FnOk P w K mg base CX0 k f fd ps (spF K n G)
section
variable {P : Program} {w : World} {K : PySem.W.Frag} {mg : Str → Option Value} {base : Heap}
theorem fnok {x : Str} {st : Stmt} {N ps : List Str} {b : SF} {k : Nat} {f : Addr} {fd : FuncData} (F : Fun K x x st f fd) (S : FnScope N ps (defScope st))
    (hb : ∀ (f : Addr) (cdv : Value) (A : Around) (outer : List PySem.Env) (s : Shared) (H : Hp) (E : XK), Room k (A.deeper (envOfC x (defScope st) s.heap.objs.size f cdv)) → DSs (cxOf CX0 P w K mg base N x (defScope st) f cdv A outer s H E).nox (defBody st) b) :
    FnOk P w K mg base CX0 (k + 1) f fd ps (spF K ps.length (fnF ps.length N.length b)) := by
  refine F.ok S (fun vs H Q E h => ?_) fun cdv A outer s H vs Q E hr h => ?_
  · obtain ⟨ds, d, k, r, hl, _⟩ := h
    rw [r.length, hl]
  · obtain ⟨ds, d, m, r, hl, e, q⟩ := h
    refine ⟨_, hb f cdv A outer s H E hr, ?_⟩
    have hN : ps.length ≤ N.length := by
      have := congrArg List.length S.pre
      rw [List.length_take] at this
      omega
    have st0 := Sta.start (N := N) r (by omega)
    unfold fnF at e
    rw [hl] at st0
    cases eb : b (ds.map (fun d => some (0, d)) ++ List.replicate (N.length - ps.length) none) with
    | none => rw [eb] at e; cases e
    | some o =>
      rw [eb] at e
      refine ⟨_, O0, H, o, st0, eb, ?_⟩
      cases o with
      | nx ρ => cases e; exact fun σ H' O' st' => q .non H' (fun _ => False) st'.base (fun _ z => z.elim) ⟨by unfold Rep; rfl, fun _ z => z⟩
      | rt d' k' => cases e; exact q
      | bk ρ => cases e
      | ct ρ => cases e
theorem ok_fn {x : Str} {st : Stmt} {N ps : List Str} {b : SF} {k : Nat} (F : Has K mg x st ps) (S : FnScope N ps (defScope st))
    (hb : ∀ (f : Addr) (cdv : Value) (A : Around) (outer : List PySem.Env) (s : Shared) (H : Hp) (E : XK), Room k (A.deeper (envOfC x (defScope st) s.heap.objs.size f cdv)) → DSs (cxOf CX0 P w K mg base N x (defScope st) f cdv A outer s H E).nox (defBody st) b) :
    Ok P w K mg base (k + 1) x ps.length (fnF ps.length N.length b) := by
  obtain ⟨f, fd, hm, F, B⟩ := F
  exact ⟨f, fd, ps, hm, F.kp, B, rfl, fnok F S hb⟩
theorem Ok.mono {x : Str} {n j k : Nat} {G : FF} (o : Ok P w K mg base j x n G) (h : j ≤ k) : Ok P w K mg base k x n G := by
  obtain ⟨f, fd, ps, hm, kp, B, hl, F⟩ := o
  exact ⟨f, fd, ps, hm, kp, B, hl, F.mono h⟩
/-- nothing is told of it -/
theorem ok_none {x : Str} {st : Stmt} {ps : List Str} {k : Nat} (F : Has K mg x st ps) : Ok P w K mg base k x ps.length (fun _ => none) := by
  obtain ⟨f, fd, hm, F, B⟩ := F
  refine ⟨f, fd, ps, hm, F.kp, B, rfl, fun vs H Q E h => ?_, fun A outer s H args us vs Q E _ _ _ _ h => ?_⟩
  · obtain ⟨ds, d, k, r, hl, e, _⟩ := h
    cases e
  · obtain ⟨ds, d, k, r, hl, e, _⟩ := h
    cases e
end

/-! ### calls -/
def puBelow : Nat → D → Bool
  | 0, d => puD d
  | k + 1, .lst ds => ds.all (puBelow k)
  | k + 1, .dic _ kvs => (kvs.map (·.2)).all (puBelow k)
  | _, _ => false
theorem OwnL.pu {K : PySem.W.Frag} {R R' H : Hp} {k : Nat} (ih : ∀ {d : D} {v : V} {S : Addr → Prop}, puBelow k d = true → (∀ a, S a → R' a = none) → Own K R H k d v S → Own K R' H k d v S) :
    ∀ {ds : List D} {vs : List V} {S : Addr → Prop}, ds.all (puBelow k) = true → (∀ a, S a → R' a = none) → OwnL (Own K R H k) ds vs S → OwnL (Own K R' H k) ds vs S
  | [], vs, S, _, _, h => h
  | d :: ds, vs, S, hp, z, h => by
    obtain ⟨v, vr, S1, S2, rfl, h1, h2, h3, h4⟩ := h
    rw [List.all_cons, Bool.and_eq_true] at hp
    exact ⟨v, vr, S1, S2, rfl, ih hp.1 (fun a q => z a ((h3 a).mpr (.inl q))) h1, OwnL.pu ih hp.2 (fun a q => z a ((h3 a).mpr (.inr q))) h2, h3, h4⟩
theorem Own.pu {K : PySem.W.Frag} {R R' H : Hp} (hr : ∀ d v, puD d = true → Rep K R d v → Rep K R' d v) : ∀ {k : Nat} {d : D} {v : V} {S : Addr → Prop}, puBelow k d = true → (∀ a, S a → R' a = none) → Own K R H k d v S → Own K R' H k d v S := fun {k} => by
  induction k with
  | zero => exact fun hp z h => ⟨hr _ _ hp h.1, h.2⟩
  | succ k ih =>
    intro d v S hp z h
    obtain ⟨a, S', rfl, na, hs, ra, h⟩ := h
    have z' : ∀ b, S' b → R' b = none := fun b q => z b ((hs b).mpr (.inr q))
    refine ⟨a, S', rfl, na, hs, z a ((hs a).mpr (.inl rfl)), ?_⟩
    rcases h with ⟨ds, vs, rfl, e2, e3⟩ | ⟨kvs, ks, rfl, e2, e4, e3⟩ | ⟨kvs, ks, rfl, e2, e4, e3⟩
    · exact .inl ⟨ds, vs, rfl, e2, OwnL.pu (fun {d v S} => ih (d := d) (v := v) (S := S)) hp z' e3⟩
    · exact .inr (.inl ⟨kvs, ks, rfl, e2, e4, OwnL.pu (fun {d v S} => ih (d := d) (v := v) (S := S)) hp z' e3⟩)
    · exact .inr (.inr ⟨kvs, ks, rfl, e2, e4, OwnL.pu (fun {d v S} => ih (d := d) (v := v) (S := S)) hp z' e3⟩)
def callFl (d : D) (k : Nat) : Fl := if puBelow k d then .fr k else .any
def eCall (G : FF) (a : AF) : EF := fun ρ => (a ρ).bind fun y => (G y.1).bind fun r => some (r.1, callFl r.1 r.2)
section
variable {X : Cx}
theorem tCall_of {G : FF} {a : AF} {n : Nat} {E : XK} {σ : L2.St} {H : Hp} {Q : VK} (hn : ∀ ρ y, a ρ = some y → y.1.length = n) (h : tE X.K (eCall G a) σ H Q) : tCall (spF X.K n G) [] E (tA X.K a) σ H Q := by
  obtain ⟨ρ, O, T, B, d, fl, st, e1, q⟩ := h
  unfold eCall at e1
  cases ea : a ρ with
  | none => rw [ea] at e1; cases e1
  | some y =>
    obtain ⟨ds, b⟩ := y
    rw [ea, Option.bind_some] at e1
    cases eg : G ds with
    | none => simp only [eg] at e1; cases e1
    | some r =>
      obtain ⟨d', k⟩ := r
      simp only [eg, Option.bind_some] at e1
      cases e1
      refine ⟨ρ, O, T, B, ds, b, st, ea, fun vs H1 s1 r1 => ?_⟩
      show spF X.K n G (vs ++ []) H1 Q E
      rw [List.append_nil]
      refine ⟨ds, d, k, r1.1, hn ρ _ ea, eg, fun v H2 S s2 fS w => q v H2 (s1.trans s2) ?_⟩
      unfold callFl
      split
      · rename_i hp
        refine ⟨S, fun a z => s1.free (fS a z), ?_⟩
        have st2 := (st.mono s1).mono s2
        refine Own.pu (fun d0 v0 hp0 r0 => ?_) hp (fun a z => Rst.none (.inr z)) w
        have := Rep.rst (S := Un O T) (fun a o e z => ?_) d0 v0 hp0 r0
        · refine Rep.mono (fun a o e => ?_) d0 v0 this
          obtain ⟨n1, e2⟩ := Rst.some e
          obtain ⟨n2, e3⟩ := Rst.some e2
          rw [Rst.at fun z => z.elim n1 n2]
          exact e3
        · obtain ⟨o', e', so⟩ := st2.allU z
          obtain ⟨_, e3⟩ := Rst.some e
          rw [e'] at e3
          cases e3
          exact so
      · exact w.rep Rst.same fun _ _ _ e => e
theorem aCons_len {f : EF} {g : AF} {n : Nat} (h : ∀ ρ y, g ρ = some y → y.1.length = n) : ∀ ρ y, aCons f g ρ = some y → y.1.length = n + 1 := fun ρ y e => by
  unfold aCons at e
  cases ef : f ρ with
  | none => rw [ef] at e; cases e
  | some x =>
    cases eg : g ρ with
    | none => rw [ef, Option.bind_some, eg] at e; cases e
    | some z =>
      rw [ef, Option.bind_some, eg, Option.bind_some] at e
      cases e
      simp [h ρ z eg]
theorem aNil_len : ∀ ρ y, aNil ρ = some y → y.1.length = 0 := fun ρ y e => by
  unfold aNil at e
  cases e
  rfl
theorem de_call {x : Str} {p pos : Pos} {e : Expr} {es : List Expr} {k j n : Nat} {G : FF} {a : AF} (c : Ok X.prog X.w X.K X.mg X.base k x n G) (hr : Room j X.A) (hk : k ≤ j) (hg : Gl X x) (ha : DA X (e :: es) a) (hn : ∀ ρ y, a ρ = some y → y.1.length = n)
    (hdb : (x == ("__debug__" : Str)) = false := by decide) (he : starEach (e :: es) X.env = (false, eval e X.env) :: starEach es X.env := by rfl) (hpl : (backTo pos (starEach es X.env)).any (·.1) = false := by rfl) :
    DE X (.Call (.Name x p) (e :: es) [] pos) (eCall G a) := by
  obtain ⟨f, fd, ps, hm, kp, B, hl, F⟩ := c
  exact (pe_call F (hr.mono hk) hg hm kp B .nil pass0 ha hdb he hpl).weak fun σ H Q h => tCall_of hn h
end
end PF

set_option Elab.async false
set_option linter.all false
set_option maxRecDepth 100000
set_option maxHeartbeats 4000000
/-! PF12: dicts. -/
namespace PF
open PySem PySem.Spec PyProof.Rows L2

/-! ### dicts as lists of pairs -/
def dGet : List (D × D) → D → Option D
  | [], _ => none
  | (a, b) :: r, k => if deq a k then some b else dGet r k
def dHas (kvs : List (D × D)) (k : D) : Bool := kvs.any fun p => deq p.1 k
def dPut (kvs : List (D × D)) (k v : D) : List (D × D) := if dHas kvs k then kvs.map (fun p => if deq p.1 k then (p.1, v) else p) else kvs ++ [(k, v)]
theorem keyOf_deq {a b : D} {k l : Key} (ha : keyOf a = some k) (hb : keyOf b = some l) : deq a b = decide (k = l) := by
  cases a <;> simp [keyOf] at ha <;> subst ha <;> cases b <;> simp [keyOf] at hb <;> subst hb <;> simp [deq]
theorem keysOf_deq : ∀ {a b : List D} {k l : List Key}, keysOf a = some k → keysOf b = some l → deqL a b = decide (k = l)
  | [], [], k, l, ha, hb => by cases ha; cases hb; simp [deqL]
  | [], y :: b, k, l, ha, hb => by
    cases ha
    unfold keysOf at hb
    split at hb <;> cases hb
    simp [deqL]
  | x :: a, [], k, l, ha, hb => by
    cases hb
    unfold keysOf at ha
    split at ha <;> cases ha
    simp [deqL]
  | x :: a, y :: b, k, l, ha, hb => by
    unfold keysOf at ha hb
    split at ha
    · rename_i k1 ks e1 e2
      cases ha
      split at hb
      · rename_i l1 ls e3 e4
        cases hb
        unfold deqL
        rw [keyOf_deq e1 e3, keysOf_deq e2 e4]
        by_cases h1 : k1 = l1 <;> by_cases h2 : ks = ls <;> simp [h1, h2]
      · cases hb
    · cases ha
theorem tkeyOf_deq {a b : D} {k l : List Key} (ha : tkeyOf a = some k) (hb : tkeyOf b = some l) : deq a b = decide (k = l) := by
  cases a <;> simp [tkeyOf] at ha <;> cases b <;> simp [tkeyOf] at hb
  unfold deq
  exact keysOf_deq ha hb
theorem keyOf_rep {K : PySem.W.Frag} {H : Hp} {d : D} {v : V} {k : Key} (h : keyOf d = some k) (r : Rep K H d v) : v = kV k := by
  cases d <;> simp [keyOf] at h <;> subst h <;> unfold Rep at r <;> exact r
theorem RepK.inv {K : PySem.W.Frag} {H : Hp} : ∀ {kvs : List (D × D)} {ks : List (Key × V)}, RepK K H kvs ks → kvs.map (fun p => keyOf p.1) = ks.map (fun p => some p.1) ∧ RepL K H (kvs.map (·.2)) (ks.map (·.2))
  | [], ks, h => by unfold RepK at h; subst h; exact ⟨rfl, RepL.nil⟩
  | (k, d) :: r, ks, h => by
    unfold RepK at h
    obtain ⟨k', v, kr, rfl, h1, h2⟩ := h
    unfold RepP at h1
    obtain ⟨a, b⟩ := RepK.inv h2
    exact ⟨by simp only [List.map_cons, a, h1.1], RepL.cons h1.2 b⟩
theorem RepT.inv {K : PySem.W.Frag} {H : Hp} : ∀ {kvs : List (D × D)} {ks : List (List Key × V)}, RepT K H kvs ks → kvs.map (fun p => tkeyOf p.1) = ks.map (fun p => some p.1) ∧ RepL K H (kvs.map (·.2)) (ks.map (·.2))
  | [], ks, h => by unfold RepT at h; subst h; exact ⟨rfl, RepL.nil⟩
  | (k, d) :: r, ks, h => by
    unfold RepT at h
    obtain ⟨k', v, kr, rfl, h1, h2⟩ := h
    unfold RepQ at h1
    obtain ⟨a, b⟩ := RepT.inv h2
    exact ⟨by simp only [List.map_cons, a, h1.1], RepL.cons h1.2 b⟩
/-- the values may be shared -/
def eshrD (kvs : List (D × D)) : Fl → Bool
  | .fr _ => true
  | .bo 0 => true
  | .bo 1 => true
  | _ => puL (kvs.map (·.2))
section
variable {K : PySem.W.Frag} {H H1 H' : Hp} {σ : L2.St} {ρ : Env} {O : Nat → Addr → Prop} {T : Addr → Prop} {B : Hp} {fl : Fl} {v : V}
/-- a dict: how it lies -/
def DicAt (K : PySem.W.Frag) (H' R : Hp) (sh : Bool) (t : DK) (kvs : List (D × D)) (a : Addr) : Prop :=
  (t = .k ∧ ∃ ks : List (Key × V), Rd H' a (.dK ks) ∧ kvs.map (fun p => keyOf p.1) = ks.map (fun p => some p.1) ∧ RepL K H' (kvs.map (·.2)) (ks.map (·.2)) ∧ (sh = true → RepL K R (kvs.map (·.2)) (ks.map (·.2)))) ∨
  (t = .t ∧ ∃ ks : List (List Key × V), Rd H' a (.dT ks) ∧ kvs.map (fun p => tkeyOf p.1) = ks.map (fun p => some p.1) ∧ RepL K H' (kvs.map (·.2)) (ks.map (·.2)) ∧ (sh = true → RepL K R (kvs.map (·.2)) (ks.map (·.2))))
theorem Res.dic {t : DK} {kvs : List (D × D)} (st : Sta K H σ ρ O T B) (s : Same H H') (r : Res K H H' O T (.dic t kvs) fl v) : ∃ a, v = .ref a ∧ DicAt K H' (Rst H' (Un O T)) (eshrD kvs fl) t kvs a := by
  have all : ∀ R, Same R H' → Rep K R (.dic t kvs) v → ∃ a, v = .ref a ∧ ((t = .k ∧ ∃ ks : List (Key × V), Rd H' a (.dK ks) ∧ kvs.map (fun p => keyOf p.1) = ks.map (fun p => some p.1) ∧ RepL K R (kvs.map (·.2)) (ks.map (·.2))) ∨
      (t = .t ∧ ∃ ks : List (List Key × V), Rd H' a (.dT ks) ∧ kvs.map (fun p => tkeyOf p.1) = ks.map (fun p => some p.1) ∧ RepL K R (kvs.map (·.2)) (ks.map (·.2)))) := fun R sR u => by
    unfold Rep at u
    obtain ⟨a, rfl, ⟨ht, ks, h1, h2⟩ | ⟨ht, ks, h1, h2⟩⟩ := u
    · exact ⟨a, rfl, .inl ⟨ht, ks, Rd.mono sR h1, h2.inv.1, h2.inv.2⟩⟩
    · exact ⟨a, rfl, .inr ⟨ht, ks, Rd.mono sR h1, h2.inv.1, h2.inv.2⟩⟩
  have fromR : Rep K (Rst H' (Un O T)) (.dic t kvs) v → ∃ a, v = .ref a ∧ DicAt K H' (Rst H' (Un O T)) (eshrD kvs fl) t kvs a := fun u => by
    obtain ⟨a, e, ⟨ht, ks, h1, h2, h3⟩ | ⟨ht, ks, h1, h2, h3⟩⟩ := all _ Rst.same u
    · exact ⟨a, e, .inl ⟨ht, ks, h1, h2, RepL.mono Rst.same _ _ h3, fun _ => h3⟩⟩
    · exact ⟨a, e, .inr ⟨ht, ks, h1, h2, RepL.mono Rst.same _ _ h3, fun _ => h3⟩⟩
  have plain : (eshrD kvs fl = true → puL (kvs.map (·.2)) = true) → ∃ a, v = .ref a ∧ DicAt K H' (Rst H' (Un O T)) (eshrD kvs fl) t kvs a := fun hp => by
    obtain ⟨a, e, ⟨ht, ks, h1, h2, h3⟩ | ⟨ht, ks, h1, h2, h3⟩⟩ := all _ (Same.refl _) r.rep
    · exact ⟨a, e, .inl ⟨ht, ks, h1, h2, h3, fun h => RepL.rst (st.soft s) _ _ (hp h) h3⟩⟩
    · exact ⟨a, e, .inr ⟨ht, ks, h1, h2, h3, fun h => RepL.rst (st.soft s) _ _ (hp h) h3⟩⟩
  cases fl with
  | any => exact plain id
  | fr k => exact fromR (r.shared st s rfl)
  | bo k =>
    cases k with
    | zero => exact fromR (r.shared st s rfl)
    | succ k =>
      cases k with
      | succ k => exact plain id
      | zero =>
        obtain ⟨S, f, a, S', rfl, na, hs, ra, w⟩ := r
        rcases w with ⟨ds', vs, e1, _⟩ | ⟨kvs', ks, e1, e2, e4, e3⟩ | ⟨kvs', ks, e1, e2, e4, e3⟩
        · cases e1
        · cases e1
          have h3 := (OwnL.zero.mp e3).1
          exact ⟨a, rfl, .inl ⟨rfl, ks, .inl e2, e4, RepL.mono Rst.same _ _ h3, fun _ => h3⟩⟩
        · cases e1
          have h3 := (OwnL.zero.mp e3).1
          exact ⟨a, rfl, .inr ⟨rfl, ks, .inl e2, e4, RepL.mono Rst.same _ _ h3, fun _ => h3⟩⟩
/-- look-up, side by side -/
theorem look_k {R : Hp} {k : D} {kk : Key} (hk : keyOf k = some kk) : ∀ {kvs : List (D × D)} {ks : List (Key × V)}, kvs.map (fun p => keyOf p.1) = ks.map (fun p => some p.1) → RepL K R (kvs.map (·.2)) (ks.map (·.2)) →
    match dGet kvs k with
    | some d => ∃ v, valV ks kk = some v ∧ Rep K R d v
    | none => valV ks kk = none
  | [], [], _, _ => valV_nil
  | [], _ :: _, h, _ => by simp at h
  | _ :: _, [], h, _ => by simp at h
  | (a, b) :: r, (c, v) :: kr, h, h2 => by
    simp only [List.map_cons, List.cons.injEq] at h
    obtain ⟨v0, vr, e, r1, r2⟩ := h2.cons_inv
    simp only [List.map_cons, List.cons.injEq] at e
    obtain ⟨rfl, e⟩ := e
    unfold dGet
    rw [keyOf_deq h.1 hk]
    by_cases hc : c = kk
    · simp only [hc, decide_true, if_true]
      exact ⟨v, valV_pos rfl, r1⟩
    · simp only [hc, decide_false, Bool.false_eq_true, if_false]
      have := look_k hk h.2 (by rw [e]; exact r2)
      rw [valV_neg (p := (c, v)) hc]
      exact this
theorem look_t {R : Hp} {k : D} {kk : List Key} (hk : tkeyOf k = some kk) : ∀ {kvs : List (D × D)} {ks : List (List Key × V)}, kvs.map (fun p => tkeyOf p.1) = ks.map (fun p => some p.1) → RepL K R (kvs.map (·.2)) (ks.map (·.2)) →
    match dGet kvs k with
    | some d => ∃ v, valV ks kk = some v ∧ Rep K R d v
    | none => valV ks kk = none
  | [], [], _, _ => valV_nil
  | [], _ :: _, h, _ => by simp at h
  | _ :: _, [], h, _ => by simp at h
  | (a, b) :: r, (c, v) :: kr, h, h2 => by
    simp only [List.map_cons, List.cons.injEq] at h
    obtain ⟨v0, vr, e, r1, r2⟩ := h2.cons_inv
    simp only [List.map_cons, List.cons.injEq] at e
    obtain ⟨rfl, e⟩ := e
    unfold dGet
    rw [tkeyOf_deq h.1 hk]
    by_cases hc : c = kk
    · simp only [hc, decide_true, if_true]
      exact ⟨v, valV_pos rfl, r1⟩
    · simp only [hc, decide_false, Bool.false_eq_true, if_false]
      have := look_t hk h.2 (by rw [e]; exact r2)
      rw [valV_neg (p := (c, v)) hc]
      exact this
/-- a key's tuple is tracked as it stands -/
theorem keysOf_rep {R : Hp} : ∀ {ds : List D} {vs : List V} {ks : List Key}, keysOf ds = some ks → RepL K R ds vs → vs = ks.map kV
  | [], vs, ks, h, r => by cases h; exact r.nil_inv
  | d :: ds, vs, ks, h, r => by
    obtain ⟨v, vr, rfl, r1, r2⟩ := r.cons_inv
    unfold keysOf at h
    split at h
    · rename_i k1 kr e1 e2
      cases h
      rw [keyOf_rep e1 r1, keysOf_rep e2 r2]
      rfl
    · cases h
/-- the look-up: the kind of the key fits -/
def keyFit : DK → D → Bool
  | .k, k => (keyOf k).isSome
  | .t, k => !mB && (tkeyOf k).isSome
  | .n, _ => false
theorem tkey_rep (hm : mB = false) {R : Hp} {k : D} {kk : List Key} {v : V} (h : tkeyOf k = some kk) (r : Rep K R k v) : ∃ b, v = .ref b ∧ R b = some (.tup (kk.map kV)) := by
  cases k <;> simp [tkeyOf] at h
  obtain ⟨b, vs, rfl, h1, h2⟩ := rep_tupX r
  rw [keysOf_rep h h2] at h1
  exact ⟨b, rfl, h1.tup hm⟩
/-- what a[k] gives, from the dict as it lay in an earlier heap -/
theorem DicAt.get {R R2 : Hp} {sh : Bool} {t : DK} {kvs : List (D × D)} {a : Addr} {k : D} {u : V} (h : DicAt K H' R sh t kvs a) (s : Same H' H1) (sr : Same R R2) (hf : keyFit t k = true) (r : Rep K H1 k u) :
    match dGet kvs k with
    | some d => ∃ w, DGet H1 a u (some w) ∧ Rep K H1 d w ∧ (sh = true → Rep K R2 d w)
    | none => DGet H1 a u none := by
  rcases h with ⟨rfl, ks, h1, h2, h3, h4⟩ | ⟨rfl, ks, h1, h2, h3, h4⟩
  · unfold keyFit at hf
    obtain ⟨kk, hk⟩ := Option.isSome_iff_exists.mp hf
    have e := keyOf_rep hk r
    have l1 := look_k hk h2 h3
    have l2 : sh = true → match dGet kvs k with
        | some d => ∃ v, valV ks kk = some v ∧ Rep K R d v
        | none => valV ks kk = none := fun hs => look_k hk h2 (h4 hs)
    cases ed : dGet kvs k with
    | none =>
      rw [ed] at l1
      exact .inl ⟨ks, kk, Rd.mono s h1, e, l1.symm⟩
    | some d =>
      rw [ed] at l1 l2
      obtain ⟨w, e1, r1⟩ := l1
      refine ⟨w, .inl ⟨ks, kk, Rd.mono s h1, e, e1.symm⟩, Rep.mono s _ _ r1, fun hs => ?_⟩
      obtain ⟨w', e2, r2⟩ := l2 hs
      rw [e1] at e2
      cases e2
      exact Rep.mono sr _ _ r2
  · unfold keyFit at hf
    rw [Bool.and_eq_true, Bool.not_eq_true'] at hf
    obtain ⟨kk, hk⟩ := Option.isSome_iff_exists.mp hf.2
    obtain ⟨b, e, hb⟩ := tkey_rep hf.1 hk r
    have l1 := look_t hk h2 h3
    have l2 : sh = true → match dGet kvs k with
        | some d => ∃ v, valV ks kk = some v ∧ Rep K R d v
        | none => valV ks kk = none := fun hs => look_t hk h2 (h4 hs)
    cases ed : dGet kvs k with
    | none =>
      rw [ed] at l1
      exact .inr ⟨ks, kk, b, Rd.mono s h1, e, hb, l1.symm⟩
    | some d =>
      rw [ed] at l1 l2
      obtain ⟨w, e1, r1⟩ := l1
      refine ⟨w, .inr ⟨ks, kk, b, Rd.mono s h1, e, hb, e1.symm⟩, Rep.mono s _ _ r1, fun hs => ?_⟩
      obtain ⟨w', e2, r2⟩ := l2 hs
      rw [e1] at e2
      cases e2
      exact Rep.mono sr _ _ r2
theorem DicAt.isD {R : Hp} {sh : Bool} {t : DK} {kvs : List (D × D)} {a : Addr} (h : DicAt K H' R sh t kvs a) : IsD H' a := by
  rcases h with ⟨rfl, ks, h1, _⟩ | ⟨rfl, ks, h1, _⟩
  · exact .inl ⟨ks, h1⟩
  · exact .inr ⟨ks, h1⟩
end
def valFl (sh : Bool) (d : D) : Fl := if sh || puD d then .fr 0 else .any
/-- d[k] -/
def eDItem (x y : DF) : Option DF := match x.1 with
  | .dic t kvs => if keyFit t y.1 then (dGet kvs y.1).map fun d => (d, valFl (eshrD kvs x.2) d) else none
  | _ => none
/-- d.get(k, z) -/
def eDGetF (x y z : DF) : Option DF := match x.1 with
  | .dic t kvs => if keyFit t y.1 then match dGet kvs y.1 with
      | some d => some (d, valFl (eshrD kvs x.2) d)
      | none => some z
    else none
  | _ => none
def eDGet2 (f g h : EF) : EF := fun ρ => (f ρ).bind fun x => (g ρ).bind fun y => (h ρ).bind fun z => eDGetF x y z
def eDGet1 (f g : EF) : EF := fun ρ => (f ρ).bind fun x => (g ρ).bind fun y => eDGetF x y (.non, .fr 0)
theorem valRes {K : PySem.W.Frag} {H0 H : Hp} {σ : L2.St} {ρ : Env} {O : Nat → Addr → Prop} {T : Addr → Prop} {B : Hp} (st : Sta K H0 σ ρ O T B) (s : Same H0 H) {sh : Bool} {d : D} {w : V} (r1 : Rep K H d w) (r2 : sh = true → Rep K (Rst H (Un O T)) d w) : Res K H0 H O T d (valFl sh d) w := by
  unfold valFl
  split
  · rename_i h
    cases sh with
    | true => exact Res.sh (r2 rfl)
    | false => exact Res.sh (Rep.rst (st.soft s) _ _ (by simpa using h) r1)
  · exact r1
section
variable {X : Cx} {o i e1 e2 : Expr} {f g h : EF} {pos apos cpos : Pos}
theorem de_ditem (hu : X.A.units + 1 < cLine) (ho : DE X o f) (hi : DE X i g) (hs : NoSl i := by exact fun _ _ => rfl) : DE X (.Subscript o i pos) (eOp eDItem f g) := (pe_dget hu ho hi hs).weak fun σ H Q ⟨ρ, O, T, B, d, fl, st, e0, q⟩ => by
  unfold eOp at e0
  cases ef : f ρ with
  | none => rw [ef] at e0; cases e0
  | some x =>
    obtain ⟨dx, fx⟩ := x
    cases eg : g ρ with
    | none => rw [ef, Option.bind_some, eg] at e0; cases e0
    | some y =>
      obtain ⟨dy, fy⟩ := y
      rw [ef, Option.bind_some, eg, Option.bind_some] at e0
      unfold eDItem at e0
      simp only at e0
      split at e0
      · rename_i t kvs
        split at e0
        · rename_i hf
          cases ed : dGet kvs dy with
          | none => rw [ed] at e0; cases e0
          | some dv =>
            rw [ed, Option.map_some] at e0
            cases e0
            refine ⟨ρ, O, T, B, _, fx, st, ef, fun v H1 s1 r1 => ⟨ρ, O, T, B, dy, fy, st.mono s1, eg, fun u H2 s2 r2 => ?_⟩⟩
            obtain ⟨a, rfl, hd⟩ := r1.dic st s1
            have := hd.get s2 (Rst.mono s2) hf r2.rep
            rw [ed] at this
            obtain ⟨w, g1, g2, g3⟩ := this
            exact ⟨a, w, rfl, g1, q w H2 (s1.trans s2) (valRes st (s1.trans s2) g2 g3)⟩
        · cases e0
      · cases e0
theorem eDGetF_inv {x y z r : DF} (h : eDGetF x y z = some r) : ∃ t kvs, x.1 = .dic t kvs ∧ keyFit t y.1 = true ∧ ((∃ d, dGet kvs y.1 = some d ∧ r = (d, valFl (eshrD kvs x.2) d)) ∨ (dGet kvs y.1 = none ∧ r = z)) := by
  unfold eDGetF at h
  split at h
  · rename_i t kvs ex
    split at h
    · split at h
      · rename_i d ed
        cases h
        exact ⟨t, kvs, ex, by assumption, .inl ⟨d, ed, rfl⟩⟩
      · rename_i ed
        cases h
        exact ⟨t, kvs, ex, by assumption, .inr ⟨ed, rfl⟩⟩
    · cases h
  · cases h
theorem de_dget2 (hu : X.A.units + 1 < cLine) (ho : DE X o f) (he : DE X e1 g) (hf : DE X e2 h) (m : M2 X o "get" apos e1 e2 cpos := by exact ⟨rfl, rfl, rfl, rfl⟩) : DE X (.Call (.Attribute o "get" apos) [e1, e2] [] cpos) (eDGet2 f g h) := (pe_dget2 hu ho he hf m).weak fun σ H Q ⟨ρ, O, T, B, d, fl, st, e0, q⟩ => by
  unfold eDGet2 at e0
  cases ef : f ρ with
  | none => rw [ef] at e0; cases e0
  | some x =>
    cases eg : g ρ with
    | none => rw [ef, Option.bind_some, eg] at e0; cases e0
    | some y =>
      cases eh : h ρ with
      | none => rw [ef, Option.bind_some, eg, Option.bind_some, eh] at e0; cases e0
      | some z =>
        rw [ef, Option.bind_some, eg, Option.bind_some, eh, Option.bind_some] at e0
        obtain ⟨t, kvs, ex, hf, hr⟩ := eDGetF_inv e0
        obtain ⟨dx, fx⟩ := x
        simp only at ex
        subst ex
        refine ⟨ρ, O, T, B, _, fx, st, ef, fun v H1 s1 r1 => ?_⟩
        obtain ⟨a, rfl, hd⟩ := r1.dic st s1
        refine ⟨a, rfl, hd.isD, ρ, O, T, B, y.1, y.2, st.mono s1, eg, fun u H2 s2 r2 => ⟨ρ, O, T, B, z.1, z.2, (st.mono s1).mono s2, eh, fun w H3 s3 r3 => ?_⟩⟩
        have s23 := s2.trans s3
        have := hd.get s23 (Rst.mono s23) hf (Rep.mono s3 _ _ r2.rep)
        rcases hr with ⟨d0, ed, er⟩ | ⟨ed, er⟩
        · cases er
          rw [ed] at this
          obtain ⟨w', g1, g2, g3⟩ := this
          exact ⟨_, g1, q w' H3 (s1.trans s23) (valRes st (s1.trans s23) g2 g3)⟩
        · rw [ed] at this
          refine ⟨_, this, ?_⟩
          rw [← er] at r3
          exact q w H3 (s1.trans s23) (r3.back (s1.trans s2))
theorem de_dget1 (hu : X.A.units + 1 < cLine) (ho : DE X o f) (he : DE X e1 g) (m : M1 X o "get" apos e1 cpos := by exact ⟨rfl, rfl, rfl, rfl⟩) : DE X (.Call (.Attribute o "get" apos) [e1] [] cpos) (eDGet1 f g) := (pe_dget1 hu ho he m).weak fun σ H Q ⟨ρ, O, T, B, d, fl, st, e0, q⟩ => by
  unfold eDGet1 at e0
  cases ef : f ρ with
  | none => rw [ef] at e0; cases e0
  | some x =>
    cases eg : g ρ with
    | none => rw [ef, Option.bind_some, eg] at e0; cases e0
    | some y =>
      rw [ef, Option.bind_some, eg, Option.bind_some] at e0
      obtain ⟨t, kvs, ex, hf, hr⟩ := eDGetF_inv e0
      obtain ⟨dx, fx⟩ := x
      simp only at ex
      subst ex
      refine ⟨ρ, O, T, B, _, fx, st, ef, fun v H1 s1 r1 => ?_⟩
      obtain ⟨a, rfl, hd⟩ := r1.dic st s1
      refine ⟨a, rfl, hd.isD, ρ, O, T, B, y.1, y.2, st.mono s1, eg, fun u H2 s2 r2 => ?_⟩
      have := hd.get s2 (Rst.mono s2) hf r2.rep
      rcases hr with ⟨d0, ed, er⟩ | ⟨ed, er⟩
      · cases er
        rw [ed] at this
        obtain ⟨w', g1, g2, g3⟩ := this
        exact ⟨_, g1, q w' H2 (s1.trans s2) (valRes st (s1.trans s2) g2 g3)⟩
      · rw [ed] at this
        cases er
        exact ⟨_, this, q .non H2 (s1.trans s2) Res.non⟩
/-- k in d, k not in d -/
def tDIn (neg : Bool) (f g : EF) : EF := fun ρ => (f ρ).bind fun y => (g ρ).bind fun x => match x.1 with
  | .dic t kvs => if keyFit t y.1 then scal (.bl (neg != (dGet kvs y.1).isSome)) else none
  | _ => none
theorem tDIn_of {K : PySem.W.Frag} {neg : Bool} {σ : L2.St} {H : Hp} {Q : VK} (h0 : tE K (tDIn neg f g) σ H Q) : tE K f σ H fun y H1 => tE K g σ H1 fun x H2 => ∃ a o, x = .ref a ∧ DGet H2 a y o ∧ Q (.bl (neg != o.isSome)) H2 := by
  obtain ⟨ρ, O, T, B, d, fl, st, e0, q⟩ := h0
  unfold tDIn at e0
  cases ef : f ρ with
  | none => rw [ef] at e0; cases e0
  | some y =>
    cases eg : g ρ with
    | none => rw [ef, Option.bind_some, eg] at e0; cases e0
    | some x =>
      rw [ef, Option.bind_some, eg, Option.bind_some] at e0
      obtain ⟨dx, fx⟩ := x
      simp only at e0
      split at e0
      · rename_i t kvs
        split at e0
        · rename_i hf
          cases e0
          refine ⟨ρ, O, T, B, y.1, y.2, st, ef, fun u H1 s1 r1 => ⟨ρ, O, T, B, _, fx, st.mono s1, eg, fun v H2 s2 r2 => ?_⟩⟩
          obtain ⟨a, rfl, hd⟩ := r2.dic (st.mono s1) s2
          have := hd.get (Same.refl H2) (Same.refl _) hf (Rep.mono s2 _ _ r1.rep)
          cases ed : dGet kvs y.1 with
          | none =>
            rw [ed] at this q
            exact ⟨a, none, rfl, this, q _ H2 (s1.trans s2) Res.bl⟩
          | some d0 =>
            rw [ed] at this q
            obtain ⟨w, g1, _⟩ := this
            exact ⟨a, some w, rfl, g1, q _ H2 (s1.trans s2) Res.bl⟩
        · cases e0
      · cases e0
theorem de_din (hu : X.A.units + 1 < cLine) (hi : DE X i f) (ho : DE X o g) (hm : behindInMarks .In o = false := by rfl) : DE X (.Compare i [.In] [o] pos) (tDIn false f g) := (pe_cmp (pc_din hu hi ho) hm).weak fun σ H Q h => by
  refine (fun x => ?_) (tDIn_of h)
  simpa [L2.tDIn] using x
theorem de_dnotin (hu : X.A.units + 1 < cLine) (hi : DE X i f) (ho : DE X o g) (hm : behindInMarks .NotIn o = false := by rfl) : DE X (.Compare i [.NotIn] [o] pos) (tDIn true f g) := (pe_cmp (pc_dnotin hu hi ho) hm).weak fun σ H Q h => by
  refine (fun x => ?_) (tDIn_of h)
  simpa [L2.tDNotIn] using x
theorem dt_din (hu : X.A.units + 1 < cLine) (hi : DE X i f) (ho : DE X o g) (hm : behindInMarks .In o = false := by rfl) : DT X (.Compare i [.In] [o] pos) (tBl (tDIn false f g)) := (pt_cmp (pc_din hu hi ho) hm).weak fun σ H Q h => by
  refine (fun x => ?_) (tDIn_of (tBl_of h))
  simpa [L2.tDIn, tB] using x
theorem dt_dnotin (hu : X.A.units + 1 < cLine) (hi : DE X i f) (ho : DE X o g) (hm : behindInMarks .NotIn o = false := by rfl) : DT X (.Compare i [.NotIn] [o] pos) (tBl (tDIn true f g)) := (pt_cmp (pc_dnotin hu hi ho) hm).weak fun σ H Q h => by
  refine (fun x => ?_) (tDIn_of (tBl_of h))
  simpa [L2.tDNotIn, tB] using x
/-- {} -/
def eDic0 (t : DK) : EF := fun _ => some (.dic t [], .fr 1)
theorem de_dicK : DE X (.Dict [] [] pos) (eDic0 .k) := pe_dnewK.weak fun σ H Q ⟨ρ, O, T, B, d, fl, st, e0, q⟩ p hp => by
  unfold eDic0 at e0
  cases e0
  exact q _ _ (same_new hp) ⟨fun a => a = p, fun a z => by rw [z]; exact hp, p, fun _ => False, rfl, id, fun b => ⟨.inl, fun z => z.elim id False.elim⟩, Rst.none (.inr rfl), .inr (.inl ⟨[], [], rfl, upd_same, rfl, rfl, fun _ z => z⟩)⟩
theorem de_dicT : DE X (.Dict [] [] pos) (eDic0 .t) := pe_dnewT.weak fun σ H Q ⟨ρ, O, T, B, d, fl, st, e0, q⟩ p hp => by
  unfold eDic0 at e0
  cases e0
  exact q _ _ (same_new hp) ⟨fun a => a = p, fun a z => by rw [z]; exact hp, p, fun _ => False, rfl, id, fun b => ⟨.inl, fun z => z.elim id False.elim⟩, Rst.none (.inr rfl), .inr (.inr ⟨[], [], rfl, upd_same, rfl, rfl, fun _ z => z⟩)⟩
end
end PF

set_option Elab.async false
set_option linter.all false
set_option maxRecDepth 100000
set_option maxHeartbeats 4000000
/-! PF13: the order of data: ints, texts, tuples of such. -/
namespace PF
open PySem PySem.Spec PyProof.Rows L2

mutual
/-- a datum as ints: their order is that of the data -/
def enc : D → List Int
  | .non => [1]
  | .bl b => [2, if b then 1 else 0]
  | .int i => [3, i]
  | .str x => 4 :: (x.cps.toList.map (fun c : Nat => ((c + 1 : Nat) : Int)) ++ [0])
  | .tup ds => 5 :: (encL ds ++ [0])
  | .lst ds => 6 :: (encL ds ++ [0])
  | .dic _ _ => [7]
  | .wtp _ => [8]
def encL : List D → List Int
  | [] => []
  | d :: ds => enc d ++ encL ds
end
theorem lexI_irr : ∀ a : List Int, HT.lexLt a a = false
  | [] => rfl
  | x :: a => by rw [HT.lexLt_cons, if_pos rfl]; exact lexI_irr a
theorem lexI_asym : ∀ a b : List Int, HT.lexLt a b = true → HT.lexLt b a = false
  | [], [], h => by cases h
  | [], _ :: _, _ => rfl
  | _ :: _, [], h => by cases h
  | x :: a, y :: b, h => by
    rw [HT.lexLt_cons] at h ⊢
    by_cases e : x = y
    · subst e
      rw [if_pos rfl] at h ⊢
      exact lexI_asym a b h
    · rw [if_neg e] at h
      rw [if_neg fun z => e z.symm]
      have : x < y := of_decide_eq_true h
      exact decide_eq_false (by omega)
theorem lexI_tr : ∀ a b c : List Int, HT.lexLt a b = false → HT.lexLt b c = false → HT.lexLt a c = false
  | [], [], c, _, h => h
  | [], _ :: _, _, h, _ => by cases h
  | x :: a, [], c, _, h => by
    cases c with
    | nil => rfl
    | cons z c => cases h
  | x :: a, y :: b, [], _, _ => rfl
  | x :: a, y :: b, z :: c, h1, h2 => by
    rw [HT.lexLt_cons] at h1 h2 ⊢
    by_cases e1 : x = y
    · subst e1
      rw [if_pos rfl] at h1
      by_cases e2 : x = z
      · subst e2
        rw [if_pos rfl] at h2 ⊢
        exact lexI_tr a b c h1 h2
      · rw [if_neg e2] at h2 ⊢
        exact h2
    · rw [if_neg e1] at h1
      have k1 : ¬ x < y := of_decide_eq_false h1
      by_cases e2 : y = z
      · subst e2
        rw [if_neg e1]
        exact h1
      · rw [if_neg e2] at h2
        have k2 : ¬ y < z := of_decide_eq_false h2
        rw [if_neg (by omega)]
        exact decide_eq_false (by omega)
theorem lexI_con : ∀ a b : List Int, HT.lexLt a b = false → HT.lexLt b a = false → a = b
  | [], [], _, _ => rfl
  | [], _ :: _, h, _ => by cases h
  | _ :: _, [], _, h => by cases h
  | x :: a, y :: b, h1, h2 => by
    rw [HT.lexLt_cons] at h1 h2
    by_cases e1 : x = y
    · subst e1
      rw [if_pos rfl] at h1 h2
      rw [lexI_con a b h1 h2]
    · rw [if_neg e1] at h1
      rw [if_neg fun z => e1 z.symm] at h2
      have := of_decide_eq_false h1
      have := of_decide_eq_false h2
      omega
theorem swo_lexI {α : Type} (k : α → List Int) : SrtO.Swo fun x y => HT.lexLt (k x) (k y) := ⟨fun x y h => lexI_asym _ _ h, fun x y z h1 h2 => lexI_tr _ _ _ h2 h1⟩
/-- a head that is at least 1 -/
def Hd (l : List Int) : Prop := ∃ x r, l = x :: r ∧ 1 ≤ x
theorem enc_hd : ∀ d : D, Hd (enc d) := fun d => by cases d <;> exact ⟨_, _, by unfold enc; rfl, by decide⟩
/-- texts -/
theorem lex_str : ∀ (a b : List Nat) (s t : List Int), HT.lexLt (a.map (fun c : Nat => ((c + 1 : Nat) : Int)) ++ 0 :: s) (b.map (fun c : Nat => ((c + 1 : Nat) : Int)) ++ 0 :: t) = if a = b then HT.lexLt s t else decide (a < b)
  | [], [], s, t => by
    simp only [List.map_nil, List.nil_append, if_true]
    rw [HT.lexLt_cons, if_pos rfl]
  | [], y :: b, s, t => by
    simp only [List.map_nil, List.nil_append, List.map_cons, List.cons_append]
    rw [HT.lexLt_cons, if_neg (by omega), if_neg (by simp)]
    rw [decide_eq_true (by omega), decide_eq_true (by simp)]
  | x :: a, [], s, t => by
    simp only [List.map_nil, List.nil_append, List.map_cons, List.cons_append]
    rw [HT.lexLt_cons, if_neg (by omega), if_neg (by simp)]
    rw [decide_eq_false (by omega), decide_eq_false (by simp)]
  | x :: a, y :: b, s, t => by
    simp only [List.map_cons, List.cons_append]
    rw [HT.lexLt_cons]
    by_cases e : x = y
    · subst e
      rw [if_pos rfl, lex_str a b s t]
      by_cases e2 : a = b
      · subst e2
        simp
      · rw [if_neg e2, if_neg (by simp [e2])]
        by_cases h : a < b
        · rw [decide_eq_true h, decide_eq_true (List.cons_lt_cons_iff.mpr (.inr ⟨rfl, h⟩))]
        · rw [decide_eq_false h, decide_eq_false]
          intro z
          rcases List.cons_lt_cons_iff.mp z with z | z
          · omega
          · exact h z.2
    · rw [if_neg (by omega), if_neg (by simp [e])]
      by_cases h : x < y
      · rw [decide_eq_true (by omega), decide_eq_true (List.cons_lt_cons_iff.mpr (.inl h))]
      · rw [decide_eq_false (by omega), decide_eq_false]
        intro z
        rcases List.cons_lt_cons_iff.mp z with z | z
        · omega
        · omega
theorem lex_one (x y : Int) (s t : List Int) : HT.lexLt (x :: s) (y :: t) = if x = y then HT.lexLt s t else decide (x < y) := HT.lexLt_cons x y s t
theorem lex_app : ∀ (p s t : List Int), HT.lexLt (p ++ s) (p ++ t) = HT.lexLt s t
  | [], _, _ => rfl
  | x :: p, s, t => by
    rw [List.cons_append, List.cons_append, lex_one, if_pos rfl]
    exact lex_app p s t
mutual
/-- no datum's ints begin those of another one -/
theorem enc_pre : ∀ (x y : D) (s t : List Int), enc x ≠ enc y → HT.lexLt (enc x ++ s) (enc y ++ t) = HT.lexLt (enc x) (enc y)
  | .str a, .str b, s, t, h => by
    have h' : a.cps.toList ≠ b.cps.toList := fun e => h (by simp only [enc, e])
    simp only [enc, List.cons_append, List.append_assoc, List.nil_append]
    rw [lex_one, if_pos rfl, lex_one, if_pos rfl, lex_str, lex_str, if_neg h', if_neg h']
  | .tup xs, .tup ys, s, t, h => by
    have h' : encL xs ≠ encL ys := fun e => h (by simp only [enc, e])
    simp only [enc, List.cons_append, List.append_assoc, List.nil_append]
    rw [lex_one, if_pos rfl, lex_one, if_pos rfl, encL_pre xs ys s t h']
  | .lst xs, .lst ys, s, t, h => by
    have h' : encL xs ≠ encL ys := fun e => h (by simp only [enc, e])
    simp only [enc, List.cons_append, List.append_assoc, List.nil_append]
    rw [lex_one, if_pos rfl, lex_one, if_pos rfl, encL_pre xs ys s t h']
  | .bl a, .bl b, s, t, h => by
    simp only [enc, List.cons_append, List.nil_append, lex_one]
    cases a <;> cases b <;> simp [enc] at h ⊢
  | .int a, .int b, s, t, h => by
    have h' : a ≠ b := fun e => h (by rw [e])
    simp only [enc, List.cons_append, List.nil_append, lex_one]
    simp [h']
  | .non, .non, s, t, h => by simp [enc] at h
  | .dic _ _, .dic _ _, s, t, h => by simp [enc] at h
  | .wtp _, .wtp _, s, t, h => by simp [enc] at h
  | .non, .bl _, _, _, _ | .non, .int _, _, _, _ | .non, .str _, _, _, _ | .non, .tup _, _, _, _ | .non, .lst _, _, _, _ | .non, .dic _ _, _, _, _ | .non, .wtp _, _, _, _ => by simp [enc, lex_one]
  | .bl _, .non, _, _, _ | .bl _, .int _, _, _, _ | .bl _, .str _, _, _, _ | .bl _, .tup _, _, _, _ | .bl _, .lst _, _, _, _ | .bl _, .dic _ _, _, _, _ | .bl _, .wtp _, _, _, _ => by simp [enc, lex_one]
  | .int _, .non, _, _, _ | .int _, .bl _, _, _, _ | .int _, .str _, _, _, _ | .int _, .tup _, _, _, _ | .int _, .lst _, _, _, _ | .int _, .dic _ _, _, _, _ | .int _, .wtp _, _, _, _ => by simp [enc, lex_one]
  | .str _, .non, _, _, _ | .str _, .bl _, _, _, _ | .str _, .int _, _, _, _ | .str _, .tup _, _, _, _ | .str _, .lst _, _, _, _ | .str _, .dic _ _, _, _, _ | .str _, .wtp _, _, _, _ => by simp [enc, lex_one]
  | .tup _, .non, _, _, _ | .tup _, .bl _, _, _, _ | .tup _, .int _, _, _, _ | .tup _, .str _, _, _, _ | .tup _, .lst _, _, _, _ | .tup _, .dic _ _, _, _, _ | .tup _, .wtp _, _, _, _ => by simp [enc, lex_one]
  | .lst _, .non, _, _, _ | .lst _, .bl _, _, _, _ | .lst _, .int _, _, _, _ | .lst _, .str _, _, _, _ | .lst _, .tup _, _, _, _ | .lst _, .dic _ _, _, _, _ | .lst _, .wtp _, _, _, _ => by simp [enc, lex_one]
  | .dic _ _, .non, _, _, _ | .dic _ _, .bl _, _, _, _ | .dic _ _, .int _, _, _, _ | .dic _ _, .str _, _, _, _ | .dic _ _, .tup _, _, _, _ | .dic _ _, .lst _, _, _, _ | .dic _ _, .wtp _, _, _, _ => by simp [enc, lex_one]
  | .wtp _, .non, _, _, _ | .wtp _, .bl _, _, _, _ | .wtp _, .int _, _, _, _ | .wtp _, .str _, _, _, _ | .wtp _, .tup _, _, _, _ | .wtp _, .lst _, _, _, _ | .wtp _, .dic _ _, _, _, _ => by simp [enc, lex_one]
termination_by x y => sizeOf x + sizeOf y
theorem encL_pre : ∀ (xs ys : List D) (s t : List Int), encL xs ≠ encL ys → HT.lexLt (encL xs ++ (0 :: s)) (encL ys ++ (0 :: t)) = HT.lexLt (encL xs ++ [0]) (encL ys ++ [0])
  | [], [], s, t, h => absurd rfl h
  | [], y :: ys, s, t, _ => by
    obtain ⟨h, r, e, h1⟩ := enc_hd y
    have n0 : ¬ (0 : Int) = h := by omega
    simp only [encL, e, List.nil_append, List.cons_append, lex_one, if_neg n0]
  | x :: xs, [], s, t, _ => by
    obtain ⟨h, r, e, h1⟩ := enc_hd x
    have n0 : ¬ h = (0 : Int) := by omega
    simp only [encL, e, List.nil_append, List.cons_append, lex_one, if_neg n0]
  | x :: xs, y :: ys, s, t, hn => by
    simp only [encL, List.append_assoc]
    by_cases h : enc x = enc y
    · have h2 : encL xs ≠ encL ys := fun z => hn (by simp only [encL, h, z])
      rw [h, lex_app, lex_app, encL_pre xs ys s t h2]
    · rw [enc_pre x y _ _ h, enc_pre x y _ _ h]
termination_by xs ys => sizeOf xs + sizeOf ys
end
/-- x before y -/
def dlt (x y : D) : Bool := HT.lexLt (enc x) (enc y)
def dltL : List D → List D → Bool
  | [], [] => false
  | [], _ :: _ => true
  | _ :: _, [] => false
  | x :: xs, y :: ys => if enc x = enc y then dltL xs ys else dlt x y
theorem dlt_tup : ∀ (xs ys : List D), dlt (.tup xs) (.tup ys) = dltL xs ys := fun xs ys => by
  have key : ∀ xs ys : List D, HT.lexLt (encL xs ++ [0]) (encL ys ++ [0]) = dltL xs ys := fun xs => by
    induction xs with
    | nil =>
      intro ys
      cases ys with
      | nil => simp [encL, lex_one, dltL, HT.lexLt]
      | cons y ys =>
        obtain ⟨h, r, e, h1⟩ := enc_hd y
        simp only [encL, e, List.nil_append, List.cons_append, lex_one, dltL]
        have n0 : ¬ (0 : Int) = h := by omega
        simp [n0]
        omega
    | cons x xs ih =>
      intro ys
      cases ys with
      | nil =>
        obtain ⟨h, r, e, h1⟩ := enc_hd x
        simp only [encL, e, List.nil_append, List.cons_append, lex_one, dltL]
        have n0 : ¬ h = (0 : Int) := by omega
        simp [n0]
        omega
      | cons y ys =>
        simp only [encL, List.append_assoc, dltL]
        by_cases h : enc x = enc y
        · rw [h, lex_app, if_pos rfl, ih]
        · rw [enc_pre x y _ _ h, if_neg h]
          rfl
  unfold dlt
  simp only [enc]
  rw [lex_one, if_pos rfl]
  exact key xs ys
theorem dlt_int (i j : Int) : dlt (.int i) (.int j) = decide (i < j) := by
  unfold dlt
  simp only [enc, lex_one, if_true, HT.lexLt]
  by_cases h : i = j
  · subst h; simp
  · simp [h]
theorem dlt_str (x y : PySem.Str) : dlt (.str x) (.str y) = decide (x.cps.toList < y.cps.toList) := by
  unfold dlt
  simp only [enc]
  rw [lex_one, if_pos rfl, lex_str]
  by_cases h : x.cps.toList = y.cps.toList
  · rw [if_pos h, h]
    simp [HT.lexLt]
  · rw [if_neg h]
end PF

set_option Elab.async false
set_option linter.all false
set_option maxRecDepth 100000
set_option maxHeartbeats 4000000
/-! PF14: sorted. -/
namespace PF
open PySem PySem.Spec PyProof.Rows L2

mutual
/-- a datum as it lies in the machine's heap -/
def CR (h : Heap) : D → Value → Prop
  | .non, v => v = .none
  | .bl b, v => v = .bool b
  | .int i, v => ∃ t, v = .int i t
  | .str x, v => ∃ t, v = .str x t
  | .tup ds, v => ∃ a o its n, v = .ref a ∧ h.get? a = some o ∧ o.cls = .type "tuple" ∧ o.data = .seq its n ∧ CRL h ds its.toList
  | .lst _, _ => False
  | .dic _ _, _ => False
  | .wtp _, _ => False
def CRL (h : Heap) : List D → List Value → Prop
  | [], vs => vs = []
  | d :: ds, vs => ∃ v vr, vs = v :: vr ∧ CR h d v ∧ CRL h ds vr
end
theorem CRL.nil_inv {h : Heap} {vs : List Value} (c : CRL h [] vs) : vs = [] := by unfold CRL at c; exact c
theorem CRL.cons_inv {h : Heap} {d : D} {ds : List D} {vs : List Value} (c : CRL h (d :: ds) vs) : ∃ v vr, vs = v :: vr ∧ CR h d v ∧ CRL h ds vr := by unfold CRL at c; exact c
theorem CRL.cons {h : Heap} {d : D} {ds : List D} {v : Value} {vs : List Value} (c : CR h d v) (r : CRL h ds vs) : CRL h (d :: ds) (v :: vs) := by unfold CRL; exact ⟨v, vs, rfl, c, r⟩
theorem CRL.nil {h : Heap} : CRL h [] [] := by unfold CRL; rfl
theorem CRL.length {h : Heap} : ∀ {ds : List D} {vs : List Value}, CRL h ds vs → vs.length = ds.length
  | [], vs, c => by rw [c.nil_inv]; rfl
  | d :: ds, vs, c => by
    obtain ⟨v, vr, rfl, _, r⟩ := c.cons_inv
    rw [List.length_cons, List.length_cons, CRL.length r]
theorem CRL.get {h : Heap} : ∀ {ds : List D} {vs : List Value} {i : Nat} {d : D} {v : Value}, CRL h ds vs → ds[i]? = some d → vs[i]? = some v → CR h d v
  | [], vs, i, d, v, c, e, _ => by simp at e
  | x :: ds, vs, i, d, v, c, e, e' => by
    obtain ⟨u, vr, rfl, r1, r2⟩ := c.cons_inv
    cases i with
    | zero =>
      simp at e e'
      rw [← e, ← e']
      exact r1
    | succ i => exact CRL.get (i := i) r2 (by simpa using e) (by simpa using e')
mutual
theorem CR.mono {h h' : Heap} (k : ∀ b o, h.get? b = some o → h'.get? b = some o) : ∀ (d : D) (v : Value), CR h d v → CR h' d v
  | .non, v, c => by unfold CR at c ⊢; exact c
  | .bl _, v, c => by unfold CR at c ⊢; exact c
  | .int _, v, c => by unfold CR at c ⊢; exact c
  | .str _, v, c => by unfold CR at c ⊢; exact c
  | .tup ds, v, c => by
    unfold CR at c ⊢
    obtain ⟨a, o, its, n, e, h1, h2, h3, h4⟩ := c
    exact ⟨a, o, its, n, e, k _ _ h1, h2, h3, CRL.mono k ds _ h4⟩
  | .lst _, v, c => by unfold CR at c; exact c.elim
  | .dic _ _, v, c => by unfold CR at c; exact c.elim
  | .wtp _, v, c => by unfold CR at c; exact c.elim
theorem CRL.mono {h h' : Heap} (k : ∀ b o, h.get? b = some o → h'.get? b = some o) : ∀ (ds : List D) (vs : List Value), CRL h ds vs → CRL h' ds vs
  | [], vs, c => by rw [c.nil_inv]; exact CRL.nil
  | d :: ds, vs, c => by
    obtain ⟨v, vr, rfl, r1, r2⟩ := c.cons_inv
    exact CRL.cons (CR.mono k d v r1) (CRL.mono k ds vr r2)
end
mutual
theorem CR.fn {h : Heap} : ∀ (d e : D) (v : Value), CR h d v → CR h e v → d = e
  | .non, e, v, c, c' => by
    unfold CR at c
    subst c
    cases e <;> simp [CR] at c' ⊢
  | .bl _, e, v, c, c' => by
    unfold CR at c
    subst c
    cases e <;> simp [CR] at c' ⊢
    exact c'
  | .int _, e, v, c, c' => by
    unfold CR at c
    obtain ⟨t, rfl⟩ := c
    cases e <;> simp [CR] at c' ⊢
    exact c'
  | .str _, e, v, c, c' => by
    unfold CR at c
    obtain ⟨t, rfl⟩ := c
    cases e <;> simp [CR] at c' ⊢
    exact c'
  | .tup ds, e, v, c, c' => by
    unfold CR at c
    obtain ⟨a, o, its, n, rfl, h1, h2, h3, h4⟩ := c
    cases e with
    | tup es =>
      unfold CR at c'
      obtain ⟨a', o', its', n', e1, g1, g2, g3, g4⟩ := c'
      cases e1
      rw [h1] at g1
      cases g1
      rw [h3] at g3
      cases g3
      rw [CRL.fn ds _ _ h4 g4]
    | _ => simp [CR] at c'
  | .lst _, e, v, c, c' => by unfold CR at c; exact c.elim
  | .dic _ _, e, v, c, c' => by unfold CR at c; exact c.elim
  | .wtp _, e, v, c, c' => by unfold CR at c; exact c.elim
theorem CRL.fn {h : Heap} : ∀ (ds es : List D) (vs : List Value), CRL h ds vs → CRL h es vs → ds = es
  | [], [], vs, _, _ => rfl
  | [], e :: es, vs, c, c' => by
    rw [c.nil_inv] at c'
    obtain ⟨_, _, e, _⟩ := c'.cons_inv
    cases e
  | d :: ds, [], vs, c, c' => by
    rw [c'.nil_inv] at c
    obtain ⟨_, _, e, _⟩ := c.cons_inv
    cases e
  | d :: ds, e :: es, vs, c, c' => by
    obtain ⟨v, vr, rfl, r1, r2⟩ := c.cons_inv
    obtain ⟨v', vr', e1, r1', r2'⟩ := c'.cons_inv
    cases e1
    rw [CR.fn d e v r1 r1', CRL.fn ds es vr r2 r2']
end
section
variable {X : Cx} {pins : List (Addr × Obj)} {σ : L2.St} {H : Hp} {s : Shared}
mutual
theorem CR.of (I : Inv X pins σ H s) : ∀ (d : D) (v : V) (u : Value), puD d = true → Rep X.K H d v → RelV v u → CR s.heap d u
  | .non, v, u, _, r, q => by unfold Rep at r; subst r; unfold CR; exact q
  | .bl _, v, u, _, r, q => by unfold Rep at r; subst r; unfold CR; exact q
  | .int _, v, u, _, r, q => by unfold Rep at r; subst r; unfold CR; exact q
  | .str _, v, u, _, r, q => by unfold Rep at r; subst r; unfold CR; exact q
  | .tup ds, v, u, p, r, q => by
    unfold Rep at r
    unfold puD at p
    obtain ⟨a, vs, rfl, h1, h2⟩ := r
    cases (show u = Value.ref a from q)
    obtain ⟨its, rv, ⟨o, ho, hc, n, hd⟩, _⟩ := I.tuple h1.sq
    unfold CR
    exact ⟨a, o, its.toArray, n, rfl, ho, hc, hd, CRL.of I ds vs its p h2 rv⟩
  | .lst ds, v, u, p, _, _ => by unfold puD at p; cases p
  | .dic _ kvs, v, u, p, _, _ => by unfold puD at p; cases p
  | .wtp _, v, u, p, _, _ => by unfold puD at p; cases p
theorem CRL.of (I : Inv X pins σ H s) : ∀ (ds : List D) (vs : List V) (us : List Value), puL ds = true → RepL X.K H ds vs → Vals vs us → CRL s.heap ds us
  | [], vs, us, _, r, q => by
    rw [r.nil_inv] at q
    cases q
    exact CRL.nil
  | d :: ds, vs, us, p, r, q => by
    obtain ⟨v, vr, rfl, r1, r2⟩ := r.cons_inv
    unfold puL at p
    rw [Bool.and_eq_true] at p
    cases q with
    | cons q1 q2 => exact CRL.cons (CR.of I d v _ p.1 r1 q1) (CRL.of I ds vr _ p.2 r2 q2)
end
end
mutual
theorem CR.reads {h : Heap} : ∀ (d : D) (v : Value), CR h d v → ∃ as, Reads h v (toPy d) as
  | .non, v, c => by unfold CR at c; subst c; exact ⟨_, Reads.none⟩
  | .bl _, v, c => by unfold CR at c; subst c; exact ⟨_, Reads.bool _⟩
  | .int _, v, c => by unfold CR at c; obtain ⟨t, rfl⟩ := c; exact ⟨_, Reads.int _ t⟩
  | .str _, v, c => by unfold CR at c; obtain ⟨t, rfl⟩ := c; exact ⟨_, Reads.str _ t⟩
  | .tup ds, v, c => by
    unfold CR at c
    obtain ⟨a, o, its, n, rfl, h1, h2, h3, h4⟩ := c
    obtain ⟨as, r⟩ := CRL.reads ds _ h4
    exact ⟨as, Reads.tuple h1 h2 h3 r⟩
  | .lst _, v, c => by unfold CR at c; exact c.elim
  | .dic _ _, v, c => by unfold CR at c; exact c.elim
  | .wtp _, v, c => by unfold CR at c; exact c.elim
theorem CRL.reads {h : Heap} : ∀ (ds : List D) (vs : List Value), CRL h ds vs → ∃ as, ReadsAll h vs (toPyL ds) as
  | [], vs, c => by rw [c.nil_inv]; exact ⟨_, ReadsAll.nil⟩
  | d :: ds, vs, c => by
    obtain ⟨v, vr, rfl, r1, r2⟩ := c.cons_inv
    obtain ⟨as, q1⟩ := CR.reads d v r1
    obtain ⟨bs, q2⟩ := CRL.reads ds vr r2
    exact ⟨_, ReadsAll.cons q1 q2⟩
end
theorem okD_py : ∀ (n : Nat) (d : D), okD n d = true → PyData.canLay0 (toPy d) = true ∧ (toPy d).depth ≤ n := fun n => by
  induction n with
  | zero =>
    intro d h
    cases d <;> simp [okD] at h <;> simp [toPy, PyData.depth, PyData.canLay0, h]
  | succ n ih =>
    have all : ∀ ds : List D, ds.all (okD n) = true → PyData.canLayAll0 (toPyL ds) = true ∧ PyData.depthAll (toPyL ds) ≤ n := fun ds => by
      induction ds with
      | nil => intro _; exact ⟨rfl, by simp [toPyL, PyData.depthAll]⟩
      | cons d ds ihd =>
        intro h
        rw [List.all_cons, Bool.and_eq_true] at h
        obtain ⟨a1, a2⟩ := ih d h.1
        obtain ⟨b1, b2⟩ := ihd h.2
        simp only [toPyL, PyData.canLayAll0, PyData.depthAll, a1, b1, Bool.and_self]
        exact ⟨trivial, by omega⟩
    intro d h
    cases d <;> simp only [okD] at h
    · exact ⟨rfl, by simp [toPy, PyData.depth]⟩
    · exact ⟨rfl, by simp [toPy, PyData.depth]⟩
    · exact ⟨rfl, by simp [toPy, PyData.depth]⟩
    · exact ⟨by simpa [toPy, PyData.canLay0] using h, by simp [toPy, PyData.depth]⟩
    · obtain ⟨b1, b2⟩ := all _ h
      exact ⟨by simpa [toPy, PyData.canLay0] using b1, by simp only [toPy, PyData.depth]; omega⟩
    · obtain ⟨b1, b2⟩ := all _ h
      exact ⟨by simpa [toPy, PyData.canLay0] using b1, by simp only [toPy, PyData.depth]; omega⟩
    · cases h
    · cases h
theorem CR.eq {A : Around} {s : Shared} {d e : D} {v u : Value} (c : CR s.heap d v) (c' : CR s.heap e u) (h : okD 60 d = true) (h' : okD 60 e = true) (hu : A.units + 64 < cLine) : SeqAt.EqAt A s v u (deq d e) := by
  obtain ⟨as, r⟩ := c.reads
  obtain ⟨bs, r'⟩ := c'.reads
  obtain ⟨a1, a2⟩ := okD_py 60 d h
  obtain ⟨b1, b2⟩ := okD_py 60 e h'
  have := SeqAt.eqAt_reads (toPy d) (toPy e) A s v u as bs r r' a1 b1 (by omega)
  rw [eqv_deq 60 _ _ h h'] at this
  exact this

/-! ### what may be compared by < -/
def cmpB : Nat → D → D → Bool
  | _, .int _, .int _ => true
  | _, .str _, .str _ => true
  | n + 1, .tup xs, .tup ys => go n xs ys
  | _, _, _ => false
where
  go : Nat → List D → List D → Bool
  | n, x :: xs, y :: ys => (deq x y == decide (enc x = enc y)) && (deq x y || cmpB n x y) && go n xs ys
  | _, _, _ => true
theorem cmp_at : ∀ {n : Nat} {xs ys : List D}, cmpB.go n xs ys = true → ∀ (e r : Nat → Bool), (∀ j x y, xs[j]? = some x → ys[j]? = some y → e j = deq x y ∧ r j = dlt x y) →
    Ob.lexAt e r (decide (xs.length < ys.length)) 0 (min xs.length ys.length) = dltL xs ys := fun {n xs} => by
  have shift : ∀ (e r : Nat → Bool) (z : Bool) (k i : Nat), Ob.lexAt e r z (i + 1) k = Ob.lexAt (fun j => e (j + 1)) (fun j => r (j + 1)) z i k := fun e r z k => by
    induction k with
    | zero => intro i; rfl
    | succ k ih =>
      intro i
      rw [Ob.lexAt_succ, Ob.lexAt_succ, ih]
  induction xs with
  | nil =>
    intro ys _ e r _
    cases ys with
    | nil => simp [dltL, Ob.lexAt]
    | cons y ys => simp [dltL, Ob.lexAt]
  | cons x xs ih =>
    intro ys h e r hj
    cases ys with
    | nil => simp [dltL, Ob.lexAt]
    | cons y ys =>
      have h0 := hj 0 x y rfl rfl
      rw [show min (x :: xs).length (y :: ys).length = min xs.length ys.length + 1 by simp only [List.length_cons]; omega, Ob.lexAt_succ, shift]
      unfold cmpB.go at h
      simp only [Bool.and_eq_true, beq_iff_eq] at h
      obtain ⟨⟨h1, h2⟩, h3⟩ := h
      unfold dltL
      rw [h0.1, h0.2, h1]
      simp only [decide_eq_true_eq]
      by_cases he : enc x = enc y
      · rw [if_pos he, if_pos he]
        have := ih h3 (fun j => e (j + 1)) (fun j => r (j + 1)) fun j x' y' e1 e2 => hj (j + 1) x' y' (by simpa using e1) (by simpa using e2)
        rw [← this]
        congr 1
        simp
      · rw [if_neg he, if_neg he]
theorem cmp_go : ∀ {n : Nat} {xs ys : List D}, cmpB.go n xs ys = true → ∀ (j : Nat) (x y : D), xs[j]? = some x → ys[j]? = some y → deq x y = false → cmpB n x y = true := fun {n xs} => by
  induction xs with
  | nil => intro ys _ j x y e1; simp at e1
  | cons x0 xs ih =>
    intro ys h j x y e1 e2 hb
    cases ys with
    | nil => simp at e2
    | cons y0 ys =>
      unfold cmpB.go at h
      simp only [Bool.and_eq_true, beq_iff_eq] at h
      obtain ⟨⟨h1, h2⟩, h3⟩ := h
      cases j with
      | zero =>
        simp at e1 e2
        subst e1 e2
        rw [hb, Bool.false_or] at h2
        exact h2
      | succ j => exact ih h3 j x y (by simpa using e1) (by simpa using e2) hb
theorem okD_mono : ∀ {n m : Nat} {d : D}, n ≤ m → okD n d = true → okD m d = true := fun {n} => by
  induction n with
  | zero =>
    intro m d _ h
    cases d <;> simp [okD] at h <;> cases m <;> simp [okD, h]
  | succ n ih =>
    intro m d hm h
    obtain ⟨k, rfl⟩ : ∃ k, m = k + 1 := ⟨m - 1, by omega⟩
    cases d <;> simp only [okD] at h ⊢ <;> first | exact h | (cases h) | skip
    all_goals
      rw [List.all_eq_true] at h ⊢
      intro x hx
      exact ih (by omega) (h x hx)
theorem okD_tup {n : Nat} {ds : List D} {j : Nat} {d : D} (h : okD n (.tup ds) = true) (hn : n ≤ 60) (e : ds[j]? = some d) : okD 60 d = true := by
  cases n with
  | zero => simp [okD] at h
  | succ n =>
    simp only [okD] at h
    rw [List.all_eq_true] at h
    exact okD_mono (by omega) (h d (List.mem_of_getElem? e))
theorem CR.lt {s : Shared} : ∀ (n : Nat) (A : Around) (d e : D) (v u : Value), CR s.heap d v → CR s.heap e u → okD 60 d = true → okD 60 e = true → cmpB n d e = true → A.units + n + 65 < cLine → Ob.RcOp .Lt A s v u (dlt d e) := fun n => by
  induction n with
  | zero =>
    intro A d e v u c c' o o' h hu
    cases d <;> cases e <;> simp only [cmpB] at h <;> (try cases h) <;> unfold CR at c c'
    · obtain ⟨t, rfl⟩ := c
      obtain ⟨t', rfl⟩ := c'
      rw [dlt_int]
      exact Ob.RcOp.lt_int _ _ _ _
    · obtain ⟨t, rfl⟩ := c
      obtain ⟨t', rfl⟩ := c'
      rw [dlt_str]
      exact fun prog w E Q hq => PyProof.Rows.lt_str hq
  | succ n ih =>
    intro A d e v u c c' o o' h hu
    cases d <;> cases e <;> simp only [cmpB] at h <;> (try cases h) <;> unfold CR at c c'
    · obtain ⟨t, rfl⟩ := c
      obtain ⟨t', rfl⟩ := c'
      rw [dlt_int]
      exact Ob.RcOp.lt_int _ _ _ _
    · obtain ⟨t, rfl⟩ := c
      obtain ⟨t', rfl⟩ := c'
      rw [dlt_str]
      exact fun prog w E Q hq => PyProof.Rows.lt_str hq
    · rename_i xs ys
      obtain ⟨a, oa, its, n1, rfl, h1, h2, h3, h4⟩ := c
      obtain ⟨b, ob, its', n2, rfl, g1, g2, g3, g4⟩ := c'
      have l1 : its.size = xs.length := by rw [← Array.length_toList, h4.length]
      have l2 : its'.size = ys.length := by rw [← Array.length_toList, g4.length]
      have hin : A.in1.units ≤ A.units + 1 := by first | exact Nat.le_refl _ | (simp [Around.in1])
      have at1 : ∀ j (hj : j < its.size), CR s.heap (xs[j]'(by omega)) its[j] := fun j hj => h4.get (i := j) (List.getElem?_eq_getElem (by omega)) (by simp [hj])
      have at2 : ∀ j (hj : j < its'.size), CR s.heap (ys[j]'(by omega)) its'[j] := fun j hj => g4.get (i := j) (List.getElem?_eq_getElem (by omega)) (by simp [hj])
      rw [dlt_tup, ← cmp_at h (fun j => deq (xs.getD j .non) (ys.getD j .non)) (fun j => dlt (xs.getD j .non) (ys.getD j .non)) fun j x y e1 e2 => by simp [List.getD, e1, e2], ← l1, ← l2]
      refine Ob.RcOp.tuples_lt ⟨oa, h1, h2, n1, h3⟩ ⟨ob, g1, g2, n2, g3⟩ (by omega) (fun j j1 j2 => ?_) fun j j1 j2 hne => ?_
      · have e1 : xs.getD j .non = xs[j]'(by omega) := by simp [List.getD, List.getElem?_eq_getElem (show j < xs.length by omega)]
        have e2 : ys.getD j .non = ys[j]'(by omega) := by simp [List.getD, List.getElem?_eq_getElem (show j < ys.length by omega)]
        simp only [e1, e2]
        exact (at1 j j1).eq (at2 j j2) (okD_tup o (Nat.le_refl _) (List.getElem?_eq_getElem (by omega))) (okD_tup o' (Nat.le_refl _) (List.getElem?_eq_getElem (by omega))) (by omega)
      · have e1 : xs.getD j .non = xs[j]'(by omega) := by simp [List.getD, List.getElem?_eq_getElem (show j < xs.length by omega)]
        have e2 : ys.getD j .non = ys[j]'(by omega) := by simp [List.getD, List.getElem?_eq_getElem (show j < ys.length by omega)]
        simp only [e1, e2] at hne ⊢
        exact ih A.in1 _ _ _ _ (at1 j j1) (at2 j j2) (okD_tup o (Nat.le_refl _) (List.getElem?_eq_getElem (by omega))) (okD_tup o' (Nat.le_refl _) (List.getElem?_eq_getElem (by omega)))
          (cmp_go h j _ _ (List.getElem?_eq_getElem (by omega)) (List.getElem?_eq_getElem (by omega)) hne) (by omega)
end PF

set_option Elab.async false
set_option linter.all false
set_option maxRecDepth 100000
set_option maxHeartbeats 4000000
/-! PF15: sorted, as a rule. -/
namespace PF
open PySem PySem.Spec PyProof.Rows L2 PySem.W

def tagD : D → Nat
  | .int _ => 0
  | .str _ => 1
  | .tup _ => 2
  | _ => 3
def headT : D → Option Nat
  | .tup (x :: _) => some (tagD x)
  | _ => none
def sortOk (ds : List D) : Bool := puL ds && ds.all (okD 60) && (decide (ds.length < 2) ||
  ((ds.all (tagD · == 0) || ds.all (tagD · == 1) || ds.all (headT · == some 0) || ds.all (headT · == some 1) || ds.all (headT · == some 2)) && ds.all fun x => ds.all fun y => cmpB 8 x y))
theorem tag0 {d : D} (h : tagD d = 0) : ∃ i, d = .int i := by cases d <;> simp [tagD] at h ⊢
theorem tag1 {d : D} (h : tagD d = 1) : ∃ i, d = .str i := by cases d <;> simp [tagD] at h ⊢
theorem tag2 {d : D} (h : tagD d = 2) : ∃ i, d = .tup i := by cases d <;> simp [tagD] at h ⊢
theorem head_inv {d : D} {k : Nat} (h : headT d = some k) : ∃ x r, d = .tup (x :: r) ∧ tagD x = k := by
  cases d with
  | tup ds =>
    cases ds with
    | nil => simp [headT] at h
    | cons x r => exact ⟨x, r, rfl, by simpa [headT] using h⟩
  | _ => simp [headT] at h
theorem dlt_swo {α : Type} (k : α → D) : SrtO.Swo fun x y => dlt (k x) (k y) := swo_lexI (fun x => enc (k x))
theorem pu_mem : ∀ {ds : List D} {d : D}, puL ds = true → d ∈ ds → puD d = true
  | d :: ds, x, p, m => by
    unfold puL at p
    rw [Bool.and_eq_true] at p
    rcases List.mem_cons.mp m with rfl | m
    · exact p.1
    · exact pu_mem p.2 m
section
variable {prog : Program} {w : World} {A : Around} {s : Shared}
theorem kat_of {n : Nat} {b : Bool} {Q : Bool → Shared → Prop} (hu : A.units + n + 65 < cLine) : ∀ (xs ys : List D) (its its' : List Value) (i : Nat), CRL s.heap xs its → CRL s.heap ys its' → (∀ x ∈ xs, okD 60 x = true) → (∀ y ∈ ys, okD 60 y = true) →
    cmpB.go n xs ys = true → (b = true → i = 0 → ∀ x y, xs[0]? = some x → ys[0]? = some y → (tagD x = 0 ∧ tagD y = 0) ∨ (tagD x = 1 ∧ tagD y = 1)) → Q (dltL xs ys) s →
    PySem.W.KatLex prog w A b (decide (its.length < its'.length)) Q (its.zip its') i s
  | [], [], its, its', i, c, c', _, _, _, _, q => by
    rw [c.nil_inv, c'.nil_inv]
    refine PySem.W.kat_nil ?_
    simpa [dltL] using q
  | [], y :: ys, its, its', i, c, c', _, _, _, _, q => by
    obtain ⟨u, ur, rfl, _⟩ := c'.cons_inv
    rw [c.nil_inv]
    refine PySem.W.kat_nil ?_
    simpa [dltL] using q
  | x :: xs, [], its, its', i, c, c', _, _, _, _, q => by
    obtain ⟨u, ur, rfl, _⟩ := c.cons_inv
    rw [c'.nil_inv]
    refine PySem.W.kat_nil ?_
    simpa [dltL] using q
  | x :: xs, y :: ys, its, its', i, c, c', o, o', h, hb, q => by
    obtain ⟨v, vr, rfl, r1, r2⟩ := c.cons_inv
    obtain ⟨u, ur, rfl, r1', r2'⟩ := c'.cons_inv
    have ox := o x List.mem_cons_self
    have oy := o' y List.mem_cons_self
    unfold cmpB.go at h
    simp only [Bool.and_eq_true, beq_iff_eq] at h
    obtain ⟨⟨h1, h2⟩, h3⟩ := h
    have e : decide ((v :: vr).length < (u :: ur).length) = decide (vr.length < ur.length) := by simp
    rw [List.zip_cons_cons, e]
    refine PySem.W.kat_cons (r1.eq r1' ox oy (by omega) prog w _ _ ?_)
    refine PySem.W.kat_go (fun et => ?_) fun ef => ?_
    · rw [h1, decide_eq_true_eq] at et
      unfold dltL at q
      rw [if_pos et] at q
      exact PySem.W.kat_yes (kat_of hu xs ys vr ur (i + 1) r2 r2' (fun z m => o z (List.mem_cons_of_mem _ m)) (fun z m => o' z (List.mem_cons_of_mem _ m)) h3 (fun _ z => absurd z (Nat.succ_ne_zero i)) q)
    · rw [ef, Bool.false_or] at h2
      rw [h1, decide_eq_false_iff_not] at ef
      unfold dltL at q
      rw [if_neg ef] at q
      refine PySem.W.kat_no ?_
      by_cases hz : b = true ∧ i = 0
      · obtain ⟨rfl, rfl⟩ := hz
        show wpAny _ _ (oneLt' true v u) _ _ _
        rcases hb rfl rfl x y rfl rfl with ⟨t1, t2⟩ | ⟨t1, t2⟩
        · obtain ⟨a, rfl⟩ := tag0 t1
          obtain ⟨a', rfl⟩ := tag0 t2
          unfold CR at r1 r1'
          obtain ⟨t, rfl⟩ := r1
          obtain ⟨t', rfl⟩ := r1'
          rw [dlt_int] at q
          exact oneLt_int q
        · obtain ⟨a, rfl⟩ := tag1 t1
          obtain ⟨a', rfl⟩ := tag1 t2
          unfold CR at r1 r1'
          obtain ⟨t, rfl⟩ := r1
          obtain ⟨t', rfl⟩ := r1'
          rw [dlt_str] at q
          exact oneLt_str q
      · have eb : (b && i == 0) = false := by
          cases b with
          | false => rfl
          | true => simp at hz ⊢; exact hz
        rw [eb]
        exact PySem.W.kat_one _ _ (CR.lt n A x y v u r1 r1' ox oy h2 hu prog w _ (PySem.W.BoolBack Q) (show Q (dlt x y) s from q))
theorem crl_strs {h : Heap} : ∀ {ds : List D} {vs : List Value}, CRL h ds vs → (∀ d ∈ ds, tagD d = 1) → ∃ ss, StrsAre vs ss
  | [], vs, c, _ => by rw [c.nil_inv]; exact ⟨_, .nil⟩
  | d :: ds, vs, c, t => by
    obtain ⟨v, vr, rfl, r1, r2⟩ := c.cons_inv
    obtain ⟨x, rfl⟩ := tag1 (t d List.mem_cons_self)
    unfold CR at r1
    obtain ⟨t', rfl⟩ := r1
    obtain ⟨ss, h⟩ := crl_strs r2 fun z m => t z (List.mem_cons_of_mem _ m)
    exact ⟨_, .cons _ _ h⟩
theorem crl_ints {h : Heap} : ∀ {ds : List D} {vs : List Value}, CRL h ds vs → (∀ d ∈ ds, tagD d = 0) → ∃ ss, IntsAre vs ss
  | [], vs, c, _ => by rw [c.nil_inv]; exact ⟨_, .nil⟩
  | d :: ds, vs, c, t => by
    obtain ⟨v, vr, rfl, r1, r2⟩ := c.cons_inv
    obtain ⟨x, rfl⟩ := tag0 (t d List.mem_cons_self)
    unfold CR at r1
    obtain ⟨t', rfl⟩ := r1
    obtain ⟨ss, h⟩ := crl_ints r2 fun z m => t z (List.mem_cons_of_mem _ m)
    exact ⟨_, .cons _ _ h⟩
theorem crl_mem {h : Heap} : ∀ {ds : List D} {vs : List Value}, CRL h ds vs → ∀ v ∈ vs, ∃ d ∈ ds, CR h d v
  | [], vs, c, v, m => by rw [c.nil_inv] at m; cases m
  | d :: ds, vs, c, v, m => by
    obtain ⟨u, vr, rfl, r1, r2⟩ := c.cons_inv
    rcases List.mem_cons.mp m with rfl | m
    · exact ⟨d, List.mem_cons_self, r1⟩
    · obtain ⟨e, h1, h2⟩ := crl_mem r2 v m
      exact ⟨e, List.mem_cons_of_mem _ h1, h2⟩
/-- the type of the heads -/
def tyT (k : Nat) : Value := if k = 0 then .type "int" else if k = 1 then .type "str" else .type "tuple"
theorem crl_tups {h : Heap} {k : Nat} (hk : k < 3) : ∀ {ds : List D} {vs : List Value}, CRL h ds vs → (∀ d ∈ ds, headT d = some k) → ∃ fs, PySem.W.KatTups h vs fs ∧ fs.length = ds.length ∧ ∀ M : Model, ∀ v ∈ fs, Looks M h (typeOf v) (tyT k)
  | [], vs, c, _ => by rw [c.nil_inv]; exact ⟨[], .nil, rfl, fun _ _ m => by cases m⟩
  | d :: ds, vs, c, t => by
    obtain ⟨v, vr, rfl, r1, r2⟩ := c.cons_inv
    obtain ⟨x, r, rfl, hx⟩ := head_inv (t d List.mem_cons_self)
    unfold CR at r1
    obtain ⟨a, o, its, n, rfl, h1, h2, h3, h4⟩ := r1
    obtain ⟨f, fr, ef, c1, c2⟩ := h4.cons_inv
    obtain ⟨fs, k1, k2, k3⟩ := crl_tups hk r2 fun z m => t z (List.mem_cons_of_mem _ m)
    refine ⟨f :: fs, .cons h1 h2 h3 (by rw [← Array.getElem?_toList, ef]; rfl) k1, by simp [k2], fun M v m => ?_⟩
    rcases List.mem_cons.mp m with rfl | m
    · match k, hx, hk with
      | 0, hx, _ =>
        obtain ⟨i, rfl⟩ := tag0 hx
        unfold CR at c1
        obtain ⟨t', rfl⟩ := c1
        exact Looks.of_pure rfl
      | 1, hx, _ =>
        obtain ⟨i, rfl⟩ := tag1 hx
        unfold CR at c1
        obtain ⟨t', rfl⟩ := c1
        exact Looks.of_pure rfl
      | 2, hx, _ =>
        obtain ⟨i, rfl⟩ := tag2 hx
        unfold CR at c1
        obtain ⟨a', o', its', n', rfl, g1, g2, _⟩ := c1
        have : tyT 2 = o'.cls := by rw [g2]; rfl
        rw [this]
        exact (Looks.ld g1).andThen .now
    · exact k3 M v m
open Classical in
noncomputable def rkOf (h : Heap) (v : Value) : D := if e : ∃ d, CR h d v then choose e else .non
theorem rk_eq {h : Heap} {d : D} {v : Value} (c : CR h d v) : rkOf h v = d := by
  unfold rkOf
  have e : ∃ d, CR h d v := ⟨d, c⟩
  rw [dif_pos e]
  exact CR.fn _ _ _ (Classical.choose_spec e) c
theorem rk_map {h : Heap} : ∀ {ds : List D} {vs : List Value}, CRL h ds vs → vs.map (rkOf h) = ds
  | [], vs, c => by rw [c.nil_inv]; rfl
  | d :: ds, vs, c => by
    obtain ⟨v, vr, rfl, r1, r2⟩ := c.cons_inv
    rw [List.map_cons, rk_eq r1, rk_map r2]
noncomputable abbrev ltR (h : Heap) (v u : Value) : Bool := dlt (rkOf h v) (rkOf h u)
theorem sortable_of {h0 : Heap} {a : Addr} {ds : List D} {vs : List Value} (c : CRL h0 ds vs) (hs : sortOk ds = true) (h2 : 2 ≤ vs.length) (hk : ∀ b o, h0.get? b = some o → b ≠ a ∧ s.heap.get? b = some o) (hu : A.units + 80 < cLine) :
    SrtO.SortableO prog w A s a vs (ltR h0) := by
  intro h' k'
  have kk : ∀ b o, h0.get? b = some o → h'.get? b = some o := fun b o e => k' b o (hk b o e).1 (hk b o e).2
  have c' := CRL.mono kk ds vs c
  have len := c.length
  unfold sortOk at hs
  simp only [Bool.and_eq_true, Bool.or_eq_true, decide_eq_true_eq, List.all_eq_true, beq_iff_eq] at hs
  obtain ⟨⟨_, ok⟩, hs⟩ := hs
  rcases hs with hs | ⟨hs, hc⟩
  · omega
  have rkm : ∀ v ∈ vs, ∃ d ∈ ds, CR h' d v ∧ rkOf h0 v = d := fun v m => by
    obtain ⟨d, h1, h2⟩ := crl_mem c v m
    exact ⟨d, h1, CR.mono kk d v h2, rk_eq h2⟩
  have tups : ∀ k : Nat, k < 3 → (∀ d ∈ ds, headT d = some k) → ∃ κ,
    (∀ (Q : SortKind → Shared → Prop) (E : Value → Shared → Prop), Q κ { s with heap := h' } → wpAny (model prog w) A (keyKind' vs.toArray) Q E { s with heap := h' }) ∧
    SrtO.Cmp prog w A { s with heap := h' } κ (fun p => p.1 ∈ vs) (SrtO.lt2 (ltR h0)) := fun k hk3 hh => by
    obtain ⟨fs, k1, k2, k3⟩ := crl_tups hk3 c' hh
    refine ⟨tuples' (tyT k != Value.type "tuple"), fun Q E hq => PySem.W.kat_kind (T := tyT k) k1 (by omega) (k3 _) (by match k, hk3 with | 0, _ => rfl | 1, _ => rfl | 2, _ => rfl) hq, fun p q hp hq => ?_⟩
    obtain ⟨d, md, cd, ed⟩ := rkm _ hp
    obtain ⟨e, me, ce, ee⟩ := rkm _ hq
    obtain ⟨x, xr, rfl, hx⟩ := head_inv (hh d md)
    obtain ⟨y, yr, rfl, hy⟩ := head_inv (hh e me)
    have hcc := hc _ md _ me
    simp only [cmpB] at hcc
    show wpAny _ _ _ (fun r s' => s' = _ ∧ r = dlt (rkOf h0 p.1) (rkOf h0 q.1)) _ _
    rw [ed, ee, dlt_tup]
    unfold CR at cd ce
    obtain ⟨a1, o1, i1, n1, e1, g1, g2, g3, g4⟩ := cd
    obtain ⟨a2, o2, i2, n2, e2, f1, f2, f3, f4⟩ := ce
    rw [e1, e2]
    refine PySem.W.kat_lt g1 g3 f1 f3 ?_
    have := kat_of (prog := prog) (w := w) (A := A) (s := { s with heap := h' }) (n := 7) (b := (tyT k != Value.type "tuple")) (Q := fun r s' => s' = { s with heap := h' } ∧ r = dltL (x :: xr) (y :: yr)) (by omega) (x :: xr) (y :: yr) i1.toList i2.toList 0 g4 f4
      (fun z m => by
        obtain ⟨j, hj⟩ := List.mem_iff_getElem?.mp m
        exact okD_tup (ok _ md) (Nat.le_refl _) hj)
      (fun z m => by
        obtain ⟨j, hj⟩ := List.mem_iff_getElem?.mp m
        exact okD_tup (ok _ me) (Nat.le_refl _) hj) hcc
      (fun hb _ x' y' ex ey => by
        simp at ex ey
        subst ex ey
        match k, hk3, hx, hy, hb with
        | 0, _, hx, hy, _ => exact .inl ⟨hx, hy⟩
        | 1, _, hx, hy, _ => exact .inr ⟨hx, hy⟩
        | 2, _, hx, hy, hb => exact absurd hb (by decide)) ⟨rfl, rfl⟩
    rw [Array.length_toList, Array.length_toList] at this
    exact this
  rcases hs with (((hs | hs) | hs) | hs) | hs
  · obtain ⟨ns, hI⟩ := crl_ints c' hs
    refine ⟨oneType', fun Q E hq => ?_, fun p q hp hq => ?_⟩
    · match vs, hI, h2 with
      | v1 :: v2 :: rest, hI, _ =>
        rw [keyKind_ints hI]
        exact wpAny_pure hq
      | [], _, h => exact absurd h (by decide)
      | [v], _, h => exact absurd h (by simp)
    · obtain ⟨d, md, cd, ed⟩ := rkm _ hp
      obtain ⟨e, me, ce, ee⟩ := rkm _ hq
      obtain ⟨i, rfl⟩ := tag0 (hs d md)
      obtain ⟨j, rfl⟩ := tag0 (hs e me)
      show wpAny _ _ _ (fun r s' => s' = _ ∧ r = dlt (rkOf h0 p.1) (rkOf h0 q.1)) _ _
      rw [ed, ee, dlt_int]
      unfold CR at cd ce
      obtain ⟨t, e1⟩ := cd
      obtain ⟨t', e2⟩ := ce
      rw [e1, e2, keyLt'_oneType]
      exact oneLt_int ⟨rfl, rfl⟩
  · obtain ⟨ns, hI⟩ := crl_strs c' hs
    refine ⟨oneType', fun Q E hq => ?_, fun p q hp hq => ?_⟩
    · match vs, hI, h2 with
      | v1 :: v2 :: rest, hI, _ =>
        rw [keyKind_strs hI]
        exact wpAny_pure hq
      | [], _, h => exact absurd h (by decide)
      | [v], _, h => exact absurd h (by simp)
    · obtain ⟨d, md, cd, ed⟩ := rkm _ hp
      obtain ⟨e, me, ce, ee⟩ := rkm _ hq
      obtain ⟨i, rfl⟩ := tag1 (hs d md)
      obtain ⟨j, rfl⟩ := tag1 (hs e me)
      show wpAny _ _ _ (fun r s' => s' = _ ∧ r = dlt (rkOf h0 p.1) (rkOf h0 q.1)) _ _
      rw [ed, ee, dlt_str]
      unfold CR at cd ce
      obtain ⟨t, e1⟩ := cd
      obtain ⟨t', e2⟩ := ce
      rw [e1, e2, keyLt'_oneType]
      exact oneLt_str ⟨rfl, rfl⟩
  · exact tups 0 (by omega) hs
  · exact tups 1 (by omega) hs
  · exact tups 2 (by omega) hs
end

/-! ### the order, in plain -/
def dins (x : D) : List D → List D
  | [] => [x]
  | y :: r => if dlt y x then y :: dins x r else x :: y :: r
def dsort : List D → List D
  | [] => []
  | x :: r => dins x (dsort r)
theorem dins_perm (x : D) : ∀ l : List D, (dins x l).Perm (x :: l)
  | [] => List.Perm.refl _
  | y :: r => by
    unfold dins
    split
    · exact ((dins_perm x r).cons y).trans (List.Perm.swap x y r)
    · exact List.Perm.refl _
theorem dsort_perm : ∀ l : List D, (dsort l).Perm l
  | [] => List.Perm.refl _
  | x :: r => (dins_perm x _).trans ((dsort_perm r).cons x)
theorem dins_srtd (x : D) : ∀ {l : List D}, SrtO.Srtd dlt l → SrtO.Srtd dlt (dins x l)
  | [], _ => List.pairwise_singleton _ _
  | y :: r, h => by
    have O : SrtO.Swo dlt := dlt_swo id
    obtain ⟨h1, h2⟩ := List.pairwise_cons.mp h
    unfold dins
    split
    · rename_i hy
      refine List.pairwise_cons.mpr ⟨fun z m => ?_, dins_srtd x h2⟩
      rcases List.mem_cons.mp ((dins_perm x r).mem_iff.mp m) with rfl | m
      · exact O.asym _ _ hy
      · exact h1 z m
    · rename_i hy
      refine List.pairwise_cons.mpr ⟨fun z m => ?_, h⟩
      have hy : dlt y x = false := by simpa using hy
      rcases List.mem_cons.mp m with rfl | m
      · exact hy
      · exact O.tr _ _ _ hy (h1 z m)
theorem dsort_srtd : ∀ l : List D, SrtO.Srtd dlt (dsort l)
  | [] => List.Pairwise.nil
  | x :: r => dins_srtd x (dsort_srtd r)
theorem dins_cls (x z : D) : ∀ {l : List D}, SrtO.Srtd dlt l → (dins x l).filter (SrtO.eqv dlt z) = (x :: l).filter (SrtO.eqv dlt z)
  | [], _ => rfl
  | y :: r, h => by
    have O : SrtO.Swo dlt := dlt_swo id
    obtain ⟨h1, h2⟩ := List.pairwise_cons.mp h
    unfold dins
    split
    · rename_i hy
      rw [List.filter_cons, dins_cls x z h2, List.filter_cons, List.filter_cons (x := x), List.filter_cons (x := y)]
      by_cases ey : SrtO.eqv dlt z y = true
      · by_cases ex : SrtO.eqv dlt z x = true
        · exfalso
          obtain ⟨a1, a2⟩ := SrtO.eqv_iff.mp ey
          obtain ⟨b1, b2⟩ := SrtO.eqv_iff.mp ex
          have hz := O.tr x z y b1 a2
          rw [hy] at hz
          cases hz
        · rw [if_neg ex, if_neg ex]
      · rw [if_neg ey, if_neg ey]
    · rfl
theorem dsort_stb : ∀ l : List D, SrtO.Stb dlt (dsort l) l := fun l => ⟨dsort_perm l, fun z => by
  induction l with
  | nil => rfl
  | cons x r ih =>
    show (dins x (dsort r)).filter _ = _
    rw [dins_cls x z (dsort_srtd r), List.filter_cons, List.filter_cons, ih]⟩
end PF

set_option Elab.async false
set_option linter.all false
set_option maxRecDepth 100000
set_option maxHeartbeats 4000000
/-! PF16: sorted of lists, of the items of dicts. -/
namespace PF
open PySem PySem.Spec PyProof.Rows L2

theorem CRL.of_get {h : Heap} : ∀ {ds : List D} {vs : List Value}, vs.length = ds.length → (∀ (i : Nat) (d : D) (v : Value), ds[i]? = some d → vs[i]? = some v → CR h d v) → CRL h ds vs
  | [], [], _, _ => CRL.nil
  | [], v :: vs, h, _ => by simp at h
  | d :: ds, [], h, _ => by simp at h
  | d :: ds, v :: vs, h, f => CRL.cons (f 0 d v rfl rfl) (CRL.of_get (by simpa using h) fun i d' v' e e' => f (i + 1) d' v' (by simpa using e) (by simpa using e'))
theorem repL_map {K : PySem.W.Frag} {H : Hp} {α : Type} (g : α → D) (f : α → V) : ∀ {l : List α}, (∀ u ∈ l, Rep K H (g u) (f u)) → RepL K H (l.map g) (l.map f)
  | [], _ => RepL.nil
  | a :: l, h => RepL.cons (h a List.mem_cons_self) (repL_map g f fun u m => h u (List.mem_cons_of_mem _ m))
theorem vals_map {f : Value → V} : ∀ {l : List Value}, (∀ u ∈ l, RelV (f u) u) → Vals (l.map f) l
  | [], _ => .nil
  | a :: l, h => .cons (h a List.mem_cons_self) (vals_map fun u m => h u (List.mem_cons_of_mem _ m))
theorem sortOk_pu {ds : List D} (h : sortOk ds = true) : puL ds = true := by
  unfold sortOk at h
  simp only [Bool.and_eq_true] at h
  exact h.1.1
/-- the sorted values are the sorted data -/
theorem out_rk {h : Heap} {ds : List D} {its out : List Value} (c : CRL h ds its) (h1 : SrtO.Srtd (ltR h) out) (h2 : SrtO.Stb (ltR h) out its) : out.map (rkOf h) = dsort ds := by
  have O : SrtO.Swo dlt := dlt_swo id
  have e := SrtO.Stb.map (lt := dlt) O (rkOf h) h2
  rw [rk_map c] at e
  have q := dsort_stb ds
  exact SrtO.stb_uniq O (SrtO.srtd_map h1) (dsort_srtd ds) ⟨e.perm.trans q.perm.symm, fun x => (e.cls x).trans (q.cls x).symm⟩
def rSortD (K : PySem.W.Frag) : List V → Hp → VK → Prop := fun xs H Q => ∃ (a : Addr) (vs : List V) (ds : List D), xs = [.ref a] ∧ SqL K H a vs ∧ RepL K H ds vs ∧ sortOk ds = true ∧
  ∀ (p : Addr) (ys : List V), H p = none → RepL K H (dsort ds) ys → Q (.ref p) (upd H p (.lst ys))
section
variable {X : Cx}
theorem rel_of {pins : List (Addr × Obj)} {σ : L2.St} {H : Hp} {s : Shared} {ds : List D} {vs : List V} {its : List Value} (I : Inv X pins σ H s) (p : puL ds = true) (r : RepL X.K H ds vs) (rv : Vals vs its) : ∀ u ∈ its, ∃ v, RelV v u ∧ Rep X.K H (rkOf s.heap u) v := by
  induction ds generalizing vs its with
  | nil =>
    rw [r.nil_inv] at rv
    cases rv
    intro u m
    cases m
  | cons d ds ih =>
    obtain ⟨v, vr, rfl, r1, r2⟩ := r.cons_inv
    unfold puL at p
    rw [Bool.and_eq_true] at p
    cases rv with
    | @cons _ u _ ur q1 q2 =>
      intro u' m
      rcases List.mem_cons.mp m with rfl | m
      · refine ⟨v, q1, ?_⟩
        rw [rk_eq (CR.of I d v _ p.1 r1 q1)]
        exact r1
      · exact ih p.2 r2 q2 u' m
open Classical in
theorem cr_sortD (hu : X.A.units + 100 < cLine) : CallR X (.builtin "sorted") (rSortD X.K) := by
  intro pins s σ H xs us Q I r h
  obtain ⟨a, vs, ds, rfl, hs, hr, ok, q⟩ := h
  obtain ⟨its, rv, hl, hz⟩ := I.list hs
  rw [Vals.ref1 r]
  have pu := sortOk_pu ok
  have c := CRL.of I ds vs its pu hr rv
  have rel := rel_of I pu hr rv
  have hin : X.A.in1.in1.units ≤ X.A.units + 2 := by first | exact Nat.le_refl _ | (simp [Around.in1])
  refine SrtO.sorted_ord (ltv := ltR s.heap) (dlt_swo (rkOf s.heap)) hl.isList (by rw [← rv.length]; exact hz) (fun h2 h₁ a' _ k => sortable_of (s := { s with heap := h₁ }) c ok h2 k (by omega)) fun out h1 h2 => ?_
  obtain ⟨ep, he'⟩ := PyProof.Rows.sortedAll_at s.heap its out.toArray
  have relo : ∀ u ∈ out, ∃ v, RelV v u ∧ Rep X.K H (rkOf s.heap u) v := fun u m => rel u (h2.perm.mem_iff.mp m)
  obtain ⟨f, hf⟩ : ∃ f : Value → V, ∀ u ∈ out, RelV (f u) u ∧ Rep X.K H (rkOf s.heap u) (f u) :=
    ⟨fun u => if m : u ∈ out then Classical.choose (relo u m) else .non, fun u m => by simp only [dif_pos m]; exact Classical.choose_spec (relo u m)⟩
  have rr : RepL X.K H (dsort ds) (out.map f) := by
    rw [← out_rk c h1 h2]
    exact repL_map _ f fun u m => (hf u m).2
  have hlen : (out.map f).length ≤ sizeLine := by
    rw [List.length_map, h2.perm.length_eq, ← rv.length]
    exact hz
  exact ⟨.ref _, upd H (s.heap.objs.size + 1) (.lst (out.map f)), I.laid (t' := s.toks) (fun _ _ => PyProof.Rows.sortedAll_old) (Nat.le_succ _) ⟨hlen, out, ep, vals_map fun u m => (hf u m).1, he'⟩, rfl, q _ _ (I.hok.fresh (Nat.le_succ _)) rr⟩
end
/-- sorted(xs) -/
def eSortF (x : DF) : Option DF := match x.1 with
  | .lst ds => if sortOk ds then some (.lst (dsort ds), .fr 1) else none
  | _ => none
theorem puL_iff : ∀ {ds : List D}, puL ds = true ↔ ∀ d ∈ ds, puD d = true
  | [] => by simp [puL]
  | d :: ds => by
    unfold puL
    rw [Bool.and_eq_true, puL_iff (ds := ds)]
    simp
theorem puL_perm {ds es : List D} (p : ds.Perm es) (h : puL ds = true) : puL es = true := puL_iff.mpr fun d m => puL_iff.mp h d (p.mem_iff.mpr m)
section
variable {K : PySem.W.Frag}
theorem g_sort : UnG K (fun v => rSortD K [v]) eSortF := fun H0 H σ ρ O T B st s x z v Q e r q => by
  unfold eSortF at e
  split at e
  · rename_i ds ex
    split at e
    · rename_i ok
      cases e
      obtain ⟨dx, fx⟩ := x
      simp only at ex
      subst ex
      obtain ⟨a, vs, rfl, h1, h2, _⟩ := r.items st s
      refine ⟨a, vs, ds, rfl, h1, h2, ok, fun p ys hp hr => q _ _ (same_new hp) ?_⟩
      have pu : puL (dsort ds) = true := puL_perm (dsort_perm ds).symm (sortOk_pu ok)
      exact Res.newL st s (RepL.rst (st.soft s) _ _ pu hr) hp
    · cases e
  · cases e
end

/-! ### sorted(d.items()) -/
theorem keyOf_rep' {K : PySem.W.Frag} {H : Hp} {d : D} {k : Key} (h : keyOf d = some k) : Rep K H d (kV k) := by
  cases d <;> simp [keyOf] at h <;> subst h <;> unfold Rep <;> rfl
theorem keysOf_rep' {K : PySem.W.Frag} {H : Hp} : ∀ {ds : List D} {ks : List Key}, keysOf ds = some ks → RepL K H ds (ks.map kV)
  | [], ks, h => by cases h; exact RepL.nil
  | d :: ds, ks, h => by
    unfold keysOf at h
    split at h
    · rename_i k1 kr e1 e2
      cases h
      exact RepL.cons (keyOf_rep' e1) (keysOf_rep' e2)
    · cases h
theorem map_at {α β γ : Type} {f : α → γ} {g : β → γ} : ∀ {l : List α} {m : List β} {j : Nat} {x : α} {y : β}, l.map f = m.map g → l[j]? = some x → m[j]? = some y → f x = g y := fun {l m j x y} h e e' => by
  have h1 := congrArg (fun z => z[j]?) h
  simp only [List.getElem?_map, e, e', Option.map_some] at h1
  exact Option.some.inj h1
theorem pairs_at {prog : Program} {w : World} {K : Type} [DecidableEq K] {knd : PySem.KeyKind prog w K} : ∀ {es : List DictEntry} {kvs : List (K × Value)} {j : Nat} {kv : K × Value}, Pairs knd es kvs → kvs[j]? = some kv → ∃ e, es[j]? = some e ∧ knd.is kv.1 e.key = true ∧ e.val = kv.2
  | _, _, j, kv, .nil, h => by simp at h
  | _, _, 0, kv, .cons h1 h2 r, h => by
    simp at h
    subst h
    exact ⟨_, rfl, h1, h2⟩
  | _, _, j + 1, kv, .cons h1 h2 r, h => by
    obtain ⟨e, q⟩ := pairs_at (j := j) r (by simpa using h)
    exact ⟨e, by simpa using q⟩
theorem paired_at {α β : Type} {F : α → β → Prop} {l : List α} {m : List β} {j : Nat} {x : α} (h : Paired F l m) (e : l[j]? = some x) : ∃ y, m[j]? = some y ∧ F x y := by
  have hj : j < m.length := by rw [← h.length]; exact (List.getElem?_eq_some_iff.mp e).1
  obtain ⟨x', e', f⟩ := L2.DX.pget h (List.getElem?_eq_getElem hj)
  rw [e] at e'
  cases e'
  exact ⟨_, List.getElem?_eq_getElem hj, f⟩
section
variable {X : Cx} {pins : List (Addr × Obj)} {σ : L2.St} {H R : Hp} {s : Shared}
theorem DicAt.raw {sh : Bool} {t : DK} {kvs : List (D × D)} {a : Addr} (I : Inv X pins σ H s) (h : DicAt X.K H R sh t kvs a) :
    (a == sysModules) = false ∧ ∃ es ep, DT.Raw s.heap a es ep ∧ es.size = kvs.length ∧ kvs.length ≤ sizeLine ∧ ∀ (j : Nat) (kv : D × D), (t = .k ∨ mB = false) → kvs[j]? = some kv → ∃ (e : DictEntry) (vk vv : V), es[j]? = some e ∧ RelV vk e.key ∧ RelV vv e.val ∧ Rep X.K H kv.1 vk ∧ Rep X.K H kv.2 vv := by
  rcases h with ⟨rfl, ks, h1, h2, h3, _⟩ | ⟨rfl, ks, h1, h2, h3, _⟩
  · obtain ⟨z, hd, vs, rel, o, es, ep, ho, hx, hdat, _, hp, _⟩ := dk_rd I.hok h1
    have l0 : kvs.length = ks.length := by
      have := congrArg List.length h2
      simpa using this
    have l1 : ks.length = vs.length := rel.length
    have l2 : es.size = vs.length := by rw [← Array.length_toList]; exact hp.length
    refine ⟨hd, es, ep, ⟨o, ho, hx, hdat⟩, by omega, by omega, fun j kv hm hj => ?_⟩
    have hjk : j < ks.length := by rw [← l0]; exact (List.getElem?_eq_some_iff.mp hj).1
    have ek := List.getElem?_eq_getElem hjk
    have e1 := map_at h2 hj ek
    obtain ⟨q, eq, r1, r2⟩ := paired_at rel ek
    obtain ⟨e, ee, k1, k2⟩ := pairs_at hp eq
    obtain ⟨vv, ev, rv⟩ := h3.get (i := j) (d := kv.2) (by rw [List.getElem?_map, hj]; rfl)
    rw [List.getElem?_map, ek] at ev
    cases ev
    refine ⟨e, kV ks[j].1, ks[j].2, by rw [← Array.getElem?_toList]; exact ee, ?_, by rw [k2]; exact r2, keyOf_rep' e1, rv⟩
    rw [r1]
    rcases keyIs_shape k1 with ⟨i, t, e3, e4⟩ | ⟨x, t, e3, e4⟩
    · rw [e3, e4]
      exact ⟨t, rfl⟩
    · rw [e3, e4]
      exact ⟨t, rfl⟩
  · obtain ⟨z, hd, xs', rel, o, es, ep, ho, hx, hdat, hes, his, hn⟩ := dt_rd I.hok h1
    have l0 : kvs.length = ks.length := by
      have := congrArg List.length h2
      simpa using this
    have l1 : ks.length = xs'.length := rel.length
    have l2 : es.size = xs'.length := size_of_entries hes
    refine ⟨hd, es, ep, ⟨o, ho, hx, hdat⟩, by omega, by omega, fun j kv hm hj => ?_⟩
    have hjk : j < ks.length := by rw [← l0]; exact (List.getElem?_eq_some_iff.mp hj).1
    have ek := List.getElem?_eq_getElem hjk
    have e1 := map_at h2 hj ek
    obtain ⟨q, eq, r1, r2, r3⟩ := paired_at rel ek
    obtain ⟨vv, ev, rv⟩ := h3.get (i := j) (d := kv.2) (by rw [List.getElem?_map, hj]; rfl)
    rw [List.getElem?_map, ek] at ev
    cases ev
    refine ⟨entryOfKey (tupleKind (mixKind X.prog X.w)) q, .ref q.2.1, ks[j].2, by rw [entry_at hes j, eq]; rfl, rfl, r3, ?_, rv⟩
    cases hk : kv.1 <;> rw [hk] at e1 <;> simp [tkeyOf] at e1
    unfold Rep
    exact ⟨_, _, rfl, TupAt.of (hm.resolve_left (fun z => by cases z)) r2, keysOf_rep' e1⟩
end
theorem takeO {X : Cx} {pins : List (Addr × Obj)} {σ : L2.St} {H0 : Hp} {s : Shared} {h' : Heap} {tk : Nat} {P : Addr → HO → Prop} (I0 : Inv X pins σ H0 s) : ∀ (L : List Addr) (H1 : Hp), Inv X pins σ H1 { s with heap := h', toks := tk } → L.Nodup →
    (∀ a ∈ L, s.heap.objs.size ≤ a ∧ H1 a = none ∧ ∃ o, P a o ∧ ∀ H2, ObjOk X.prog X.w H2 h' a o) →
    ∃ H2, Inv X pins σ H2 { s with heap := h', toks := tk } ∧ (∀ b o, H1 b = some o → H2 b = some o) ∧ ∀ a ∈ L, ∃ o, P a o ∧ H2 a = some o
  | [], H1, I1, _, _ => ⟨H1, I1, fun _ _ e => e, fun _ h => nomatch h⟩
  | a :: L, H1, I1, hn, h => by
    obtain ⟨hb, hnone, o, hP, ok⟩ := h a (List.mem_cons_self ..)
    have I2 : Inv X pins σ (upd H1 a o) { s with heap := h', toks := tk } := I1.take (h' := h') (t' := tk) (fun b ob _ e => e) (I0.fpOk hb hnone) (ok _)
    rw [List.nodup_cons] at hn
    obtain ⟨H2, I3, g, q⟩ := takeO I0 L (upd H1 a o) I2 hn.2 fun c hc => by
      obtain ⟨c1, c2, c3⟩ := h c (List.mem_cons_of_mem _ hc)
      exact ⟨c1, by rw [upd_ne (fun z => hn.1 (by rw [← z]; exact hc))]; exact c2, c3⟩
    refine ⟨H2, I3, fun b o' e => g b o' (by rw [upd_ne (ne_of_none e hnone)]; exact e), fun c hc => ?_⟩
    rcases List.mem_cons.mp hc with rfl | hc
    · exact ⟨o, hP, g _ _ upd_same⟩
    · exact q c hc
/-- a new tuple's object, tracked as new tuples are -/
theorem isTO_ok {P : Program} {w : World} {h : Heap} {a : Addr} {its : List Value} {vs : List V} (r : Vals vs its) (hz : vs.length ≤ sizeLine) (e : h.get? a = some { cls := .type "tuple", data := .seq its.toArray }) : ∃ o, IsTO o vs ∧ ∀ H, ObjOk P w H h a o := by
  by_cases hm : mB = true
  · exact ⟨.frz { cls := .type "tuple", data := .seq its.toArray } (.tup vs), by unfold IsTO; rw [if_pos hm]; exact ⟨its, rfl⟩, fun H => ⟨e, hz, its, r, ⟨_, e, rfl, 0, rfl⟩⟩⟩
  · exact ⟨.tup vs, by unfold IsTO; rw [if_neg hm], fun H => ⟨hz, its, r, ⟨_, e, rfl, 0, rfl⟩⟩⟩
/-- the pairs of a dict -/
def prD (kvs : List (D × D)) : List D := kvs.map fun p => .tup [p.1, p.2]
def rItemsD (K : PySem.W.Frag) : V → List V → Hp → VK → Prop := fun x xs H Q => ∃ (a : Addr) (t : DK) (kvs : List (D × D)), x = .ref a ∧ xs = [] ∧ DicAt K H H false t kvs a ∧ ∀ p, H p = none → Q (.ref p) (upd H p (L2.DX.itemsO p a))
def rSortItD (K : PySem.W.Frag) : List V → Hp → VK → Prop := fun vs H Q => ∃ (p a : Addr) (t : DK) (kvs : List (D × D)), vs = [.ref p] ∧ H p = some (L2.DX.itemsO p a) ∧ DicAt K H H false t kvs a ∧ (t = .k ∨ mB = false) ∧ sortOk (prD kvs) = true ∧
  ∀ (H' : Hp) (l : Addr) (ys : List V), Same H H' → H l = none → H' l = some (.lst ys) → RepL K H' (dsort (prD kvs)) ys → Q (.ref l) H'
section
variable {X : Cx}
theorem mt_itemsD : MtR X "dict.items" (rItemsD X.K) := by
  intro pins s σ H x xs v us Q I rx rxs h
  obtain ⟨a, t, kvs, rfl, rfl, ha, q⟩ := h
  cases rx
  cases rxs
  obtain ⟨hd, es, ep, hr, _⟩ := ha.raw I
  refine DT.callItems (es := es) (ep := ep) hd hr ?_
  have hf : H s.heap.objs.size = none := I.hok.fresh (Nat.le_refl _)
  exact ⟨.ref s.heap.objs.size, upd H s.heap.objs.size (L2.DX.itemsO s.heap.objs.size a), I.laid (t' := s.toks) (fun b u e => Heap.get?_push_of_some _ e) (Nat.le_refl _) (L2.DX.itemsO_ok (Heap.get?_push_size _ rfl)), rfl, q _ hf⟩
theorem cr_sortItD (hc : X.calm = true) (hu : X.A.units + 100 < cLine) : CallR X (.builtin "sorted") (rSortItD X.K) := by
  intro pins s σ H xs us Q I r h
  obtain ⟨p, a, t, kvs, rfl, hp, ha, hmd, ok, q⟩ := h
  obtain rfl := Vals.ref1 r
  have view : s.heap.IsItemsView p a := (show ObjOk X.prog X.w H s.heap p (L2.DX.itemsO p a) from I.hok p _ hp).1
  obtain ⟨hd, es, ep, hr, l1, l2, at0⟩ := ha.raw I
  have hh : X.A.handled = none := I.ok.hd hc
  refine DT.sortedI (es := es) (ep := ep) hh view hr (by omega) fun h' tk as hk hlt hl hG => ?_
  have nd : as.Nodup := List.Pairwise.imp (fun h => Nat.ne_of_lt h) hG.rise
  have pu := puL_iff.mp (sortOk_pu ok)
  have lpr : (prD kvs).length = kvs.length := by unfold prD; rw [List.length_map]
  -- the pairs that were made
  have pr : ∀ (j : Nat) (b : Addr), as[j]? = some b → ∃ (kv : D × D) (e : DictEntry) (vk vv : V), kvs[j]? = some kv ∧ RelV vk e.key ∧ RelV vv e.val ∧ Rep X.K H kv.1 vk ∧ Rep X.K H kv.2 vv ∧ h'.get? b = some { cls := .type "tuple", data := .seq #[e.key, e.val] } := fun j b hj => by
    obtain ⟨en, he, hg⟩ := hG.pairs j b hj
    have hjl : j < kvs.length := by
      have := (List.getElem?_eq_some_iff.mp hj).1
      omega
    obtain ⟨e, vk, vv, e1, k1, k2, k3, k4⟩ := at0 j _ hmd (List.getElem?_eq_getElem hjl)
    rw [he] at e1
    cases e1
    exact ⟨_, en, vk, vv, List.getElem?_eq_getElem hjl, k1, k2, k3, k4, hg⟩
  have cr1 : ∀ (j : Nat) (b : Addr) (kv : D × D), as[j]? = some b → kvs[j]? = some kv → CR h' (.tup [kv.1, kv.2]) (.ref b) := fun j b kv hj hkv => by
    obtain ⟨kv', e, vk, vv, e1, k1, k2, k3, k4, k5⟩ := pr j b hj
    rw [hkv] at e1
    cases e1
    have p0 := pu (.tup [kv.1, kv.2]) (List.mem_map.mpr ⟨kv, List.mem_of_getElem? hkv, rfl⟩)
    simp only [puD, puL, Bool.and_eq_true] at p0
    unfold CR
    exact ⟨b, _, _, _, rfl, k5, rfl, rfl, CRL.cons (CR.mono hk _ _ (CR.of I _ _ _ p0.1 k3 k1)) (CRL.cons (CR.mono hk _ _ (CR.of I _ _ _ p0.2.1 k4 k2)) CRL.nil)⟩
  have c : CRL h' (prD kvs) (as.map Value.ref) := CRL.of_get (by rw [List.length_map]; omega) fun i d v hd' hv' => by
    rw [List.getElem?_map] at hv'
    unfold prD at hd'
    rw [List.getElem?_map] at hd'
    cases ea : as[i]? with
    | none => rw [ea] at hv'; cases hv'
    | some b =>
      cases ek : kvs[i]? with
      | none => rw [ek] at hd'; cases hd'
      | some kv =>
        rw [ea] at hv'
        rw [ek] at hd'
        cases hv'
        cases hd'
        exact cr1 i b kv ea ek
  -- the heap of the sort
  have hob : (h'.push { cls := .type "list", data := .seq (as.map Value.ref).toArray }).get? h'.objs.size = some (seqObj "list" (as.map Value.ref).toArray 0) := Heap.get?_push_size _ rfl
  have ne0 : ∀ b o, h'.get? b = some o → b ≠ h'.objs.size := fun b o e => Nat.ne_of_lt (Heap.lt_size e)
  generalize hh2 : h'.push { cls := .type "list", data := .seq (as.map Value.ref).toArray } = h2 at hob ⊢
  have ka : ∀ b o, h'.get? b = some o → h2.get? b = some o := fun b o e => by rw [← hh2]; exact Heap.get?_push_of_some _ e
  have hin : X.A.in1.in1.units ≤ X.A.units + 2 := by first | exact Nat.le_refl _ | (simp [Around.in1])
  refine wpAny_call_entry PyProof.Rows.slot_list_sort ⟨_, hob, rfl⟩ PyProof.Rows.entry_list_sort
    (SrtO.list_sort_ord (s := { s with heap := h2, toks := tk }) (ltv := ltR h') (dlt_swo (rkOf h')) hob (by rw [List.length_map]; omega) (fun hl2 => sortable_of (s := { s with heap := h2, toks := tk }) c ok hl2 (fun b o e => ⟨ne0 b o e, ka b o e⟩) (by omega)) fun out o1 o2 => ⟨.none, rfl, ?_⟩) (PyProof.Rows.args_list_sort _)
  show EP X pins σ Q (.ref h'.objs.size) { s with heap := sortedHeap h2 h'.objs.size (as.map Value.ref) out.toArray, toks := tk }
  have kF : ∀ b o, b ≠ h'.objs.size → h2.get? b = some o → (sortedHeap h2 h'.objs.size (as.map Value.ref) out.toArray).get? b = some o := fun b o hb e => (PyProof.Rows.sortedHeap_old hb (Heap.lt_size e)).trans e
  have kS : ∀ b o, s.heap.get? b = some o → (sortedHeap h2 h'.objs.size (as.map Value.ref) out.toArray).get? b = some o := fun b o e => kF b o (ne0 _ _ (hk b o e)) (ka b o (hk b o e))
  obtain ⟨eF, heF⟩ := PyProof.Rows.sortedHeap_at (vs := as.map Value.ref) (out := out.toArray) hob
  have I1 : Inv X pins σ H { s with heap := sortedHeap h2 h'.objs.size (as.map Value.ref) out.toArray, toks := tk } := I.kept (t' := tk) kS
  have hn0 : H h'.objs.size = none := I.hok.fresh (Nat.le_of_lt hlt)
  have inas : ∀ u ∈ out, ∃ b ∈ as, u = Value.ref b := fun u m => by
    obtain ⟨b, hb, e⟩ := List.mem_map.mp (o2.perm.mem_iff.mp m)
    exact ⟨b, hb, e.symm⟩
  have hout : ∀ u ∈ out, ∃ b, u = Value.ref b := fun u m => by
    obtain ⟨b, _, e⟩ := inas u m
    exact ⟨b, e⟩
  have hlen : (out.map backV).length ≤ sizeLine := by
    rw [List.length_map, o2.perm.length_eq, List.length_map]
    omega
  have I2 : Inv X pins σ (upd H h'.objs.size (.lst (out.map backV))) { s with heap := sortedHeap h2 h'.objs.size (as.map Value.ref) out.toArray, toks := tk } :=
    I1.take (h' := sortedHeap h2 h'.objs.size (as.map Value.ref) out.toArray) (t' := tk) (fun b ob _ e => e) (I.fpOk (Nat.le_of_lt hlt) hn0) ⟨hlen, out, eF, vals_back hout, heF⟩
  obtain ⟨H2, I3, g, qt⟩ := takeO (P := fun b o => ∃ (j : Nat) (kv : D × D) (vk vv : V), as[j]? = some b ∧ kvs[j]? = some kv ∧ IsTO o [vk, vv] ∧ Rep X.K H kv.1 vk ∧ Rep X.K H kv.2 vv) I as _ I2 nd fun b hb => by
    obtain ⟨j, hj⟩ := List.mem_iff_getElem?.mp hb
    obtain ⟨kv, e, vk, vv, e1, k1, k2, k3, k4, k5⟩ := pr j b hj
    have hbl : s.heap.objs.size ≤ b := Nat.le_of_lt (hG.above b hb)
    obtain ⟨oN, hoN, okN⟩ := isTO_ok (P := X.prog) (w := X.w) (vs := [vk, vv]) (its := [e.key, e.val]) (.cons k1 (.cons k2 .nil)) (by rw [sizeLine_eq]; show 2 ≤ 16777216; omega) (kF _ _ (ne0 _ _ k5) (ka _ _ k5))
    refine ⟨hbl, ?_, oN, ⟨j, kv, vk, vv, hj, e1, hoN, k3, k4⟩, okN⟩
    rw [upd_ne (ne0 _ _ k5)]
    exact I.hok.fresh hbl
  have gr : Same H H2 := fun b o e => g b o (by rw [upd_ne (ne_of_none e hn0)]; exact e)
  refine ⟨.ref h'.objs.size, H2, I3, rfl, q H2 h'.objs.size (out.map backV) gr hn0 (g _ _ upd_same) ?_⟩
  rw [← out_rk c o1 o2]
  refine repL_map _ backV fun u m => ?_
  obtain ⟨b, hb, rfl⟩ := inas u m
  obtain ⟨oN, ⟨j, kv, vk, vv, hj, hkv, hoN, k3, k4⟩, hH⟩ := qt b hb
  rw [rk_eq (cr1 j b kv hj hkv)]
  unfold Rep
  exact ⟨b, _, rfl, ⟨oN, hH, hoN⟩, RepL.cons (Rep.mono gr _ _ k3) (RepL.cons (Rep.mono gr _ _ k4) RepL.nil)⟩
end
/-- sorted(d.items()) -/
def eSortItF (x : DF) : Option DF := match x.1 with
  | .dic t kvs => if (t = .k ∨ mB = false) ∧ sortOk (prD kvs) = true then some (.lst (dsort (prD kvs)), .fr 1) else none
  | _ => none
def eSortIt (f : EF) : EF := eUn eSortItF f
section
variable {K : PySem.W.Frag} {H H1 : Hp} {σ : L2.St} {ρ : Env} {O : Nat → Addr → Prop} {T : Addr → Prop} {B : Hp} {X : Cx}
theorem Res.newL' {ds : List D} {vs : List V} {p : Addr} (st : Sta K H σ ρ O T B) (s : Same H H1) (n : H p = none) (e : H1 p = some (.lst vs)) (pu : puL ds = true) (h : RepL K H1 ds vs) : Res K H H1 O T (.lst ds) (.fr 1) (.ref p) := by
  have sf : Soft H1 (fun a => Un O T a ∨ a = p) := fun a o ea q => by
    rcases q with q | rfl
    · exact st.soft s a o ea q
    · rw [e] at ea
      cases ea
      exact ⟨(fun xs z => by cases z), (fun ob u z => by cases z)⟩
  exact ⟨fun a => a = p, fun a q => by rw [q]; exact n, Own.one.mpr ⟨p, vs, rfl, fun b => Iff.rfl, Rst.none (.inr rfl), e, RepL.rst sf _ _ pu h⟩⟩
theorem DicAt.weak {H' R R2 : Hp} {sh : Bool} {t : DK} {kvs : List (D × D)} {a : Addr} (h : DicAt K H' R sh t kvs a) : DicAt K H' R2 false t kvs a := by
  rcases h with ⟨ht, ks, h1, h2, h3, _⟩ | ⟨ht, ks, h1, h2, h3, _⟩
  · exact .inl ⟨ht, ks, h1, h2, h3, fun z => by cases z⟩
  · exact .inr ⟨ht, ks, h1, h2, h3, fun z => by cases z⟩
theorem DicAt.mono {H' H2 R R2 : Hp} {t : DK} {kvs : List (D × D)} {a : Addr} (s : Same H' H2) (h : DicAt K H' R false t kvs a) : DicAt K H2 R2 false t kvs a := by
  rcases h with ⟨ht, ks, h1, h2, h3, _⟩ | ⟨ht, ks, h1, h2, h3, _⟩
  · exact .inl ⟨ht, ks, Rd.mono s h1, h2, RepL.mono s _ _ h3, fun z => by cases z⟩
  · exact .inr ⟨ht, ks, Rd.mono s h1, h2, RepL.mono s _ _ h3, fun z => by cases z⟩
/-- a dict, maybe locked -/
def tyD (K : PySem.W.Frag) (x : V) (H : Hp) : Prop := ∃ a t kvs, x = .ref a ∧ DicAt K H H false t kvs a
theorem tyD_is {pins : List (Addr × Obj)} {s : Shared} {x : V} {v : Value} (I : L2.Inv X pins σ H s) (r : RelV x v) (ty : tyD X.K x H) : s.TypeIs v "dict" ∧ ∀ a, v = .ref a → ∃ ob, s.heap.get? a = some ob ∧ ob.dict = none := by
  obtain ⟨a, t, kvs, rfl, h⟩ := ty
  cases (show v = Value.ref a from r)
  obtain ⟨_, es, ep, ⟨o, ho, hx, hd⟩, _⟩ := h.raw I
  refine ⟨⟨o, ho, hx.1⟩, fun b e => ?_⟩
  cases e
  exact ⟨o, ho, hx.2.1⟩
/-- a tuple -/
def tyT' (K : PySem.W.Frag) (x : V) (H : Hp) : Prop := ∃ a vs, x = .ref a ∧ H a = some (.tup vs)
/-- a method of a built-in type, the type told by P -/
def TyOk (X : Cx) (T : String) (P : V → Hp → Prop) : Prop := ∀ (pins : List (Addr × Obj)) (σ : L2.St) (H : Hp) (s : Shared) (x : V) (v : Value), L2.Inv X pins σ H s → RelV x v → P x H → s.TypeIs v T ∧ ∀ a, v = .ref a → ∃ ob, s.heap.get? a = some ob ∧ ob.dict = none
def tM0 (P : V → Hp → Prop) (r : V → List V → Hp → VK → Prop) (to : TE) : TE := fun σ H Q => to σ H fun x H1 => P x H1 ∧ r x [] H1 Q
def tM (P : V → Hp → Prop) (r : V → List V → Hp → VK → Prop) (to : TE) (t : TA) : TE := fun σ H Q => to σ H fun x H1 => P x H1 ∧ t σ H1 fun xs H2 => r x xs H2 Q
theorem pe_m0 {T id : String} {name : Str} {P : V → Hp → Prop} {r : V → List V → Hp → VK → Prop} {o : Expr} {to : TE} {apos cpos : Pos} (hP : TyOk X T P) (pa : PlainAttrs T) (slot : Slot T name id) (hty : typeOf (.builtin id) = pure (.type "method_descriptor")) (hm : MtR X id r) (ho : PE X o to)
    (hbase : attributeBase o name X.env (eval o X.env) = eval o X.env := by rfl) (hline : (apos.endLine == cpos.line) = true := by rfl) : PE X (.Call (.Attribute o name apos) [] [] cpos) (tM0 P r to) := by
  refine ⟨fun pins s σ H Q I h => ?_⟩
  refine wpAny_Call_method0_late hbase hline (thn (ho.run pins s σ H _ I h) fun v s1 ⟨x, H1, I1, r1, ty, q1⟩ => ?_)
  obtain ⟨h1, h2⟩ := hP _ _ _ _ _ _ I1 r1 ty
  exact ⟨T, id, pa, slot, hty, h1, h2, Calls.callWith_builtin rfl (PySem.evalArgs_none (hm pins s1 σ H1 x [] v [] Q I1 r1 .nil q1))⟩
theorem de_sortIt {e : Expr} {f : EF} (h : PE X e (tCB (rSortItD X.K) (tCons (tM0 (tyD X.K) (rItemsD X.K) (tE X.K f)) tNil))) : DE X e (eSortIt f) := h.weak fun σ H Q ⟨ρ, O, T, B, d, fl, st, e1, q⟩ => by
  unfold eSortIt eUn at e1
  cases ef : f ρ with
  | none => rw [ef] at e1; cases e1
  | some x =>
    obtain ⟨dx, fx⟩ := x
    rw [ef, Option.bind_some] at e1
    unfold eSortItF at e1
    simp only at e1
    split at e1
    · rename_i t kvs
      split at e1
      · rename_i ok
        cases e1
        refine ⟨ρ, O, T, B, _, fx, st, ef, fun v H1 s1 r1 => ?_⟩
        obtain ⟨a, rfl, hd⟩ := r1.dic st s1
        refine ⟨⟨a, t, kvs, rfl, hd.weak⟩, a, t, kvs, rfl, rfl, hd.weak, fun p hp => ?_⟩
        have s2 : Same H1 (upd H1 p (L2.DX.itemsO p a)) := same_new hp
        refine ⟨p, a, t, kvs, rfl, upd_same, (hd.weak (R2 := H1)).mono s2, ok.1, ok.2, fun H' l ys s3 hl hH hr => ?_⟩
        have s := (s1.trans s2).trans s3
        exact q _ _ s (Res.newL' st s ((s1.trans s2).free hl) hH (puL_perm (dsort_perm _).symm (sortOk_pu ok.2)) hr)
      · cases e1
    · cases e1
end
end PF

set_option Elab.async false
set_option linter.all false
set_option maxRecDepth 100000
set_option maxHeartbeats 4000000
/-! PF17: never, isinstance, gcd, t.count, dict(pairs), d[k] = v, rows[i][j] = v. -/
namespace PF
open PySem PySem.Spec PyProof.Rows L2

section
variable {X : Cx}
/-! ### what is not reached -/
def sNever : SF := fun _ => none
theorem ds_never {st : Stmt} : DS X st sNever := ps_never.weak fun E σ H ⟨_, _, _, _, _, e, _⟩ => by cases e
theorem dss_never {st : List Stmt} : DSs X st sNever := pss_never.weak fun E σ H ⟨_, _, _, _, _, e, _⟩ => by cases e

/-! ### isinstance -/
def tyN : D → Option String
  | .non => some "NoneType"
  | .bl _ => some "bool"
  | .int _ => some "int"
  | .str _ => some "str"
  | .tup _ => some "tuple"
  | .lst _ => some "list"
  | _ => none
def isTy (a b : String) : Bool := a == b || (a == "bool" && b == "int")
theorem kit_tab : ∀ a ∈ ["NoneType", "bool", "int", "str", "tuple", "list"], ∀ b ∈ ["bool", "int", "str", "tuple", "list", "dict"], kitB a b = some (isTy a b) := by decide +kernel
theorem tyX_of {K : PySem.W.Frag} {H : Hp} {d : D} {v : V} {n : String} (r : Rep K H d v) (h : tyN d = some n) : TyX K H v (.type n) ∧ n ∈ ["NoneType", "bool", "int", "str", "tuple", "list"] := by
  cases d <;> simp only [tyN, Option.some.injEq, reduceCtorEq] at h <;> (try subst h) <;> unfold Rep at r
  · subst r; exact ⟨.base .non, by decide⟩
  · subst r; exact ⟨.base (.bl _), by decide⟩
  · subst r; exact ⟨.base (.int _), by decide⟩
  · subst r; exact ⟨.base (.str _), by decide⟩
  · obtain ⟨a, vs, rfl, h1, _⟩ := r
    rcases h1.rd with e | ⟨ob, e⟩
    · exact ⟨.base (.tup e), by decide⟩
    · exact ⟨.fTuple e, by decide⟩
  · obtain ⟨a, vs, rfl, h1, _⟩ := r
    rcases h1 with (e | ⟨ob, e⟩) | ⟨o, its, n, e, c, _⟩
    · exact ⟨.base (.lst e), by decide⟩
    · exact ⟨.base (.frz e), by decide⟩
    · exact ⟨.kList e c, by decide⟩
def eIsF (b : String) (x : DF) : Option DF := (tyN x.1).bind fun a => scal (.bl (isTy a b))
theorem g_is {K : PySem.W.Frag} {b : String} (hb : b ∈ ["bool", "int", "str", "tuple", "list", "dict"]) : UnG K (fun v => rIsi K [v, .ty b]) (eIsF b) := fun H0 H σ ρ O T B st s x z v Q e rx q => by
  obtain ⟨dx, fx⟩ := x
  unfold eIsF at e
  cases en : tyN dx with
  | none => rw [en] at e; cases e
  | some a =>
    rw [en, Option.bind_some] at e
    cases e
    obtain ⟨t, ha⟩ := tyX_of rx.rep en
    exact ⟨v, .ty b, .type a, .type b, isTy a b, rfl, .ty b, t, kit_ty (kit_tab a ha b hb), q _ H (Same.refl H) Res.bl⟩
variable {e c : Expr} {f g : EF} {p pos : Pos}
theorem de_is {b : String} {nb : Str} {pb : Pos} (hb : b ∈ ["bool", "int", "str", "tuple", "list", "dict"]) (hg : Gl X "isinstance") (hm : X.mg "isinstance" = none) (hg2 : Gl X nb) (hm2 : X.mg nb = none) (hv2 : bootBuiltins nb = some (.type b)) (hn : nb ≠ "__name__" := by decide) (hd : (nb == ("__debug__" : Str)) = false := by decide)
    (hf : DE X e f) (hs : starEach [e, .Name nb pb] X.env = (false, eval e X.env) :: starEach [.Name nb pb] X.env := by rfl) (hs2 : starEach [.Name nb pb] X.env = (false, eval (.Name nb pb) X.env) :: starEach [] X.env := by rfl) (hpl : (backTo pos (starEach [.Name nb pb] X.env)).any (·.1) = false := by rfl) : DE X (.Call (.Name "isinstance" p) [e, .Name nb pb] [] pos) (eUn (eIsF b) f) :=
  de_un (r := fun v H Q => rIsi X.K [v, .ty b] H Q) (g_is hb) ((pe_callB call_isi hg hm rfl (pa_cons hf (pa_cons (pe_bltn hg2 hm2 hv2 (show RelV (.ty b) (Value.type b) from rfl) hn hd) pa_nil hs2) hs) (by decide) (by decide) hs hpl).weak fun σ H Q h => h)

/-! ### gcd -/
def eGcdF := iop fun i j => some ((Nat.gcd i.natAbs j.natAbs : Nat) : Int)
theorem g_gcd {K : PySem.W.Frag} : OpG K (fun v u => rGcd [v, u]) eGcdF := fun H0 H σ ρ O T B st s x y z v u Q e0 rx ry q => by
  obtain ⟨i, j, k, fx, fy, rfl, rfl, e, rfl⟩ := iop_inv e0
  cases e
  exact ⟨i, j, by rw [rep_int rx.rep, rep_int ry.rep], q _ H (Same.refl H) Res.int⟩

/-! ### a method with arguments -/
theorem pe_m {T id : String} {name : Str} {P : V → Hp → Prop} {r : V → List V → Hp → VK → Prop} {o a : Expr} {es : List Expr} {to : TE} {t : TA} {apos cpos : Pos} (hP : TyOk X T P) (pa : PlainAttrs T) (slot : Slot T name id) (hty : typeOf (.builtin id) = pure (.type "method_descriptor")) (hm : MtR X id r) (ho : PE X o to) (ha : PA X (a :: es) t)
    (hbase : attributeBase o name X.env (eval o X.env) = eval o X.env := by rfl)
    (hfew : ((backTo cpos (starEach (a :: es) X.env)).all (fun x => !x.1) && (backToKw cpos (keywordEach [] X.env)).all (fun x => x.1.isSome)
      && decide ((a :: es).length + ([] : List Keyword).length + (if ([] : List Keyword).isEmpty then 0 else 1) < 30)) = true := by rfl)
    (hline : (apos.endLine == cpos.line) = true := by rfl) (hs : starEach (a :: es) X.env = (false, eval a X.env) :: starEach es X.env := by rfl) (hplain : (backTo cpos (starEach es X.env)).any (·.1) = false := by rfl) :
    PE X (.Call (.Attribute o name apos) (a :: es) [] cpos) (tM P r to t) := by
  refine ⟨fun pins s σ H Q I h => ?_⟩
  refine wpAny_Call_method_late hbase hfew hline rfl (thn (ho.run pins s σ H _ I h) fun v s1 ⟨x, H1, I1, r1, ty, q1⟩ => ?_)
  obtain ⟨h1, h2⟩ := hP _ _ _ _ _ _ I1 r1 ty
  refine ⟨T, id, pa, slot, hty, h1, h2, ?_⟩
  have hA := ha.run cpos pins s1 σ H1 _ I1 q1
  rw [hs] at hA ⊢
  refine Calls.callWith_builtin (by show (false || (backTo cpos (starEach es X.env)).any (·.1)) = false; rw [hplain] <;> rfl) (Calls.evalArgs_plain ?_)
  exact thn hA fun us s2 ⟨vs, H2, I2, r2, q2⟩ => hm pins s2 σ H2 x vs v us Q I2 r1 r2 q2
/-- a tuple without a dict -/
def tyTO (x : V) (H : Hp) : Prop := mB = true ∧ ∃ a vs, x = .ref a ∧ TupAt H a vs
theorem tyTO_is : TyOk X "tuple" tyTO := fun pins σ H s x v I r ⟨hm, a, vs, e, o, h, ho⟩ => by
  subst e
  cases (show v = Value.ref a from r)
  unfold IsTO at ho
  rw [if_pos hm] at ho
  obtain ⟨its, rfl⟩ := ho
  obtain ⟨k, _⟩ := (show ObjOk X.prog X.w H s.heap a (.frz _ (.tup vs)) from I.hok a _ h)
  exact ⟨⟨_, k, rfl⟩, fun b e => by cases e; exact ⟨_, k, rfl⟩⟩

/-! ### t.count(x) -/
def cntOk (ds : List D) (d : D) : Bool := puL ds && ds.all (okD 60) && puD d && okD 60 d
def rCntD (K : PySem.W.Frag) : V → List V → Hp → VK → Prop := fun x xs H Q => ∃ a vs ds d v, x = .ref a ∧ xs = [v] ∧ SqT K H a vs ∧ RepL K H ds vs ∧ Rep K H d v ∧ cntOk ds d = true ∧ Q (.int (ds.countP (fun y => deq y d) : Nat)) H
theorem mt_tcount (hu : X.A.units + 70 < cLine) : MtR X "tuple.count" (rCntD X.K) := by
  intro pins s σ H x xs v us Q I rx rxs h
  obtain ⟨a, vs, ds, d, y, rfl, rfl, hs, hr, hd, ok, q⟩ := h
  cases rx
  obtain ⟨u, rfl, ru⟩ := rxs.one
  unfold cntOk at ok
  simp only [Bool.and_eq_true, List.all_eq_true] at ok
  obtain ⟨⟨⟨p1, p2⟩, p3⟩, p4⟩ := ok
  obtain ⟨its, rv, ht, hz⟩ := I.tuple hs
  have c := CRL.of I ds vs its p1 hr rv
  have cd := CR.of I d y u p3 hd ru
  obtain ⟨⟨cls, dd, data, sl⟩, ho, hc, n, hd'⟩ := id ht
  simp only at hc hd'
  subst hc hd'
  have hin : X.A.in1.units ≤ X.A.units + 1 := by first | exact Nat.le_refl _ | (simp [Around.in1])
  refine call_meets PySem.F.slot_tuple_count ⟨_, ho, rfl⟩ PySem.F.entry_tuple_count (PySem.F.args_tuple_count_2 _ _) (SeqAt.tuple_countAt a its.toArray n dd sl u fun z => deq (rkOf s.heap z) d) ⟨ho, fun z hz => ?_, ?_⟩
  · obtain ⟨e, me, ce⟩ := crl_mem c z (by simpa using hz)
    rw [rk_eq ce]
    exact CR.eq (A := X.A.in1) ce cd (p2 e me) p4 (by omega)
  · have ec : its.toArray.toList.countP (fun z => deq (rkOf s.heap z) d) = ds.countP (fun y => deq y d) := by
      rw [← rk_map c, List.countP_map]
      rfl
    refine ⟨.int (ds.countP (fun y => deq y d) : Nat), H, I.tok _, ⟨s.toks, ?_⟩, q⟩
    show Value.int ((its.toArray.toList.countP _ : Nat) : Int) s.toks = _
    rw [ec]
def eCntF (x y : DF) : Option DF := match x.1 with
  | .tup ds => if mB = true ∧ cntOk ds y.1 = true then scal (.int (ds.countP fun z => deq z y.1)) else none
  | _ => none
theorem de_tcount {apos cpos : Pos} (hu : X.A.units + 70 < cLine) (hf : DE X e f) (hg : DE X c g) (hbase : attributeBase e "count" X.env (eval e X.env) = eval e X.env := by rfl)
    (hfew : ((backTo cpos (starEach [c] X.env)).all (fun x => !x.1) && (backToKw cpos (keywordEach [] X.env)).all (fun x => x.1.isSome)
      && decide (([c] : List Expr).length + ([] : List Keyword).length + (if ([] : List Keyword).isEmpty then 0 else 1) < 30)) = true := by rfl)
    (hline : (apos.endLine == cpos.line) = true := by rfl) (hs : starEach [c] X.env = (false, eval c X.env) :: starEach [] X.env := by rfl) (hplain : (backTo cpos (starEach [] X.env)).any (·.1) = false := by rfl) :
    DE X (.Call (.Attribute e "count" apos) [c] [] cpos) (eOp eCntF f g) := (pe_m tyTO_is PySem.F.plainAttrs_tuple PySem.F.slot_tuple_count PySem.F.type_tuple_count (mt_tcount hu) hf (pa_cons hg pa_nil hs) hbase hfew hline hs hplain).weak fun σ H Q ⟨ρ, O, T, B, d, fl, st, e0, q⟩ => by
  unfold eOp at e0
  cases ef : f ρ with
  | none => rw [ef] at e0; cases e0
  | some x =>
    cases eg : g ρ with
    | none => rw [ef, Option.bind_some, eg] at e0; cases e0
    | some y =>
      rw [ef, Option.bind_some, eg, Option.bind_some] at e0
      obtain ⟨dx, fx⟩ := x
      unfold eCntF at e0
      simp only at e0
      split at e0
      · rename_i ds
        split at e0
        · rename_i hc
          cases e0
          refine ⟨ρ, O, T, B, _, fx, st, ef, fun v H1 s1 r1 => ?_⟩
          obtain ⟨a, vs, rfl, h1, h2⟩ := rep_tupX r1.rep
          refine ⟨⟨hc.1, a, vs, rfl, h1⟩, ρ, O, T, B, y.1, y.2, st.mono s1, eg, fun u H2 s2 r2 => ?_⟩
          exact ⟨a, vs, ds, y.1, u, rfl, rfl, (h1.mono s2).sq, RepL.mono s2 _ _ h2, r2.rep, hc.2, q _ H2 (s1.trans s2) Res.int⟩
        · cases e0
      · cases e0
end
end PF

set_option Elab.async false
set_option linter.all false
set_option maxRecDepth 100000
set_option maxHeartbeats 4000000
/-! PF18: d[k] = v, dict(pairs). -/
namespace PF
open PySem PySem.Spec PyProof.Rows L2

section
variable {κ : Type} [DecidableEq κ]
/-- dicts side by side -/
def KR (kf : D → Option κ) (K : PySem.W.Frag) (R : Hp) (kvs : List (D × D)) (ks : List (κ × V)) : Prop := kvs.map (fun p => kf p.1) = ks.map (fun p => some p.1) ∧ RepL K R (kvs.map (·.2)) (ks.map (·.2))
theorem KR.nil {kf : D → Option κ} {K : PySem.W.Frag} {R : Hp} : KR kf K R [] [] := ⟨rfl, RepL.nil⟩
theorem KR.cons_inv {kf : D → Option κ} {K : PySem.W.Frag} {R : Hp} {p : D × D} {kvs : List (D × D)} {ks : List (κ × V)} (h : KR kf K R (p :: kvs) ks) : ∃ q kr, ks = q :: kr ∧ kf p.1 = some q.1 ∧ Rep K R p.2 q.2 ∧ KR kf K R kvs kr := by
  obtain ⟨h1, h2⟩ := h
  cases ks with
  | nil => simp at h1
  | cons q kr =>
    simp only [List.map_cons, List.cons.injEq] at h1
    obtain ⟨v, vr, e, r1, r2⟩ := h2.cons_inv
    simp only [List.map_cons, List.cons.injEq] at e
    exact ⟨q, kr, rfl, h1.1, by rw [e.1]; exact r1, h1.2, by rw [e.2]; exact r2⟩
theorem KR.cons {kf : D → Option κ} {K : PySem.W.Frag} {R : Hp} {p : D × D} {kvs : List (D × D)} {q : κ × V} {ks : List (κ × V)} (h1 : kf p.1 = some q.1) (h2 : Rep K R p.2 q.2) (h : KR kf K R kvs ks) : KR kf K R (p :: kvs) (q :: ks) :=
  ⟨by simp only [List.map_cons, h1, h.1], RepL.cons h2 h.2⟩
theorem KR.nil_inv {kf : D → Option κ} {K : PySem.W.Frag} {R : Hp} {ks : List (κ × V)} (h : KR kf K R [] ks) : ks = [] := by
  cases ks with
  | nil => rfl
  | cons q kr => exact absurd h.1 (by simp)
theorem KR.has {kf : D → Option κ} (hk : ∀ {a b : D} {k l : κ}, kf a = some k → kf b = some l → deq a b = decide (k = l)) {K : PySem.W.Frag} {R : Hp} {k : D} {kk : κ} (e : kf k = some kk) : ∀ {kvs : List (D × D)} {ks : List (κ × V)}, KR kf K R kvs ks → dHas kvs k = ks.any fun kv => decide (kv.1 = kk)
  | [], ks, h => by rw [h.nil_inv]; rfl
  | p :: kvs, ks, h => by
    obtain ⟨q, kr, rfl, h1, h2, h3⟩ := h.cons_inv
    have ih := KR.has hk e h3
    unfold dHas at ih ⊢
    rw [List.any_cons, List.any_cons, ih, hk h1 e]
theorem KR.map {kf : D → Option κ} (hk : ∀ {a b : D} {k l : κ}, kf a = some k → kf b = some l → deq a b = decide (k = l)) {K : PySem.W.Frag} {R : Hp} {k d : D} {kk : κ} {v : V} (e : kf k = some kk) (r : Rep K R d v) : ∀ {kvs : List (D × D)} {ks : List (κ × V)}, KR kf K R kvs ks →
    KR kf K R (kvs.map (fun p => if deq p.1 k then (p.1, d) else p)) (ks.map (fun kv => if kv.1 = kk then (kv.1, v) else kv))
  | [], ks, h => by rw [h.nil_inv]; exact KR.nil
  | p :: kvs, ks, h => by
    obtain ⟨q, kr, rfl, h1, h2, h3⟩ := h.cons_inv
    have ih := KR.map hk e r h3
    rw [List.map_cons, List.map_cons, hk h1 e]
    by_cases c : q.1 = kk
    · simp only [c, decide_true, if_true]
      exact KR.cons (by rw [h1, c]) r ih
    · simp only [c, decide_false, Bool.false_eq_true, if_false]
      exact KR.cons h1 h2 ih
theorem KR.snoc {kf : D → Option κ} {K : PySem.W.Frag} {R : Hp} {k d : D} {kk : κ} {v : V} (e : kf k = some kk) (r : Rep K R d v) : ∀ {kvs : List (D × D)} {ks : List (κ × V)}, KR kf K R kvs ks → KR kf K R (kvs ++ [(k, d)]) (ks ++ [(kk, v)])
  | [], ks, h => by rw [h.nil_inv]; exact KR.cons e r KR.nil
  | p :: kvs, ks, h => by
    obtain ⟨q, kr, rfl, h1, h2, h3⟩ := h.cons_inv
    exact KR.cons h1 h2 (KR.snoc e r h3)
theorem KR.put {kf : D → Option κ} (hk : ∀ {a b : D} {k l : κ}, kf a = some k → kf b = some l → deq a b = decide (k = l)) {K : PySem.W.Frag} {R : Hp} {k d : D} {kk : κ} {v : V} {kvs : List (D × D)} {ks : List (κ × V)} (h : KR kf K R kvs ks) (e : kf k = some kk) (r : Rep K R d v) : KR kf K R (dPut kvs k d) (putK ks kk v) := by
  unfold dPut putK
  rw [KR.has hk e h]
  split
  · exact KR.map hk e r h
  · exact KR.snoc e r h
theorem KR.len {kf : D → Option κ} {K : PySem.W.Frag} {R : Hp} {kvs : List (D × D)} {ks : List (κ × V)} (h : KR kf K R kvs ks) : ks.length = kvs.length := by
  have := congrArg List.length h.1
  simpa using this.symm
theorem KR.mono {kf : D → Option κ} {K : PySem.W.Frag} {R R' : Hp} {kvs : List (D × D)} {ks : List (κ × V)} (s : Same R R') (h : KR kf K R kvs ks) : KR kf K R' kvs ks := ⟨h.1, RepL.mono s _ _ h.2⟩
end

/-! ### an owned dict of depth 1 -/
theorem Own.oneK {K : PySem.W.Frag} {R H : Hp} {kvs : List (D × D)} {v : V} {S : Addr → Prop} : Own K R H 1 (.dic .k kvs) v S ↔ ∃ a ks, v = .ref a ∧ (∀ b, S b ↔ b = a) ∧ R a = none ∧ H a = some (.dK ks) ∧ KR keyOf K R kvs ks := by
  constructor
  · rintro ⟨a, S', rfl, na, hs, ra, h⟩
    rcases h with ⟨ds', vs, e1, _⟩ | ⟨kvs', ks, e1, e2, e4, e3⟩ | ⟨kvs', ks, e1, _⟩
    · cases e1
    · cases e1
      obtain ⟨r, n⟩ := OwnL.zero.mp e3
      exact ⟨a, ks, rfl, fun b => ⟨fun q => ((hs b).mp q).elim id fun q => (n b q).elim, fun q => (hs b).mpr (.inl q)⟩, ra, e2, e4, r⟩
    · cases e1
  · rintro ⟨a, ks, rfl, hs, ra, e2, e4, r⟩
    exact ⟨a, fun _ => False, rfl, fun q => q, fun b => by rw [hs]; exact ⟨.inl, fun q => q.elim id False.elim⟩, ra, .inr (.inl ⟨kvs, ks, rfl, e2, e4, OwnL.zero.mpr ⟨r, fun _ q => q⟩⟩)⟩
theorem Own.oneT {K : PySem.W.Frag} {R H : Hp} {kvs : List (D × D)} {v : V} {S : Addr → Prop} : Own K R H 1 (.dic .t kvs) v S ↔ ∃ a ks, v = .ref a ∧ (∀ b, S b ↔ b = a) ∧ R a = none ∧ H a = some (.dT ks) ∧ KR tkeyOf K R kvs ks := by
  constructor
  · rintro ⟨a, S', rfl, na, hs, ra, h⟩
    rcases h with ⟨ds', vs, e1, _⟩ | ⟨kvs', ks, e1, _⟩ | ⟨kvs', ks, e1, e2, e4, e3⟩
    · cases e1
    · cases e1
    · cases e1
      obtain ⟨r, n⟩ := OwnL.zero.mp e3
      exact ⟨a, ks, rfl, fun b => ⟨fun q => ((hs b).mp q).elim id fun q => (n b q).elim, fun q => (hs b).mpr (.inl q)⟩, ra, e2, e4, r⟩
  · rintro ⟨a, ks, rfl, hs, ra, e2, e4, r⟩
    exact ⟨a, fun _ => False, rfl, fun q => q, fun b => by rw [hs]; exact ⟨.inl, fun q => q.elim id False.elim⟩, ra, .inr (.inr ⟨kvs, ks, rfl, e2, e4, OwnL.zero.mpr ⟨r, fun _ q => q⟩⟩)⟩
def sPut (i : Nat) (fk f : EF) : SF := fun ρ => (f ρ).bind fun x => (fk ρ).bind fun y => match ρ[i]? with
  | some (some (1, .dic t kvs)) => if keyFit t y.1 = true ∧ kvs.length < sizeLine ∧ shr x.1 x.2 = true then some (.nx (ρ.set i (some (1, .dic t (dPut kvs y.1 x.1))))) else none
  | _ => none
section
variable {X : Cx}
theorem ds_put {i : Nat} {o k e : Expr} {fk f : EF} {pos pos' : Pos} (hu : X.A.units + 1 < cLine) (ho : PE X o (tVar i)) (hk : DE X k fk) (he : DE X e f) (hs : swapsWith e (some (.Subscript o k pos')) pos.line X.env = pure false := by rfl) :
    DS X (.Assign [.Subscript o k pos'] e pos) (sPut i fk f) := (ps_dput hu ho hk he hs).weak fun E σ H ⟨ρ, O, B, o, st, e1, q⟩ => by
  unfold sPut at e1
  cases ef : f ρ with
  | none => rw [ef] at e1; cases e1
  | some x =>
    obtain ⟨d, fl⟩ := x
    cases eg : fk ρ with
    | none => rw [ef, Option.bind_some, eg] at e1; cases e1
    | some y =>
      obtain ⟨dy, fy⟩ := y
      rw [ef, Option.bind_some, eg, Option.bind_some] at e1
      simp only at e1
      split at e1
      · rename_i t kvs ei
        split at e1
        · rename_i hc
          obtain ⟨hf, hlen, hsh⟩ := hc
          cases e1
          obtain ⟨v0, ev, w⟩ := st.slot i _ _ ei
          cases t with
          | n => simp [keyFit] at hf
          | k =>
            obtain ⟨a, ks, rfl, hS, ra, ha, kr⟩ := Own.oneK.mp w
            unfold keyFit at hf
            obtain ⟨kk, hkk⟩ := Option.isSome_iff_exists.mp hf
            have oa : O i a := (hS a).mpr rfl
            refine ⟨ρ, O, T0, B, d, fl, st, ef, fun v H1 s1 r1 => ⟨.ref a, ev, ρ, O, T0, B, dy, fy, st.mono s1, eg, fun u H2 s2 r2 => ?_⟩⟩
            have s := s1.trans s2
            have ekv := keyOf_rep hkk r2.rep
            refine ⟨a, _, rfl, .inl ⟨ks, kk, s _ _ ha, ekv, by rw [kr.len]; exact hlen, rfl⟩, ?_⟩
            have n0 : ∀ b, (fun _ : Addr => False) b → O i b ∨ H b = none := fun b z => z.elim
            have rs := Sta.resh (o := .dK (putK ks kk v)) st s oa n0
            have rs2 := Sta.resh (o := .dK (putK ks kk v)) (st.mono s) (Same.refl H2) oa (S2 := fun _ => False) (fun b z => z.elim)
            refine q _ _ _ (st.mut (S := fun b => b = a ∨ False) (k' := 1) s ei ev oa (fun b z => z.elim (fun z => .inl (by rw [z]; exact oa)) False.elim) (Own.oneK.mpr ⟨a, putK ks kk v, rfl, fun b => ⟨fun z => z.elim id False.elim, .inl⟩, Rst.none (.inr ⟨i, putO_same.mpr (.inl rfl)⟩), upd_same, ?_⟩))
            exact KR.put keyOf_deq (kr.mono rs) hkk (Rep.mono rs2 _ _ (Rep.mono (Rst.mono s2) _ _ (r1.shared st s1 hsh)))
          | t =>
            obtain ⟨a, ks, rfl, hS, ra, ha, kr⟩ := Own.oneT.mp w
            unfold keyFit at hf
            rw [Bool.and_eq_true, Bool.not_eq_true'] at hf
            obtain ⟨kk, hkk⟩ := Option.isSome_iff_exists.mp hf.2
            have oa : O i a := (hS a).mpr rfl
            refine ⟨ρ, O, T0, B, d, fl, st, ef, fun v H1 s1 r1 => ⟨.ref a, ev, ρ, O, T0, B, dy, fy, st.mono s1, eg, fun u H2 s2 r2 => ?_⟩⟩
            have s := s1.trans s2
            obtain ⟨b, ekv, hb⟩ := tkey_rep hf.1 hkk r2.rep
            refine ⟨a, _, rfl, .inr ⟨ks, kk, b, s _ _ ha, ekv, hb, by rw [kr.len]; exact hlen, rfl⟩, ?_⟩
            have n0 : ∀ b, (fun _ : Addr => False) b → O i b ∨ H b = none := fun b z => z.elim
            have rs := Sta.resh (o := .dT (putK ks kk v)) st s oa n0
            have rs2 := Sta.resh (o := .dT (putK ks kk v)) (st.mono s) (Same.refl H2) oa (S2 := fun _ => False) (fun b z => z.elim)
            refine q _ _ _ (st.mut (S := fun b => b = a ∨ False) (k' := 1) s ei ev oa (fun b z => z.elim (fun z => .inl (by rw [z]; exact oa)) False.elim) (Own.oneT.mpr ⟨a, putK ks kk v, rfl, fun b => ⟨fun z => z.elim id False.elim, .inl⟩, Rst.none (.inr ⟨i, putO_same.mpr (.inl rfl)⟩), upd_same, ?_⟩))
            exact KR.put tkeyOf_deq (kr.mono rs) hkk (Rep.mono rs2 _ _ (Rep.mono (Rst.mono s2) _ _ (r1.shared st s1 hsh)))
        · cases e1
      · cases e1
end

/-! ### dict(pairs) -/
def pairsD : List D → Option (List (D × D))
  | [] => some []
  | .tup [k, v] :: r => if (keyOf k).isSome then (pairsD r).map ((k, v) :: ·) else none
  | _ => none
def dMerge (kvs : List (D × D)) : List (D × D) := kvs.foldl (fun acc p => dPut acc p.1 p.2) []
/-- a pair as it lies: object, key, value, as tracked -/
structure PLie where
  t : Addr
  kc : Value
  vc : Value
  k : Key
  v : V
section
variable {X : Cx} {pins : List (Addr × Obj)} {σ : L2.St} {H : Hp} {s : Shared}
theorem pairs_lie (I : Inv X pins σ H s) : ∀ {ds : List D} {vs : List V} {its : List Value} {kvs : List (D × D)}, RepL X.K H ds vs → Vals vs its → pairsD ds = some kvs →
    ∃ L : List PLie, its = L.map (fun l => Value.ref l.t) ∧ (∀ l ∈ L, PairAt s.heap l.t l.kc l.vc ∧ keyIs l.k l.kc = true ∧ RelV l.v l.vc) ∧ KR keyOf X.K H kvs (L.map fun l => (l.k, l.v))
  | [], vs, its, kvs, r, rv, e => by
    rw [r.nil_inv] at rv
    cases rv
    cases e
    exact ⟨[], rfl, (fun l m => by cases m), KR.nil⟩
  | d :: ds, vs, its, kvs, r, rv, e => by
    obtain ⟨v, vr, rfl, r1, r2⟩ := r.cons_inv
    unfold pairsD at e
    split at e
    · rename_i hnil
      cases hnil
    · rename_i k w r' eq
      simp only [List.cons.injEq] at eq
      obtain ⟨rfl, rfl⟩ := eq
      split at e
      · rename_i hk
        obtain ⟨kk, ek⟩ := Option.isSome_iff_exists.mp hk
        cases ep : pairsD ds with
        | none => rw [ep] at e; cases e
        | some kr =>
          rw [ep] at e
          cases e
          obtain ⟨a, ws, rfl, h1, h2⟩ := rep_tupX r1
          cases rv with
          | @cons _ u _ ur q1 q2 =>
            cases (show u = Value.ref a from q1)
            obtain ⟨L, eL, hL, kL⟩ := pairs_lie I r2 q2 ep
            obtain ⟨v1, w1, rfl, rk, r3⟩ := h2.cons_inv
            obtain ⟨v2, w2, rfl, rw', r4⟩ := r3.cons_inv
            rw [r4.nil_inv] at h1
            obtain ⟨its2, rv2, ht, _⟩ := I.tuple h1.sq
            obtain ⟨c1, c2, e2, q3, q4⟩ := vals2 rv2
            subst e2
            refine ⟨⟨a, c1, c2, kk, v2⟩ :: L, by rw [eL]; rfl, fun l m => ?_, KR.cons ek rw' kL⟩
            rcases List.mem_cons.mp m with rfl | m
            · refine ⟨.inl ht, ?_, q4⟩
              rw [keyOf_rep ek rk] at q3
              exact kV_is (P := X.prog) (w := X.w) q3
            · exact hL l m
      · cases e
    · cases e
end
def rDictP (K : PySem.W.Frag) : List V → Hp → VK → Prop := fun xs H Q => ∃ (a : Addr) (vs : List V) (ds : List D) (kvs : List (D × D)), xs = [.ref a] ∧ (SqL K H a vs ∨ (mB = true ∧ TupAt H a vs)) ∧ RepL K H ds vs ∧ pairsD ds = some kvs ∧
  ∀ p ks, H p = none → KR keyOf K H (dMerge kvs) ks → Q (.ref p) (upd H p (.dK ks))
theorem merge_kr {K : PySem.W.Frag} {H : Hp} : ∀ {kvs : List (D × D)} {ks : List (Key × V)} {acc : List (D × D)} {as : List (Key × V)}, KR keyOf K H kvs ks → KR keyOf K H acc as → KR keyOf K H (kvs.foldl (fun acc p => dPut acc p.1 p.2) acc) (mergeK as ks)
  | [], ks, acc, as, h, ha => by
    rw [h.nil_inv]
    exact ha
  | p :: kvs, ks, acc, as, h, ha => by
    obtain ⟨q, kr, rfl, h1, h2, h3⟩ := h.cons_inv
    show KR keyOf K H (kvs.foldl (fun acc p => dPut acc p.1 p.2) (dPut acc p.1 p.2)) (mergeK (putK as q.1 q.2) kr)
    exact merge_kr h3 (KR.put keyOf_deq ha h1 h2)
theorem lie_ts : ∀ (L : List PLie), ∃ Ts : Nat → Addr, ∀ (j : Nat) (l : PLie), L[j]? = some l → Ts j = l.t := fun L =>
  ⟨fun j => match L[j]? with | some l => l.t | none => 0, fun j l e => by simp [e]⟩
section
variable {X : Cx}
theorem call_dictD (hcalm : X.calm = true) : CallR X (.type "dict") (rDictP X.K) := by
  intro pins s σ H xs us Q I r q
  obtain ⟨a, vs, ds, kvs, rfl, hq, hr, hp, q⟩ := q
  obtain ⟨u, eu, rx⟩ := vals1 r
  subst eu
  cases rx
  have hh : X.A.handled = none := I.ok.hd hcalm
  have fin : ∀ (its : List Value) (L : List PLie), its = L.map (fun l => Value.ref l.t) → its.length ≤ sizeLine → (∀ l ∈ L, PairAt s.heap l.t l.kc l.vc ∧ keyIs l.k l.kc = true ∧ RelV l.v l.vc) → KR keyOf X.K H kvs (L.map fun l => (l.k, l.v)) →
      ∀ h' tk, h'.DictOf (mixKind X.prog X.w) s.heap.objs.size (merged [] (L.map fun l => (l.k, l.vc))) → (∀ b o, b ∉ ([] : List Addr) → s.heap.get? b = some o → h'.get? b = some o) → EP X pins σ Q (.ref s.heap.objs.size) { s with heap := h', toks := tk } := fun its L eL hz hL kL h' tk hd' k => by
    have hm : (s.heap.objs.size == sysModules) = false := beq_eq_false_iff_ne.mpr (Nat.ne_of_gt I.big)
    have hl : its.length = L.length := by rw [eL, List.length_map]
    have hlen : (mergeK [] (L.map fun l => (l.k, l.v))).length ≤ sizeLine := by
      refine Nat.le_trans (length_mergeK _ []) ?_
      rw [List.length_nil, Nat.zero_add, List.length_map, ← hl]
      exact hz
    have rel : KV (L.map fun l => (l.k, l.v)) (L.map fun l => (l.k, l.vc)) := by
      clear hd' kL eL hz hlen hl
      induction L with
      | nil => exact .nil
      | cons l L ih => exact .cons ⟨rfl, (hL l List.mem_cons_self).2.2⟩ (ih fun z m => hL z (List.mem_cons_of_mem _ m))
    exact ⟨.ref s.heap.objs.size, upd H s.heap.objs.size (.dK (mergeK [] (L.map fun l => (l.k, l.v)))), I.laid (t' := tk) (fun b o e => k b o (by simp) e) (Nat.le_refl _) (show ObjOk X.prog X.w _ _ _ (.dK _) from ⟨hlen, hm, merged [] (L.map fun l => (l.k, l.vc)), KV.merge rel .nil, hd'⟩), rfl, q _ _ (I.hok.fresh (Nat.le_refl _)) (merge_kr kL KR.nil)⟩
  have prep : ∀ (its : List Value) (L : List PLie), its = L.map (fun l => Value.ref l.t) → (∀ l ∈ L, PairAt s.heap l.t l.kc l.vc ∧ keyIs l.k l.kc = true ∧ RelV l.v l.vc) → ∀ Ts : Nat → Addr, (∀ (j : Nat) (l : PLie), L[j]? = some l → Ts j = l.t) →
      PairItems s.heap its.toArray Ts (L.map fun l => (l.kc, l.vc)) ∧ PairsHave (mixKind X.prog X.w) (L.map fun l => (l.kc, l.vc)).length (PairRel (L.map fun l => (l.kc, l.vc))) (L.map fun l => (l.k, l.vc)) := fun its L eL hL Ts hT => by
    refine ⟨⟨by rw [eL]; simp, fun j k v hj => ?_⟩, by simp, fun i key v hi => ?_⟩
    · rw [List.getElem?_map] at hj
      cases el : L[j]? with
      | none => rw [el] at hj; cases hj
      | some l =>
        rw [el] at hj
        cases hj
        rw [hT j l el]
        refine ⟨?_, (hL l (List.mem_of_getElem? el)).1⟩
        rw [eL]
        simp [el]
    · rw [PairRel, List.getElem?_map] at hi
      cases el : L[i]? with
      | none => rw [el] at hi; cases hi
      | some l =>
        rw [el] at hi
        cases hi
        exact ⟨l.k, by rw [List.getElem?_map, el]; rfl, (hL l (List.mem_of_getElem? el)).2.1⟩
  rcases hq with hq | ⟨hm, hq⟩
  · obtain ⟨its, rv, pl, hz⟩ := I.list hq
    obtain ⟨L, eL, hL, kL⟩ := pairs_lie I hr rv hp
    obtain ⟨Ts, hT⟩ := lie_ts L
    obtain ⟨p1, p2⟩ := prep its L eL hL Ts hT
    obtain ⟨o, n, ho, hc, hd, hdat⟩ := pl
    have hz' : its.length ≤ sizeLine := by rw [← rv.length]; exact hz
    exact PySem.call_dict_pairs (PairArg.list a its.toArray Ts (L.map fun l => (l.kc, l.vc))) hh ⟨⟨o, n, ho, hc, hd, hdat⟩, p1⟩ p2 (by rw [List.length_map]; rw [eL, List.length_map] at hz'; exact hz') (fin its L eL hz' hL kL)
  · have hsq := hq.sq (K := X.K)
    obtain ⟨its0, rv, ht, hz⟩ := I.tuple hsq
    obtain ⟨o, ho, hO⟩ := hq
    unfold IsTO at hO
    rw [if_pos hm] at hO
    obtain ⟨its, rfl⟩ := hO
    obtain ⟨k1, k2⟩ := (show ObjOk X.prog X.w H s.heap a (.frz _ (.tup vs)) from I.hok a _ ho)
    obtain ⟨o2, ho2, _, n2, hd2⟩ := ht
    rw [k1] at ho2
    cases ho2
    cases hd2
    obtain ⟨L, eL, hL, kL⟩ := pairs_lie I hr rv hp
    obtain ⟨Ts, hT⟩ := lie_ts L
    obtain ⟨p1, p2⟩ := prep its0 L eL hL Ts hT
    have hz' : its0.length ≤ sizeLine := by rw [← rv.length]; exact hz
    exact PySem.call_dict_pairs (PairArg.tuple a its0.toArray Ts (L.map fun l => (l.kc, l.vc))) hh ⟨⟨_, 0, k1, rfl, rfl, rfl⟩, p1⟩ p2 (by rw [List.length_map]; rw [eL, List.length_map] at hz'; exact hz') (fin its0 L eL hz' hL kL)
end
/-- dict(x) -/
def eDictF (x : DF) : Option DF := match x.1 with
  | .lst ds => (pairsD ds).bind fun kvs => if puL ((dMerge kvs).map (·.2)) then some (.dic .k (dMerge kvs), .fr 1) else none
  | .tup ds => if mB = true then (pairsD ds).bind fun kvs => if puL ((dMerge kvs).map (·.2)) then some (.dic .k (dMerge kvs), .fr 1) else none else none
  | _ => none
section
variable {K : PySem.W.Frag} {H H1 : Hp} {σ : L2.St} {ρ : Env} {O : Nat → Addr → Prop} {T : Addr → Prop} {B : Hp}
theorem Res.newK {kvs : List (D × D)} {ks : List (Key × V)} {p : Addr} (st : Sta K H σ ρ O T B) (s : Same H H1) (n : H1 p = none) (pu : puL (kvs.map (·.2)) = true) (h : KR keyOf K H1 kvs ks) : Res K H (upd H1 p (.dK ks)) O T (.dic .k kvs) (.fr 1) (.ref p) := by
  have nH : H p = none := s.free n
  have sf : Soft (upd H1 p (.dK ks)) (fun a => Un O T a ∨ a = p) := fun a o ea q => by
    rcases q with q | rfl
    · exact st.soft (s.trans (same_new n)) a o ea q
    · rw [upd_same] at ea
      cases ea
      exact ⟨(fun xs z => by cases z), (fun ob u z => by cases z)⟩
  exact ⟨fun a => a = p, fun a q => by rw [q]; exact nH, Own.oneK.mpr ⟨p, ks, rfl, fun b => Iff.rfl, Rst.none (.inr rfl), upd_same, h.1, RepL.rst sf _ _ pu (RepL.mono (same_new n) _ _ h.2)⟩⟩
theorem g_dict : UnG K (fun v => rDictP K [v]) eDictF := fun H0 H σ ρ O T B st s x z v Q e r q => by
  obtain ⟨dx, fx⟩ := x
  unfold eDictF at e
  simp only at e
  split at e
  · rename_i ds
    cases ep : pairsD ds with
    | none => rw [ep] at e; cases e
    | some kvs =>
      rw [ep, Option.bind_some] at e
      split at e
      · rename_i pu
        cases e
        obtain ⟨a, vs, rfl, h1, h2, _⟩ := r.items st s
        exact ⟨a, vs, ds, kvs, rfl, .inl h1, h2, ep, fun p ks hp kr => q _ _ (same_new hp) (Res.newK st s hp pu kr)⟩
      · cases e
  · rename_i ds
    split at e
    · rename_i hm
      cases ep : pairsD ds with
      | none => rw [ep] at e; cases e
      | some kvs =>
        rw [ep, Option.bind_some] at e
        split at e
        · rename_i pu
          cases e
          obtain ⟨a, vs, rfl, h1, h2⟩ := rep_tupX r.rep
          exact ⟨a, vs, ds, kvs, rfl, .inr ⟨hm, h1⟩, h2, ep, fun p ks hp kr => q _ _ (same_new hp) (Res.newK st s hp pu kr)⟩
        · cases e
    · cases e
  · cases e
end
end PF

set_option Elab.async false
set_option linter.all false
set_option maxRecDepth 100000
set_option maxHeartbeats 4000000
/-! PF19: rows[i][j] = v. -/
namespace PF
open PySem PySem.Spec PyProof.Rows L2

theorem OwnL.setAt {P P' : D → V → (Addr → Prop) → Prop} {d' : D} : ∀ {ds : List D} {vs : List V} {S : Addr → Prop} {j : Nat} {d : D} {v : V}, OwnL P ds vs S → ds[j]? = some d → vs[j]? = some v →
    ∃ S1, P d v S1 ∧ (∀ a, S1 a → S a) ∧ (P' d' v S1 → (∀ d0 v0 S0, P d0 v0 S0 → (∀ a, S0 a → S a) → (∀ a, S0 a → ¬ S1 a) → P' d0 v0 S0) → OwnL P' (ds.set j d') vs S)
  | [], vs, S, j, d, v, h, e, _ => by simp at e
  | x :: ds, vs, S, 0, d, v, h, e, e' => by
    obtain ⟨u, vr, S1, S2, rfl, h1, h2, h3, h4⟩ := h
    simp at e e'
    subst e e'
    exact ⟨S1, h1, fun a q => (h3 a).mpr (.inl q), fun p' f => ⟨u, vr, S1, S2, rfl, p', OwnL.imp (fun d0 v0 S0 q _ p0 => f d0 v0 S0 p0 (fun a z => (h3 a).mpr (.inr (q a z))) fun a z z' => h4 a z' (q a z)) h2, h3, h4⟩⟩
  | x :: ds, vs, S, j + 1, d, v, h, e, e' => by
    obtain ⟨u, vr, S1, S2, rfl, h1, h2, h3, h4⟩ := h
    obtain ⟨T1, k1, k2, k3⟩ := OwnL.setAt (P' := P') (d' := d') (j := j) h2 (by simpa using e) (by simpa using e')
    exact ⟨T1, k1, fun a q => (h3 a).mpr (.inr (k2 a q)), fun p' f => ⟨u, vr, S1, S2, rfl, f _ _ _ h1 (fun a z => (h3 a).mpr (.inl z)) (fun a z z' => h4 a z (k2 a z')), k3 p' (fun d0 v0 S0 p0 q => f d0 v0 S0 p0 fun a z => (h3 a).mpr (.inr (q a z))), h3, h4⟩⟩
/-- rows[r][c] = e, rows owned two deep -/
def sSet2 (i : Nat) (fr fc f : EF) : SF := fun ρ => (f ρ).bind fun x => (fr ρ).bind fun y => (fc ρ).bind fun z => match ρ[i]?, y.1, z.1 with
  | some (some (2, .lst rows)), .int r, .int c => match ixN rows.length r with
    | some j => match rows[j]? with
      | some (.lst cells) => match ixN cells.length c with
        | some m => if shr x.1 x.2 = true then some (.nx (ρ.set i (some (2, .lst (rows.set j (.lst (cells.set m x.1))))))) else none
        | none => none
      | _ => none
    | none => none
  | _, _, _ => none
section
variable {X : Cx}
theorem ds_set2 {i : Nat} {tg e : Expr} {fr fc f : EF} {pos : Pos} (h : PS X (.Assign [tg] e pos) (tAsg (tE X.K f) (gSub (tOp (rIx X.K) (tVar i) (tE X.K fr)) (tE X.K fc) rSetL))) : DS X (.Assign [tg] e pos) (sSet2 i fr fc f) := h.weak fun E σ H ⟨ρ, O, B, o, st, e1, q⟩ => by
  unfold sSet2 at e1
  cases ef : f ρ with
  | none => rw [ef] at e1; cases e1
  | some x =>
    obtain ⟨d, fl⟩ := x
    cases er : fr ρ with
    | none => rw [ef, Option.bind_some, er] at e1; cases e1
    | some y =>
      obtain ⟨dy, fy⟩ := y
      cases ec : fc ρ with
      | none => rw [ef, Option.bind_some, er, Option.bind_some, ec] at e1; cases e1
      | some z =>
        obtain ⟨dz, fz⟩ := z
        rw [ef, Option.bind_some, er, Option.bind_some, ec, Option.bind_some] at e1
        simp only at e1
        split at e1
        · rename_i rows r c ei
          split at e1
          · rename_i j hj
            split at e1
            · rename_i cells hrow
              split at e1
              · rename_i m hm
                split at e1
                · rename_i hsh
                  cases e1
                  obtain ⟨a, vs, S', ev, ha, oa, na, hs, w⟩ := st.list ei
                  have hl : vs.length = rows.length := (w.repL' Rst.same).length
                  have hjl : j < vs.length := by rw [hl]; exact (List.getElem?_eq_some_iff.mp hrow).1
                  have evj : vs[j]? = some vs[j] := List.getElem?_eq_getElem hjl
                  refine ⟨ρ, O, T0, B, d, fl, st, ef, fun v H1 s1 r1 => ⟨.ref a, ev, ρ, O, T0, B, _, fy, st.mono s1, er, fun u H2 s2 r2 => ?_⟩⟩
                  have s12 := s1.trans s2
                  refine .inl ⟨a, vs, r, vs[j], rfl, rep_int r2.rep, SqL.of (s12 _ _ ha), ?_, ρ, O, T0, B, _, fz, st.mono s12, ec, fun t H3 s3 r3 => ?_⟩
                  · unfold atI
                    rw [hl, hj]
                    exact evj
                  have s := s12.trans s3
                  -- the row
                  generalize hv0 : vs[j] = v0 at evj ⊢
                  have w1 : OwnL (Own X.K (Rst H3 (Un O T0)) H3 1) rows vs S' := w.carry (Rst.mono s) (fun b o _ e => s _ _ e) fun b z => Rst.none (.inr ⟨i, (hs b).mpr (.inr z)⟩)
                  obtain ⟨S1, k1, k2, _⟩ := OwnL.setAt (P' := fun _ _ _ => True) (d' := .non) w1 hrow evj
                  obtain ⟨b, us, rfl, hS1, rb, hb, rr⟩ := Own.one.mp k1
                  have ul : us.length = cells.length := rr.length
                  have sb : S1 b := (hS1 b).mpr rfl
                  have ob : O i b := (hs b).mpr (.inr (k2 b sb))
                  have nab : a ≠ b := fun z => na (by rw [z]; exact k2 b sb)
                  refine ⟨b, us, c, m, rfl, rep_int r3.rep, hb, by rw [ul]; exact hm, ?_⟩
                  have hOS : ∀ x, putO O i (O i) i x ↔ O i x := fun x => putO_same
                  have hUn : ∀ x, Un (putO O i (O i)) T0 x ↔ Un O T0 x := fun x => by
                    constructor
                    · intro z
                      rcases Un_put z with z | z
                      · exact z
                      · exact .inr ⟨i, z⟩
                    · rintro (z | ⟨l, z⟩)
                      · exact .inl z
                      · by_cases e0 : l = i
                        · subst e0
                          exact .inr ⟨l, putO_same.mpr z⟩
                        · exact .inr ⟨l, (putO_ne e0).mpr z⟩
                  have hR : Same (Rst H3 (Un O T0)) (Rst (upd H3 b (.lst (us.set m v))) (Un (putO O i (O i)) T0)) := fun x o e => by
                    obtain ⟨n, e2⟩ := Rst.some e
                    rw [Rst.at fun z => n ((hUn x).mp z)]
                    rw [upd_ne fun z => n (by rw [z]; exact .inr ⟨i, ob⟩)]
                    exact e2
                  have rv : Rep X.K (Rst H3 (Un O T0)) d v := Rep.mono (Rst.mono (s2.trans s3)) _ _ (r1.shared st s1 hsh)
                  refine q _ _ _ (st.mut (S := O i) (k' := 2) s ei ev ob (fun x z => .inl z) ⟨a, S', rfl, na, fun x => hs x, Rst.none (.inr ⟨i, putO_same.mpr oa⟩), .inl ⟨_, vs, rfl, ?_, ?_⟩⟩)
                  · rw [upd_ne nab]
                    exact s _ _ ha
                  · obtain ⟨T1, t1, t2, t3⟩ := OwnL.setAt (P' := Own X.K (Rst (upd H3 b (.lst (us.set m v))) (Un (putO O i (O i)) T0)) (upd H3 b (.lst (us.set m v))) 1) (d' := .lst (cells.set m d)) w1 hrow evj
                    obtain ⟨b', us', e0, hT1, _, hb', _⟩ := Own.one.mp t1
                    cases e0
                    refine t3 (Own.one.mpr ⟨b, us.set m v, rfl, hT1, Rst.none (.inr ⟨i, putO_same.mpr ob⟩), upd_same, RepL.set (Rep.mono hR _ _ rv) m (RepL.mono hR _ _ rr)⟩) fun d0 v0 S0 p0 z0 z1 => ?_
                    refine p0.mono hR (fun x o hx e => ?_) fun x hx => Rst.none (.inr ⟨i, putO_same.mpr ((hs x).mpr (.inr (z0 x hx)))⟩)
                    rw [upd_ne fun z => z1 x hx (by rw [z]; exact (hT1 b).mpr rfl)]
                    exact e
                · cases e1
              · cases e1
            · cases e1
          · cases e1
        · cases e1
end
end PF

set_option Elab.async false
set_option linter.all false
set_option maxRecDepth 100000
set_option maxHeartbeats 4000000
/-! PF20: evaluating. -/
namespace PF
open PySem PySem.Spec PyProof.Rows L2

abbrev iL (l : List Int) : List D := l.map D.int
theorem pu_int {i : Int} : puD (.int i) = true := rfl
theorem pu_bl {i : Bool} : puD (.bl i) = true := rfl
theorem pu_str {i : PySem.Str} : puD (.str i) = true := rfl
theorem pu_non : puD .non = true := rfl
theorem pu_tup {l : List D} : puD (.tup l) = puL l := by unfold puD; rfl
theorem pu_nil : puL [] = true := rfl
theorem pu_cons {d : D} {l : List D} : puL (d :: l) = (puD d && puL l) := by first | rfl | (simp only [puL])
theorem pu_ints (l : List Int) : puL (iL l) = true := by
  induction l with
  | nil => rfl
  | cons x l ih =>
    show puL (D.int x :: iL l) = true
    rw [pu_cons, ih]
    rfl
theorem pu_map {α : Type} {g : α → D} {l : List α} (h : ∀ x ∈ l, puD (g x) = true) : puL (l.map g) = true := by
  induction l with
  | nil => rfl
  | cons x l ih => rw [List.map_cons, pu_cons, ih fun y m => h y (List.mem_cons_of_mem _ m), h x List.mem_cons_self]; rfl
theorem pu_get {l : List D} {i : Nat} {d : D} (h : puL l = true) (e : l[i]? = some d) : puD d = true := puL_iff.mp h d (List.mem_of_getElem? e)
theorem atI_of {α : Type} {l : List α} {i : Int} {j : Nat} {x : α} (hi : i = (j : Int)) (e : l[j]? = some x) : atI l i = some x := by
  have hj : j < l.length := (List.getElem?_eq_some_iff.mp e).1
  unfold atI ixN
  rw [if_pos (by omega), if_pos (by omega), Option.bind_some]
  rw [show i.toNat = j by omega]
  exact e
theorem atI_toNat {α : Type} {l : List α} {i : Int} (h0 : 0 ≤ i) (h1 : i < l.length) : atI l i = l[i.toNat]? := by
  unfold atI ixN
  rw [if_pos h0, if_pos h1, Option.bind_some]
theorem ixN_of {n : Nat} {i : Int} {j : Nat} (hi : i = (j : Int)) (h : j < n) : ixN n i = some j := by
  unfold ixN
  rw [if_pos (by omega), if_pos (by omega)]
  congr 1
  omega
theorem fl_shr {d : D} {sh : Bool} (h : puD d = true) : valFl sh d = .fr 0 := by unfold valFl; simp [h]
theorem mulOk_l {i j : Int} (h : -(2 ^ 64) < i ∧ i < 2 ^ 64) : mulOk i j = true := by
  unfold mulOk
  have : i.natAbs < 2 ^ 64 := by omega
  simp [this]
theorem mulOk_r {i j : Int} (h : -(2 ^ 64) < j ∧ j < 2 ^ 64) : mulOk i j = true := by
  unfold mulOk
  have : j.natAbs < 2 ^ 64 := by omega
  simp [this]
theorem big_pos : 2 ^ 64 ≤ big := by unfold big; exact Nat.pow_le_pow_right (by decide) (by decide)
theorem divOk_of {j : Int} (h0 : j ≠ 0) (h : -(2 ^ 64) < j ∧ j < 2 ^ 64) : divOk j = true := by
  unfold divOk
  have := big_pos
  have h2 : j.natAbs < big := by omega
  simp [h0, h2]
theorem shr_pu {d : D} {f : Fl} (h : puD d = true) : shr d f = true := by
  cases f with
  | fr _ => rfl
  | any => exact h
  | bo k => cases k <;> first | rfl | exact h
theorem callFl_pu {d : D} (h : puD d = true) : callFl d 0 = .fr 0 := by unfold callFl puBelow; simp [h]
theorem fmod_p {a b : Int} (h : 0 ≤ b) : a.fmod b = a % b := Int.fmod_eq_emod_of_nonneg a h
theorem fdiv_p {a b : Int} (h : 0 ≤ b) : a.fdiv b = a / b := Int.fdiv_eq_ediv_of_nonneg a h
theorem op_ev {op : DF → DF → Option DF} {f g : EF} {ρ : Env} {x y : DF} (h1 : f ρ = some x) (h2 : g ρ = some y) : eOp op f g ρ = op x y := by unfold eOp; rw [h1, h2]; rfl
theorem un_ev {op : DF → Option DF} {f : EF} {ρ : Env} {x : DF} (h1 : f ρ = some x) : eUn op f ρ = op x := by unfold eUn; rw [h1]; rfl
theorem seq_nx {f g : SF} {ρ ρ' : Env} (h : f ρ = some (.nx ρ')) : sSeq f g ρ = g ρ' := by unfold sSeq; rw [h]; rfl
theorem seq_rt {f g : SF} {ρ : Env} {d : D} {k : Nat} (h : f ρ = some (.rt d k)) : sSeq f g ρ = some (.rt d k) := by unfold sSeq; rw [h]; rfl
theorem fn_rt {n N : Nat} {b : SF} {ds : List D} {d : D} {k : Nat} (h : b (ds.map (fun d => some (0, d)) ++ List.replicate (N - n) none) = some (.rt d k)) : fnF n N b ds = some (d, k) := by unfold fnF; rw [h]
theorem if_t {t : TF} {f g : SF} {ρ : Env} (h : t ρ = some true) : sIf t f g ρ = f ρ := by unfold sIf; rw [h]; rfl
theorem if_f {t : TF} {f g : SF} {ρ : Env} (h : t ρ = some false) : sIf t f g ρ = g ρ := by unfold sIf; rw [h]; rfl
theorem asg_fr {i k : Nat} {f : EF} {ρ : Env} {d : D} (hi : i < ρ.length) (h : f ρ = some (d, .fr k)) : sAsg i f ρ = some (.nx (ρ.set i (some (k, d)))) := by
  unfold sAsg
  rw [if_pos hi, h]
  rfl
theorem asg_sh {i : Nat} {f : EF} {ρ : Env} {d : D} {fl : Fl} (hi : i < ρ.length) (h : f ρ = some (d, fl)) (hf : ∀ k, fl ≠ .fr k) (hs : shr d fl = true) : sAsg i f ρ = some (.nx (ρ.set i (some (0, d)))) := by
  unfold sAsg
  rw [if_pos hi, h]
  cases fl with
  | fr k => exact absurd rfl (hf k)
  | bo k => simp [hs]
  | any => simp [hs]
theorem ret_fr {f : EF} {ρ : Env} {d : D} {k : Nat} (h : f ρ = some (d, .fr k)) : sRet f ρ = some (.rt d k) := by unfold sRet; rw [h]; rfl
theorem ret_bo {f : EF} {ρ : Env} {d : D} {k : Nat} (h : f ρ = some (d, .bo k)) : sRet f ρ = some (.rt d k) := by unfold sRet; rw [h]; rfl
theorem for_ev {it : IF} {g : GF} {b : SF} {ρ : Env} {items : List D} (h : it ρ = some items) : sFor it g b ρ = forF g b items ρ := by unfold sFor; rw [h]; rfl
theorem range1_ev {f : EF} {ρ : Env} {n : Nat} {fl : Fl} (h : f ρ = some (.int n, fl)) (hn : n < 2 ^ 62) : iRange1 f ρ = some (rangeD 0 n) := by
  unfold iRange1
  rw [h, Option.bind_some]
  simp only
  rw [if_pos (by unfold inR; simp; omega)]
  rfl
/-- for, by the items done so far -/
theorem for_rule {g : GF} {b : SF} (W : List D → Env → Prop) {R : Out → Prop} : ∀ {items : List D} {pre : List D} {ρ : Env}, W pre ρ →
    (∀ (pre : List D) (d : D) (post : List D) (ρ : Env), pre ++ d :: post = (pre ++ d :: post) → W pre ρ → d ∈ items → ∃ ρ1 o, g d ρ = some ρ1 ∧ b ρ1 = some o ∧ ((∃ ρ', (o = .nx ρ' ∨ o = .ct ρ') ∧ W (pre ++ [d]) ρ') ∨ ((∃ d' k, o = .rt d' k) ∧ R o) ∨ (∃ ρ', o = .bk ρ' ∧ R (.nx ρ')))) →
    (∀ ρ, W (pre ++ items) ρ → R (.nx ρ)) → ∃ o, forF g b items ρ = some o ∧ R o
  | [], pre, ρ, h, _, f => ⟨.nx ρ, rfl, f ρ (by simpa using h)⟩
  | d :: ds, pre, ρ, h, s, f => by
    obtain ⟨ρ1, o, h1, h2, h3⟩ := s pre d ds ρ rfl h List.mem_cons_self
    unfold forF
    rw [h1, Option.bind_some, h2, Option.bind_some]
    rcases h3 with ⟨ρ', rfl | rfl, w⟩ | ⟨⟨d', k, rfl⟩, r⟩ | ⟨ρ', rfl, r⟩
    · exact for_rule W w (fun pre d post ρ e w m => s pre d post ρ e w (List.mem_cons_of_mem _ m)) fun ρ w => f ρ (by simpa using w)
    · exact for_rule W w (fun pre d post ρ e w m => s pre d post ρ e w (List.mem_cons_of_mem _ m)) fun ρ w => f ρ (by simpa using w)
    · exact ⟨_, rfl, r⟩
    · exact ⟨_, rfl, r⟩
/-- for over a range, no way out of it -/
theorem for_range {g : GF} {b : SF} (W : Nat → Env → Prop) {n : Nat} : ∀ {m lo : Nat} {ρ : Env}, lo + m = n → W lo ρ → (∀ (i : Nat) (ρ : Env), lo ≤ i → i < n → W i ρ → ∃ ρ1 ρ', g (.int (i : Int)) ρ = some ρ1 ∧ b ρ1 = some (.nx ρ') ∧ W (i + 1) ρ') →
    ∃ ρ', forF g b ((List.range m).map fun (j : Nat) => D.int ((lo : Int) + (j : Int))) ρ = some (.nx ρ') ∧ W n ρ'
  | 0, lo, ρ, e, h, _ => ⟨ρ, rfl, by rw [← e]; exact h⟩
  | m + 1, lo, ρ, e, h, s => by
    obtain ⟨ρ1, ρ2, h1, h2, h3⟩ := s lo ρ (Nat.le_refl _) (by omega) h
    rw [List.range_succ_eq_map, List.map_cons, List.map_map]
    unfold forF
    have e0 : (lo : Int) + ((0 : Nat) : Int) = (lo : Int) := by simp
    rw [e0, h1, Option.bind_some, h2, Option.bind_some]
    obtain ⟨ρ', h4, h5⟩ := for_range W (m := m) (lo := lo + 1) (ρ := ρ2) (by omega) h3 fun i ρ a b w => s i ρ (by omega) b w
    have em : (List.range m).map ((fun (j : Nat) => D.int ((lo : Int) + (j : Int))) ∘ Nat.succ) = (List.range m).map fun (j : Nat) => D.int (((lo + 1 : Nat) : Int) + (j : Int)) := List.map_congr_left fun j _ => by
      simp only [Function.comp]
      congr 1
      omega
    rw [em]
    exact ⟨ρ', h4, h5⟩
/-- while: a measure -/
theorem while_rule {t : TF} {b : SF} (W : Nat → Env → Prop) {R : Env → Prop} : ∀ {n : Nat} {ρ : Env}, W n ρ → n < FUEL → (∀ (n : Nat) (ρ : Env), W n ρ → (t ρ = some false ∧ R ρ) ∨ (t ρ = some true ∧ ∃ ρ' n', b ρ = some (.nx ρ') ∧ n' < n ∧ W n' ρ')) → ∃ ρ', sWhile t b ρ = some (.nx ρ') ∧ R ρ' := by
  have key : ∀ (k n : Nat) (ρ : Env), n < k → W n ρ → (∀ (n : Nat) (ρ : Env), W n ρ → (t ρ = some false ∧ R ρ) ∨ (t ρ = some true ∧ ∃ ρ' n', b ρ = some (.nx ρ') ∧ n' < n ∧ W n' ρ')) → ∃ ρ', whileF t b k ρ = some (.nx ρ') ∧ R ρ' := fun k => by
    induction k with
    | zero => intro n ρ h; omega
    | succ k ih =>
      intro n ρ h w s
      rcases s n ρ w with ⟨h1, h2⟩ | ⟨h1, ρ', n', h2, h3, h4⟩
      · refine ⟨ρ, ?_, h2⟩
        unfold whileF
        rw [h1]
        rfl
      · obtain ⟨ρ'', h5, h6⟩ := ih n' ρ' (by omega) h4 s
        refine ⟨ρ'', ?_, h6⟩
        unfold whileF
        rw [h1, Option.bind_some, if_pos rfl, h2]
        exact h5
  exact fun {n ρ} w h s => key FUEL n ρ h w s
/-- [e for .. in it if t] -/
theorem compL_ev {α : Type} {g : GF} {t : TF} {e : EF} {ρ : Env} (f : α → D) (p : α → Bool) (F : α → D) (fl : α → Fl) : ∀ {l : List α}, (∀ a ∈ l, ∃ ρ1, g (f a) ρ = some ρ1 ∧ t ρ1 = some (p a) ∧ (p a = true → e ρ1 = some (F a, fl a))) → compL g t e ρ (l.map f) = some ((l.filter p).map fun a => (F a, fl a))
  | [], _ => rfl
  | a :: l, h => by
    obtain ⟨ρ1, h1, h2, h3⟩ := h a List.mem_cons_self
    have ih := compL_ev f p F fl (l := l) fun b m => h b (List.mem_cons_of_mem _ m)
    rw [List.map_cons]
    unfold compL
    rw [h1, Option.bind_some, h2, Option.bind_some]
    by_cases hp : p a = true
    · rw [if_pos hp, h3 hp, Option.bind_some, ih, List.filter_cons_of_pos hp]
      rfl
    · rw [if_neg hp, ih, List.filter_cons_of_neg hp]
theorem lc_step {it : IF} {g : GF} {t : TF} {vs : List Nat} {e : EF} {ρ : Env} {items : List D} {xs : List DF} (hi : it ρ = some items) (h : compL g t e (wipeE ρ vs) items = some xs) : eLc it g t vs e ρ = compR xs := by
  unfold eLc
  rw [hi, Option.bind_some, h, Option.bind_some]
theorem modeOf_0 {α : Type} {F : α → D} {fl : α → Fl} {l : List α} (h : ∀ a ∈ l, fl a = .fr 0 ∨ fl a = .bo 0 ∨ fl a = .any) : modeOf (l.map fun a => (F a, fl a)) = 0 := by
  cases l with
  | nil => rfl
  | cons a l =>
    rw [List.map_cons]
    rcases h a List.mem_cons_self with e | e | e <;> rw [e] <;> rfl
theorem lc_ev {α : Type} {it : IF} {g : GF} {t : TF} {vs : List Nat} {e : EF} {ρ : Env} {l : List α} (f : α → D) (p : α → Bool) (F : α → D) (fl : α → Fl) (hi : it ρ = some (l.map f))
    (h : ∀ a ∈ l, ∃ ρ1, g (f a) (wipeE ρ vs) = some ρ1 ∧ t ρ1 = some (p a) ∧ (p a = true → e ρ1 = some (F a, fl a))) (hs : ∀ a ∈ l, shr (F a) (fl a) = true ∧ (fl a = .fr 0 ∨ fl a = .bo 0 ∨ fl a = .any)) (hl : l.length ≤ sizeLine) :
    eLc it g t vs e ρ = some (.lst ((l.filter p).map F), .fr 1) := by
  unfold eLc
  rw [hi, Option.bind_some, compL_ev f p F fl h, Option.bind_some]
  unfold compR
  have hf : ∀ a ∈ l.filter p, a ∈ l := fun a m => (List.mem_filter.mp m).1
  rw [modeOf_0 fun a m => (hs a (hf a m)).2]
  have h1 : ((l.filter p).map fun a => (F a, fl a)).all (fun x => shr x.1 x.2) = true := by
    rw [List.all_eq_true]
    intro x m
    obtain ⟨a, ma, rfl⟩ := List.mem_map.mp m
    exact (hs a (hf a ma)).1
  have h2 : ((l.filter p).map fun a => (F a, fl a)).length ≤ sizeLine := by
    rw [List.length_map]
    exact Nat.le_trans (List.length_filter_le _ _) hl
  rw [h1, decide_eq_true h2, List.map_map]
  rfl
/-- without a test -/
theorem lc_all {α : Type} {it : IF} {g : GF} {vs : List Nat} {e : EF} {ρ : Env} {l : List α} (f : α → D) (F : α → D) (fl : α → Fl) (hi : it ρ = some (l.map f))
    (h : ∀ a ∈ l, ∃ ρ1, g (f a) (wipeE ρ vs) = some ρ1 ∧ e ρ1 = some (F a, fl a)) (hs : ∀ a ∈ l, shr (F a) (fl a) = true ∧ (fl a = .fr 0 ∨ fl a = .bo 0 ∨ fl a = .any)) (hl : l.length ≤ sizeLine) :
    eLc it g tYesF vs e ρ = some (.lst (l.map F), .fr 1) := by
  have := lc_ev (it := it) (g := g) (t := tYesF) (vs := vs) (e := e) f (fun _ => true) F fl hi (fun a m => by
    obtain ⟨ρ1, h1, h2⟩ := h a m
    exact ⟨ρ1, h1, rfl, fun _ => h2⟩) hs hl
  rw [this, List.filter_eq_self.mpr fun _ _ => rfl]
theorem range_eq (lo : Int) (n : Nat) : rangeD lo n = (List.range n).map fun (i : Nat) => D.int (lo + (i : Int)) := rfl
theorem range1_map {f : EF} {ρ : Env} {n : Nat} {fl : Fl} (h : f ρ = some (.int n, fl)) (hn : n < 2 ^ 62) : iRange1 f ρ = some ((List.range n).map fun (i : Nat) => D.int (0 + (i : Int))) := range1_ev h hn
theorem call1 {G : FF} {a : EF} {ρ : Env} {x : DF} {r : D} {k : Nat} (h1 : a ρ = some x) (hG : G [x.1] = some (r, k)) : eCall G (aCons a aNil) ρ = some (r, callFl r k) := by
  unfold eCall
  simp only [aCons, aNil, h1, Option.bind_some, hG]
theorem call2 {G : FF} {a b : EF} {ρ : Env} {x y : DF} {r : D} {k : Nat} (h1 : a ρ = some x) (h2 : b ρ = some y) (hG : G [x.1, y.1] = some (r, k)) : eCall G (aCons a (aCons b aNil)) ρ = some (r, callFl r k) := by
  unfold eCall
  simp only [aCons, aNil, h1, h2, Option.bind_some, hG]
theorem call3 {G : FF} {a b c : EF} {ρ : Env} {x y z : DF} {r : D} {k : Nat} (h1 : a ρ = some x) (h2 : b ρ = some y) (h3 : c ρ = some z) (hG : G [x.1, y.1, z.1] = some (r, k)) : eCall G (aCons a (aCons b (aCons c aNil))) ρ = some (r, callFl r k) := by
  unfold eCall
  simp only [aCons, aNil, h1, h2, h3, Option.bind_some, hG]
theorem call4 {G : FF} {a b c d : EF} {ρ : Env} {x y z w : DF} {r : D} {k : Nat} (h1 : a ρ = some x) (h2 : b ρ = some y) (h3 : c ρ = some z) (h4 : d ρ = some w) (hG : G [x.1, y.1, z.1, w.1] = some (r, k)) : eCall G (aCons a (aCons b (aCons c (aCons d aNil)))) ρ = some (r, callFl r k) := by
  unfold eCall
  simp only [aCons, aNil, h1, h2, h3, h4, Option.bind_some, hG]
theorem and_tr {f g : EF} {ρ : Env} {x : DF} (h : f ρ = some x) (ht : tru x.1 = some true) : eAnd f g ρ = g ρ := by
  unfold eAnd
  rw [h, Option.bind_some, ht]
  rfl
theorem range2_ev {f g : EF} {ρ : Env} {a b : Int} {x y : Fl} (hf : f ρ = some (.int a, x)) (hg : g ρ = some (.int b, y)) (h1 : -(2 ^ 62) ≤ a ∧ a < 2 ^ 62) (h2 : -(2 ^ 62) ≤ b ∧ b < 2 ^ 62) : iRange2 f g ρ = some (rangeD a (b - a).toNat) := by
  unfold iRange2
  rw [hf, Option.bind_some, hg, Option.bind_some]
  simp only
  rw [if_pos (by unfold inR; simp; omega)]
theorem intL_iL : ∀ l : List Int, intL (iL l) = some l
  | [] => rfl
  | x :: l => by
    show intL (.int x :: iL l) = _
    unfold intL
    rw [intL_iL l]
    rfl
theorem ints_ev {F : List Int → Option D} {l : List Int} {fl : Fl} : eIntsF F (.lst (iL l), fl) = (F l).bind fun d => PF.scal d := by
  show (intL (iL l)).bind _ = _
  rw [intL_iL]
  rfl
theorem blsL_map : ∀ l : List Bool, blsL (l.map D.bl) = some l
  | [] => rfl
  | x :: l => by
    show blsL (.bl x :: l.map D.bl) = _
    unfold blsL
    rw [blsL_map l]
    rfl
theorem bls_ev {F : List Bool → Option D} {l : List Bool} {fl : Fl} : eBlsF F (.lst (l.map D.bl), fl) = (F l).bind fun d => PF.scal d := by
  show (blsL (l.map D.bl)).bind _ = _
  rw [blsL_map]
  rfl
theorem all_ev {l : List Bool} {fl : Fl} : eAllF (.lst (l.map D.bl), fl) = some (.bl (l.all id), .fr 0) := bls_ev
theorem any_ev {l : List Bool} {fl : Fl} : eAnyF (.lst (l.map D.bl), fl) = some (.bl (l.any id), .fr 0) := bls_ev
theorem sum_ev {l : List Int} {fl : Fl} : eSumF (.lst (iL l), fl) = some (.int l.sum, .fr 0) := ints_ev
theorem cut_from {α : Type} (l : List α) (k : Nat) : cutD l (some (k : Int)) none = l.drop k := by
  unfold cutD
  rw [HT.sIx_none, HT.sIx_nat]
  by_cases h : k ≤ l.length
  · rw [Nat.min_eq_left h, List.take_of_length_le (by rw [List.length_drop]; omega)]
  · rw [Nat.min_eq_right (by omega), List.drop_of_length_le (Nat.le_refl _), List.drop_of_length_le (by omega), List.take_nil]
theorem cut_to {α : Type} (l : List α) (k : Nat) : cutD l none (some (k : Int)) = l.take k := by
  unfold cutD
  rw [HT.sIx_none, HT.sIx_nat, List.drop_zero, Nat.sub_zero]
  by_cases h : k ≤ l.length
  · rw [Nat.min_eq_left h]
  · rw [Nat.min_eq_right (by omega), List.take_of_length_le (Nat.le_refl _), List.take_of_length_le (by omega)]
theorem sl_from {f h : EF} {ρ : Env} {x : DF} {k : Nat} {fl : Fl} {ds : List D} (h1 : f ρ = some x) (hx : x.1 = .tup ds) (hs : shr (.tup ds) x.2 = true) (h2 : h ρ = some (.int k, fl)) : eSl f (oSome h) oNone ρ = some (.tup (ds.drop k), .fr 0) := by
  obtain ⟨dx, fx⟩ := x
  simp only at hx
  subst hx
  unfold eSl oSome oNone
  simp only [h1, h2, Option.bind_some, eSlF, cut_from]
  rw [if_pos hs]
theorem sl_to {f h : EF} {ρ : Env} {x : DF} {k : Nat} {fl : Fl} {ds : List D} (h1 : f ρ = some x) (hx : x.1 = .tup ds) (hs : shr (.tup ds) x.2 = true) (h2 : h ρ = some (.int k, fl)) : eSl f oNone (oSome h) ρ = some (.tup (ds.take k), .fr 0) := by
  obtain ⟨dx, fx⟩ := x
  simp only at hx
  subst hx
  unfold eSl oSome oNone
  simp only [h1, h2, Option.bind_some, eSlF, cut_to]
  rw [if_pos hs]
/-- % and // by a written number -/
theorem iMod_lit {a b : Int} {x y : Fl} (h : 0 < b) : iMod (.int a, x) (.int b, y) = some (.int (a % b), .fr 0) := by
  simp only [iop]
  rw [if_neg (by omega), fmod_p (by omega)]
  rfl
theorem iDiv_lit {a b : Int} {x y : Fl} (h : 0 < b) (h2 : b < 2 ^ 64) : iDiv (.int a, x) (.int b, y) = some (.int (a / b), .fr 0) := by
  simp only [iop]
  rw [if_pos (divOk_of (by omega) (by omega)), fdiv_p (by omega)]
  rfl
theorem mul_l {a b : Int} {x y : Fl} (h : -(2 ^ 64) < a ∧ a < 2 ^ 64) : eMulF (.int a, x) (.int b, y) = some (.int (a * b), .fr 0) := by
  simp only [eMulF]
  rw [if_pos (mulOk_l h)]
theorem mul_r {a b : Int} {x y : Fl} (h : -(2 ^ 64) < b ∧ b < 2 ^ 64) : eMulF (.int a, x) (.int b, y) = some (.int (a * b), .fr 0) := by
  simp only [eMulF]
  rw [if_pos (mulOk_r h)]
theorem add_i {a b : Int} {x y : Fl} : eAddF (.int a, x) (.int b, y) = some (.int (a + b), .fr 0) := rfl
theorem sub_i {a b : Int} {x y : Fl} : iSub (.int a, x) (.int b, y) = some (.int (a - b), .fr 0) := rfl
theorem lt_i {a b : Int} {x y : Fl} : iLt (.int a, x) (.int b, y) = some (.bl (decide (a < b)), .fr 0) := rfl
theorem le_i {a b : Int} {x y : Fl} : iLe (.int a, x) (.int b, y) = some (.bl (decide (a ≤ b)), .fr 0) := rfl
theorem gt_i {a b : Int} {x y : Fl} : iGt (.int a, x) (.int b, y) = some (.bl (decide (b < a)), .fr 0) := rfl
theorem ge_i {a b : Int} {x y : Fl} : iGe (.int a, x) (.int b, y) = some (.bl (decide (b ≤ a)), .fr 0) := rfl
theorem int_i {a : Int} {x : Fl} : eIntF (.int a, x) = some (.int a, .fr 0) := rfl
theorem abs_i {a : Int} {x : Fl} : eAbsF (.int a, x) = some (.int (if a < 0 then -a else a), .fr 0) := rfl
theorem len_l {l : List D} {x : Fl} : eLenF (.lst l, x) = some (.int l.length, .fr 0) := rfl
theorem len_t {l : List D} {x : Fl} : eLenF (.tup l, x) = some (.int l.length, .fr 0) := rfl
theorem eq_i {a b : Int} {x y : Fl} : eEqF (.int a, x) (.int b, y) = some (.bl (decide (a = b)), .fr 0) := by
  unfold eEqF
  simp [okD, deq, scal]
theorem ne_i {a b : Int} {x y : Fl} : eNeF (.int a, x) (.int b, y) = some (.bl (!decide (a = b)), .fr 0) := by
  unfold eNeF
  simp [okD, deq, scal]
theorem ix_l {l : List D} {i : Int} {x y : Fl} {d : D} (j : Nat) (hi : i = (j : Int)) (e : l[j]? = some d) : eIxF (.lst l, x) (.int i, y) = some (d, elFl x d) := by
  simp only [eIxF]
  rw [atI_of hi e, Option.map_some]
theorem ix_t {l : List D} {i : Int} {x y : Fl} {d : D} (j : Nat) (hi : i = (j : Int)) (e : l[j]? = some d) (h : shr (.tup l) x = true) : eIxF (.tup l, x) (.int i, y) = some (d, .fr 0) := by
  simp only [eIxF]
  rw [atI_of hi e, Option.map_some, if_pos h]
end PF

set_option Elab.async false
set_option linter.all false
set_option maxRecDepth 100000
set_option maxHeartbeats 4000000
/-! The law's defs over the PF layer. -/
namespace PFG
open PySem PySem.Spec PyProof.Rows L2 PF
def topS (i : Nat) : Stmt := PySem.Challenge.pw_farkept_k60_whole_bags.main.body.getD i (.Pass ⟨0, 0, 0, 0⟩)
abbrev S__law_things : Stmt := topS 23
theorem sc__law_things : FnScope ["row", "at", "k"] ["row", "at"] (defScope S__law_things) := ⟨rfl, rfl, rfl, by decide +kernel, rfl, by decide +kernel, by decide +kernel⟩
abbrev S__law_all_things : Stmt := topS 24
theorem sc__law_all_things : FnScope ["row", "found", "k", "half"] ["row"] (defScope S__law_all_things) := ⟨rfl, rfl, rfl, by decide +kernel, rfl, by decide +kernel, by decide +kernel⟩
abbrev S__law_bag : Stmt := topS 26
theorem sc__law_bag : FnScope ["counts", "much", "more", "found", "k"] ["counts", "much", "more"] (defScope S__law_bag) := ⟨rfl, rfl, rfl, by decide +kernel, rfl, by decide +kernel, by decide +kernel⟩
abbrev S__law_is_int : Stmt := topS 19
theorem sc__law_is_int : FnScope ["value"] ["value"] (defScope S__law_is_int) := ⟨rfl, rfl, rfl, by decide +kernel, rfl, by decide +kernel, by decide +kernel⟩
abbrev S__law_like : Stmt := topS 20
theorem sc__law_like : FnScope ["value", "due", "k"] ["value", "due"] (defScope S__law_like) := ⟨rfl, rfl, rfl, by decide +kernel, rfl, by decide +kernel, by decide +kernel⟩
abbrev S__law_dot : Stmt := topS 27
theorem sc__law_dot : FnScope ["first", "second", "k"] ["first", "second"] (defScope S__law_dot) := ⟨rfl, rfl, rfl, by decide +kernel, rfl, by decide +kernel, by decide +kernel⟩
abbrev S__law_like_of : Stmt := topS 28
theorem sc__law_like_of : FnScope ["first", "second", "shared", "whole"] ["first", "second"] (defScope S__law_like_of) := ⟨rfl, rfl, rfl, by decide +kernel, rfl, by decide +kernel, by decide +kernel⟩
abbrev S__law_common : Stmt := topS 21
theorem sc__law_common : FnScope ["first", "second"] ["first", "second"] (defScope S__law_common) := ⟨rfl, rfl, rfl, by decide +kernel, rfl, by decide +kernel, by decide +kernel⟩
abbrev S__law_ratio : Stmt := topS 22
theorem sc__law_ratio : FnScope ["a", "b", "shared"] ["a", "b"] (defScope S__law_ratio) := ⟨rfl, rfl, rfl, by decide +kernel, rfl, by decide +kernel, by decide +kernel⟩
abbrev S_far : Stmt := topS 13
theorem sc_far : FnScope ["way", "u", "v", "steps", "one", "other", "step", "weight", "rows", "i", "part"] ["way", "u", "v"] (defScope S_far) := ⟨rfl, rfl, rfl, by decide +kernel, rfl, by decide +kernel, by decide +kernel⟩
abbrev S__ratio : Stmt := topS 3
theorem sc__ratio : FnScope ["over", "under", "shared"] ["over", "under"] (defScope S__ratio) := ⟨rfl, rfl, rfl, by decide +kernel, rfl, by decide +kernel, by decide +kernel⟩
abbrev S__square : Stmt := topS 7
theorem sc__square : FnScope ["bag", "_", "count"] ["bag"] (defScope S__square) := ⟨rfl, rfl, rfl, by decide +kernel, rfl, by decide +kernel, by decide +kernel⟩
abbrev S_likeness : Stmt := topS 6
theorem sc_likeness : FnScope ["first", "second", "counts", "products", "thing", "count"] ["first", "second"] (defScope S_likeness) := ⟨rfl, rfl, rfl, by decide +kernel, rfl, by decide +kernel, by decide +kernel⟩
abbrev S__size : Stmt := topS 4
theorem sc__size : FnScope ["bag", "_", "count"] ["bag"] (defScope S__size) := ⟨rfl, rfl, rfl, by decide +kernel, rfl, by decide +kernel, by decide +kernel⟩
abbrev S_shared_part : Stmt := topS 5
theorem sc_shared_part : FnScope ["first", "second", "counts", "least", "thing", "count", "greatest"] ["first", "second"] (defScope S_shared_part) := ⟨rfl, rfl, rfl, by decide +kernel, rfl, by decide +kernel, by decide +kernel⟩
abbrev S_value_of_rows : Stmt := topS 11
theorem sc_value_of_rows : FnScope ["table", "rows", "row", "turned", "before", "place", "heads", "index", "column", "whole"] ["table"] (defScope S_value_of_rows) := ⟨rfl, rfl, rfl, by decide +kernel, rfl, by decide +kernel, by decide +kernel⟩
abbrev S_span_volume : Stmt := topS 15
theorem sc_span_volume : FnScope ["vectors", "u", "v", "one", "other"] ["vectors"] (defScope S_span_volume) := ⟨rfl, rfl, rfl, by decide +kernel, rfl, by decide +kernel, by decide +kernel⟩
abbrev S__law_pair_right : Stmt := topS 29
theorem sc__law_pair_right : FnScope ["one", "other", "first", "second", "over", "under", "least", "k", "most", "due", "rest"] ["one", "other", "first", "second"] (defScope S__law_pair_right) := ⟨rfl, rfl, rfl, by decide +kernel, rfl, by decide +kernel, by decide +kernel⟩
abbrev S__law_ranked : Stmt := topS 30
theorem sc__law_ranked : FnScope ["rows", "asked", "likes", "one", "ranked", "k", "place"] ["rows", "asked"] (defScope S__law_ranked) := ⟨rfl, rfl, rfl, by decide +kernel, rfl, by decide +kernel, by decide +kernel⟩
abbrev S__law_mixed : Stmt := topS 17
theorem sc__law_mixed : FnScope ["script", "k", "cell", "first", "second", "third"] ["script", "k"] (defScope S__law_mixed) := ⟨rfl, rfl, rfl, by decide +kernel, rfl, by decide +kernel, by decide +kernel⟩
abbrev S__law_row : Stmt := topS 18
theorem sc__law_row : FnScope ["script", "many", "big", "row", "k"] ["script", "many"] (defScope S__law_row) := ⟨rfl, rfl, rfl, by decide +kernel, rfl, by decide +kernel, by decide +kernel⟩
abbrev S__law_row_of : Stmt := topS 25
theorem sc__law_row_of : FnScope ["things", "thing"] ["things"] (defScope S__law_row_of) := ⟨rfl, rfl, rfl, by decide +kernel, rfl, by decide +kernel, by decide +kernel⟩
abbrev S_bag_of : Stmt := topS 2
theorem sc_bag_of : FnScope ["things", "counts", "thing"] ["things"] (defScope S_bag_of) := ⟨rfl, rfl, rfl, by decide +kernel, rfl, by decide +kernel, by decide +kernel⟩
abbrev S__rank : Stmt := topS 9
theorem sc__rank : FnScope ["best", "over", "under", "low", "high", "middle"] ["best", "over", "under"] (defScope S__rank) := ⟨rfl, rfl, rfl, by decide +kernel, rfl, by decide +kernel, by decide +kernel⟩
abbrev S_nearest_bags : Stmt := topS 8
theorem sc_nearest_bags : FnScope ["bags", "bag", "k", "best", "place", "other", "over", "under", "_"] ["bags", "bag", "k"] (defScope S_nearest_bags) := ⟨rfl, rfl, rfl, by decide +kernel, rfl, by decide +kernel, by decide +kernel⟩
abbrev S_law : Stmt := topS 31
theorem sc_law : FnScope ["script", "row", "much", "more", "everything", "rows", "things", "bags", "one", "k", "thing", "asked", "bag", "many"] ["script"] (defScope S_law) := ⟨rfl, rfl, rfl, by decide +kernel, rfl, by decide +kernel, by decide +kernel⟩
/-- what the top leaves -/
structure Facts (K : PySem.W.Frag) (mg : Str → Option Value) : Prop where
  h__law_things : Has K mg "_law_things" S__law_things ["row", "at"]
  h__law_all_things : Has K mg "_law_all_things" S__law_all_things ["row"]
  h__law_bag : Has K mg "_law_bag" S__law_bag ["counts", "much", "more"]
  h__law_is_int : Has K mg "_law_is_int" S__law_is_int ["value"]
  h__law_like : Has K mg "_law_like" S__law_like ["value", "due"]
  h__law_dot : Has K mg "_law_dot" S__law_dot ["first", "second"]
  h__law_like_of : Has K mg "_law_like_of" S__law_like_of ["first", "second"]
  h__law_common : Has K mg "_law_common" S__law_common ["first", "second"]
  h__law_ratio : Has K mg "_law_ratio" S__law_ratio ["a", "b"]
  h_far : Has K mg "far" S_far ["way", "u", "v"]
  h__ratio : Has K mg "_ratio" S__ratio ["over", "under"]
  h__square : Has K mg "_square" S__square ["bag"]
  h_likeness : Has K mg "likeness" S_likeness ["first", "second"]
  h__size : Has K mg "_size" S__size ["bag"]
  h_shared_part : Has K mg "shared_part" S_shared_part ["first", "second"]
  h_value_of_rows : Has K mg "value_of_rows" S_value_of_rows ["table"]
  h_span_volume : Has K mg "span_volume" S_span_volume ["vectors"]
  h__law_pair_right : Has K mg "_law_pair_right" S__law_pair_right ["one", "other", "first", "second"]
  h__law_ranked : Has K mg "_law_ranked" S__law_ranked ["rows", "asked"]
  h__law_mixed : Has K mg "_law_mixed" S__law_mixed ["script", "k"]
  h__law_row : Has K mg "_law_row" S__law_row ["script", "many"]
  h__law_row_of : Has K mg "_law_row_of" S__law_row_of ["things"]
  h_bag_of : Has K mg "bag_of" S_bag_of ["things"]
  h__rank : Has K mg "_rank" S__rank ["best", "over", "under"]
  h_nearest_bags : Has K mg "nearest_bags" S_nearest_bags ["bags", "bag", "k"]
  h_law : Has K mg "law" S_law ["script"]
  m_abs : mg "abs" = none
  m_all : mg "all" = none
  m_bool : mg "bool" = none
  m_dict : mg "dict" = none
  m_enumerate : mg "enumerate" = none
  m_int : mg "int" = none
  m_isinstance : mg "isinstance" = none
  m_len : mg "len" = none
  m_list : mg "list" = none
  m_max : mg "max" = none
  m_min : mg "min" = none
  m_range : mg "range" = none
  m_sorted : mg "sorted" = none
  m_str : mg "str" = none
  m_sum : mg "sum" = none
  m_tuple : mg "tuple" = none
  m_zip : mg "zip" = none
  m_gcd : mg "gcd" = some (.builtin "math.gcd")
section
variable {P : Program} {w : World} {K : PySem.W.Frag} {mg : Str → Option Value} {base : Heap}
theorem hu1 {k : Nat} {A : Around} (r : Room k A) : A.units + 1 < cLine := by have := r.un; omega
theorem hu100 {k : Nat} {A : Around} (r : Room k A) : A.units + 100 < cLine := by have := r.un; omega
theorem hu70 {k : Nat} {A : Around} (r : Room k A) : A.units + 70 < cLine := by have := r.un; omega
def B__law_things : SF :=
    (sRet (eUn eTupleF (eLc (iRange1 (eOp iMod (eUn eIntF (eOp eIxF (eVar 0) (eVar 1))) (eC (.int 11)))) (gNm 2) tYesF [2] (eOp eAddF (eC (.int 1)) (eOp iMod (eUn eIntF (eOp eIxF (eVar 0) (eOp eAddF (eOp eAddF (eVar 1) (eC (.int 1))) (eVar 2)))) (eC (.int 6)))))))
def F__law_things : FF := fnF 2 3 B__law_things
theorem ok__law_things (Z : Facts K mg) : Ok P w K mg base 1 "_law_things" 2 F__law_things :=
  ok_fn Z.h__law_things sc__law_things fun f cdv A outer s H E hr =>
    (dss_one (ds_ret (de_call1 g_tuple (de_lc rfl sc__law_things.nd (blkOk_by (own := [("k", 2)]) (by kernel_rfl)) (DI.c (di_range1 (by rfl) Z.m_range (de_mod (de_call1 g_int (de_ix (dv 0 rfl (.inr (.inl rfl))) (dv 1 rfl (.inr (.inl rfl)))) (fun ha => pe_callTy call_int1 (by rfl) Z.m_int rfl ha)) de_int))) (fun _ _ _ _ _ => (dg_name sc__law_things.nd rfl (.inl rfl))) (fun _ _ _ _ _ => dts_nil) (fun _ _ _ _ _ => (de_add de_int (de_mod (de_call1 g_int (de_ix (dv 0 rfl (.inr (.inl rfl))) (de_add (de_add (dv 1 rfl (.inr (.inl rfl))) de_int) (dv 2 rfl (.inl rfl)))) (fun ha => pe_callTy call_int1 (by rfl) Z.m_int rfl ha)) de_int)))) (fun ha => pe_callTy call_tupO (by rfl) Z.m_tuple rfl ha))))
def B__law_all_things : SF :=
    (sSeq (sAsg 1 (eLc (iRange1 (eOp eAddF (eC (.int 1)) (eOp iMod (eUn eIntF (eOp eIxF (eVar 0) (eC (.int 0)))) (eC (.int 6))))) (gNm 2) tYesF [2] (eCall F__law_things (aCons (eVar 0) (aCons (eOp eAddF (eC (.int 4)) (eOp eMulF (eC (.int 12)) (eVar 2))) aNil)))))
    (sSeq (sIf (tAndF (tBl (eOp iGt (eUn eLenF (eVar 1)) (eC (.int 1)))) (tBl (eOp eEqF (eOp iMod (eUn eIntF (eOp eIxF (eVar 0) (eC (.int 1)))) (eC (.int 4))) (eC (.int 0)))))
    (sSetI 1 (eC (.int 1)) (eOp eAddF (eOp eIxF (eVar 1) (eC (.int 0))) (eOp eIxF (eVar 1) (eC (.int 0)))))
    sNil)
    (sSeq (sIf (tAndF (tBl (eOp iGt (eUn eLenF (eVar 1)) (eC (.int 1)))) (tBl (eOp eEqF (eOp iMod (eUn eIntF (eOp eIxF (eVar 0) (eC (.int 1)))) (eC (.int 4))) (eC (.int 1)))))
    (sSeq (sAsg 3 (eOp iDiv (eUn eLenF (eOp eIxF (eVar 1) (eC (.int 0)))) (eC (.int 2))))
    (sSetI 1 (eC (.int 1)) (eOp eAddF (eSl (eOp eIxF (eVar 1) (eC (.int 0))) (oSome (eVar 3)) oNone) (eSl (eOp eIxF (eVar 1) (eC (.int 0))) oNone (oSome (eVar 3))))))
    sNil)
    (sRet (eVar 1)))))
def F__law_all_things : FF := fnF 1 4 B__law_all_things
theorem ok__law_all_things (Z : Facts K mg) : Ok P w K mg base 2 "_law_all_things" 1 F__law_all_things :=
  ok_fn Z.h__law_all_things sc__law_all_things fun f cdv A outer s H E hr =>
    (dss_cons (ds_setLc rfl sc__law_all_things.nd rfl rfl (sw_true rfl rfl rfl rfl) (blkOk_by (own := [("k", 2)]) (by kernel_rfl)) (DI.c (di_range1 (by rfl) Z.m_range (de_add de_int (de_mod (de_call1 g_int (de_ix (dv 0 rfl (.inr (.inl rfl))) de_int) (fun ha => pe_callTy call_int1 (by rfl) Z.m_int rfl ha)) de_int)))) (fun _ _ _ _ _ => (dg_name sc__law_all_things.nd rfl (.inl rfl))) (fun _ _ _ _ _ => dts_nil) (fun _ _ _ _ _ => (de_call (ok__law_things Z) hr (by decide) (by rfl) (da_cons (dv 0 rfl (.inr (.inl rfl))) (da_cons (de_add de_int (de_mul de_int (dv 2 rfl (.inl rfl)))) da_nil)) (aCons_len (aCons_len aNil_len)))))
    (dss_cons (ds_if (dt_w (dw_and (dt_cmp (op := .Gt) (o := iGt) icmp_g op_gt (de_call1 g_len (dv 1 rfl (.inl rfl)) (fun ha => pe_callB call_len (by rfl) Z.m_len rfl ha)) de_int) (dw_and1 (dt_cmp (op := .Eq) (o := eEqF) g_eq (op_eqD (hr.units)) (de_mod (de_call1 g_int (de_ix (dv 0 rfl (.inr (.inl rfl))) de_int) (fun ha => pe_callTy call_int1 (by rfl) Z.m_int rfl ha)) de_int) de_int))))
    (dss_one (ds_setI (ps_asg (de_add (de_ix (dv 1 rfl (.inl rfl)) de_int) (de_ix (dv 1 rfl (.inl rfl)) de_int)) (pg_sub (pv 1 rfl (.inl rfl)) de_int set_list))))
    dss_nil)
    (dss_cons (ds_if (dt_w (dw_and (dt_cmp (op := .Gt) (o := iGt) icmp_g op_gt (de_call1 g_len (dv 1 rfl (.inl rfl)) (fun ha => pe_callB call_len (by rfl) Z.m_len rfl ha)) de_int) (dw_and1 (dt_cmp (op := .Eq) (o := eEqF) g_eq (op_eqD (hr.units)) (de_mod (de_call1 g_int (de_ix (dv 0 rfl (.inr (.inl rfl))) de_int) (fun ha => pe_callTy call_int1 (by rfl) Z.m_int rfl ha)) de_int) de_int))))
    (dss_cons (ds_set sc__law_all_things.nd rfl (.inl rfl) (de_div (de_call1 g_len (de_ix (dv 1 rfl (.inl rfl)) de_int) (fun ha => pe_callB call_len (by rfl) Z.m_len rfl ha)) de_int))
    (dss_one (ds_setI (ps_asg (de_add (de_slice (de_ix (dv 1 rfl (.inl rfl)) de_int) (do_some (dv 3 rfl (.inl rfl))) do_none) (de_slice (de_ix (dv 1 rfl (.inl rfl)) de_int) do_none (do_some (dv 3 rfl (.inl rfl))))) (pg_sub (pv 1 rfl (.inl rfl)) de_int set_list)))))
    dss_nil)
    (dss_one (ds_ret (dv 1 rfl (.inl rfl)))))))
def B__law_bag : SF :=
    (sSeq (sAsg 3 (eLst aNil))
    (sSeq (sFor (iRange1 (eC (.int 6))) (gNm 4)
    (sIf (tBl (eOp iGt (eOp eIxF (eVar 0) (eVar 4)) (eC (.int 0))))
    (sAppend 3 (eTup (aCons (eOp eAddF (eOp eMulF (eVar 1) (eOp eAddF (eVar 4) (eC (.int 1)))) (eVar 2)) (aCons (eOp eIxF (eVar 0) (eVar 4)) aNil))))
    sNil))
    (sRet (eUn eTupleF (eVar 3)))))
def F__law_bag : FF := fnF 3 5 B__law_bag
theorem ok__law_bag (Z : Facts K mg) : Ok P w K mg base 1 "_law_bag" 3 F__law_bag :=
  ok_fn Z.h__law_bag sc__law_bag fun f cdv A outer s H E hr =>
    (dss_cons (ds_set sc__law_bag.nd rfl (.inl rfl) (de_lst da_nil))
    (dss_cons (ds_for PassesOwn.never rfl (di_range1 (by rfl) Z.m_range de_int) (dg_name sc__law_bag.nd rfl (.inl rfl))
    (dss_one (ds_if (dt_cmp (op := .Gt) (o := iGt) icmp_g op_gt (de_ix (dv 0 rfl (.inl rfl)) (dv 4 rfl (.inl rfl))) de_int)
    (dss_one (ds_append (pe_bm PySem.F.plainAttrs_list PySem.F.slot_list_append PySem.F.type_list_append mt_append (pv 3 rfl (.inl rfl)) (pa_cons (de_tup (da_cons (de_add (de_mul (dv 1 rfl (.inl rfl)) (de_add (dv 4 rfl (.inl rfl)) de_int)) (dv 2 rfl (.inl rfl))) (da_cons (de_ix (dv 0 rfl (.inl rfl)) (dv 4 rfl (.inl rfl))) da_nil))) pa_nil))))
    dss_nil)))
    (dss_one (ds_ret (de_call1 g_tuple (dv 3 rfl (.inl rfl)) (fun ha => pe_callTy call_tupO (by rfl) Z.m_tuple rfl ha))))))
def B__law_is_int : SF :=
    (sRet (eAnd (eUn (eIsF "int") (eVar 0)) (eUn eNotF (eUn (eIsF "bool") (eVar 0)))))
def F__law_is_int : FF := fnF 1 1 B__law_is_int
theorem ok__law_is_int (Z : Facts K mg) : Ok P w K mg base 1 "_law_is_int" 1 F__law_is_int :=
  ok_fn Z.h__law_is_int sc__law_is_int fun f cdv A outer s H E hr =>
    (dss_one (ds_ret (de_and (de_is (by decide) (by rfl) Z.m_isinstance (by rfl) Z.m_int rfl (by decide) (by decide) (dv 0 rfl (.inl rfl))) (de_one (de_not (de_is (by decide) (by rfl) Z.m_isinstance (by rfl) Z.m_bool rfl (by decide) (by decide) (dv 0 rfl (.inl rfl))))))))
def B__law_like (self : FF) : SF :=
    (sSeq (sIf (tBl (eUn eIsN (eVar 1)))
    (sRet (eUn eIsN (eVar 0)))
    sNil)
    (sSeq (sIf (tTru (eUn (eIsF "bool") (eVar 1)))
    (sRet (eAnd (eUn (eIsF "bool") (eVar 0)) (eOp eEqF (eVar 0) (eVar 1))))
    sNil)
    (sSeq (sIf (tTru (eUn (eIsF "tuple") (eVar 1)))
    (sSeq (sIf (tOrF (tNotF (tTru (eUn (eIsF "tuple") (eVar 0)))) (tBl (eOp eNeF (eUn eLenF (eVar 0)) (eUn eLenF (eVar 1)))))
    (sRet (eC (.bl false)))
    sNil)
    (sRet (eUn eAllF (eLc (iRange1 (eUn eLenF (eVar 1))) (gNm 2) tYesF [2] (eCall self (aCons (eOp eIxF (eVar 0) (eVar 2)) (aCons (eOp eIxF (eVar 1) (eVar 2)) aNil)))))))
    sNil)
    (sSeq (sIf (tTru (eUn (eIsF "str") (eVar 1)))
    (sRet (eAnd (eUn (eIsF "str") (eVar 0)) (eOp eEqF (eVar 0) (eVar 1))))
    sNil)
    (sRet (eAnd (eCall F__law_is_int (aCons (eVar 0) aNil)) (eOp eEqF (eVar 0) (eVar 1))))))))
def F__law_like : Nat → FF
  | 0 => fun _ => none
  | n + 1 => fnF 2 3 (B__law_like (F__law_like n))
theorem ok__law_like (Z : Facts K mg) : ∀ n, Ok P w K mg base (1 + n) "_law_like" 2 (F__law_like n)
  | 0 => ok_none Z.h__law_like
  | n + 1 => have oself := ok__law_like Z n
    ok_fn Z.h__law_like sc__law_like fun f cdv A outer s H E hr =>
    (dss_cons (ds_if (dt_isN (dv 1 rfl (.inr (.inl rfl))))
    (dss_one (ds_ret (de_isN (dv 0 rfl (.inr (.inl rfl))))))
    dss_nil)
    (dss_cons (ds_if (dt_tru (de_is (by decide) (by rfl) Z.m_isinstance (by rfl) Z.m_bool rfl (by decide) (by decide) (dv 1 rfl (.inr (.inl rfl)))))
    (dss_one (ds_ret (de_and (de_is (by decide) (by rfl) Z.m_isinstance (by rfl) Z.m_bool rfl (by decide) (by decide) (dv 0 rfl (.inr (.inl rfl)))) (de_one (de_cmp (op := .Eq) (o := eEqF) g_eq (op_eqD (hr.units)) (dv 0 rfl (.inr (.inl rfl))) (dv 1 rfl (.inr (.inl rfl))))))))
    dss_nil)
    (dss_cons (ds_if (dt_tru (de_is (by decide) (by rfl) Z.m_isinstance (by rfl) Z.m_tuple rfl (by decide) (by decide) (dv 1 rfl (.inr (.inl rfl)))))
    (dss_cons (ds_if (dt_w (dw_or (dt_not (dt_tru (de_is (by decide) (by rfl) Z.m_isinstance (by rfl) Z.m_tuple rfl (by decide) (by decide) (dv 0 rfl (.inr (.inl rfl)))))) (dw_or1 (dt_cmp (op := .NotEq) (o := eNeF) g_ne (op_neD (hr.units)) (de_call1 g_len (dv 0 rfl (.inr (.inl rfl))) (fun ha => pe_callB call_len (by rfl) Z.m_len rfl ha)) (de_call1 g_len (dv 1 rfl (.inr (.inl rfl))) (fun ha => pe_callB call_len (by rfl) Z.m_len rfl ha))))))
    (dss_one (ds_ret de_bl))
    dss_nil)
    (dss_one (ds_ret (de_call1 g_all (de_lc rfl sc__law_like.nd (blkOk_by (own := [("k", 2)]) (by kernel_rfl)) (DI.c (di_range1 (by rfl) Z.m_range (de_call1 g_len (dv 1 rfl (.inr (.inl rfl))) (fun ha => pe_callB call_len (by rfl) Z.m_len rfl ha)))) (fun _ _ _ _ _ => (dg_name sc__law_like.nd rfl (.inl rfl))) (fun _ _ _ _ _ => dts_nil) (fun _ _ _ _ _ => (de_call oself hr (Nat.le_refl _) (by rfl) (da_cons (de_ix (dv 0 rfl (.inr (.inl rfl))) (dv 2 rfl (.inl rfl))) (da_cons (de_ix (dv 1 rfl (.inr (.inl rfl))) (dv 2 rfl (.inl rfl))) da_nil)) (aCons_len (aCons_len aNil_len))))) (fun ha => pe_callB (cr_all rfl) (by rfl) Z.m_all rfl ha)))))
    dss_nil)
    (dss_cons (ds_if (dt_tru (de_is (by decide) (by rfl) Z.m_isinstance (by rfl) Z.m_str rfl (by decide) (by decide) (dv 1 rfl (.inr (.inl rfl)))))
    (dss_one (ds_ret (de_and (de_is (by decide) (by rfl) Z.m_isinstance (by rfl) Z.m_str rfl (by decide) (by decide) (dv 0 rfl (.inr (.inl rfl)))) (de_one (de_cmp (op := .Eq) (o := eEqF) g_eq (op_eqD (hr.units)) (dv 0 rfl (.inr (.inl rfl))) (dv 1 rfl (.inr (.inl rfl))))))))
    dss_nil)
    (dss_one (ds_ret (de_and (de_call (ok__law_is_int Z) hr (Nat.le_add_right_of_le (by decide)) (by rfl) (da_cons (dv 0 rfl (.inr (.inl rfl))) da_nil) (aCons_len aNil_len)) (de_one (de_cmp (op := .Eq) (o := eEqF) g_eq (op_eqD (hr.units)) (dv 0 rfl (.inr (.inl rfl))) (dv 1 rfl (.inr (.inl rfl))))))))))))
def B__law_dot : SF :=
    (sRet (eUn eSumF (eLc (iRange1 (eUn eLenF (eVar 0))) (gNm 2) tYesF [2] (eOp eMulF (eOp eIxF (eVar 0) (eVar 2)) (eOp eIxF (eVar 1) (eVar 2))))))
def F__law_dot : FF := fnF 2 3 B__law_dot
theorem ok__law_dot (Z : Facts K mg) : Ok P w K mg base 1 "_law_dot" 2 F__law_dot :=
  ok_fn Z.h__law_dot sc__law_dot fun f cdv A outer s H E hr =>
    (dss_one (ds_ret (de_call1 g_sum (de_lc rfl sc__law_dot.nd (blkOk_by (own := [("k", 2)]) (by kernel_rfl)) (DI.c (di_range1 (by rfl) Z.m_range (de_call1 g_len (dv 0 rfl (.inr (.inl rfl))) (fun ha => pe_callB call_len (by rfl) Z.m_len rfl ha)))) (fun _ _ _ _ _ => (dg_name sc__law_dot.nd rfl (.inl rfl))) (fun _ _ _ _ _ => dts_nil) (fun _ _ _ _ _ => (de_mul (de_ix (dv 0 rfl (.inr (.inl rfl))) (dv 2 rfl (.inl rfl))) (de_ix (dv 1 rfl (.inr (.inl rfl))) (dv 2 rfl (.inl rfl)))))) (fun ha => pe_callB (cr_sum rfl) (by rfl) Z.m_sum rfl ha))))
def B__law_like_of : SF :=
    (sSeq (sAsg 2 (eCall F__law_dot (aCons (eVar 0) (aCons (eVar 1) aNil))))
    (sSeq (sAsg 3 (eOp eMulF (eCall F__law_dot (aCons (eVar 0) (aCons (eVar 0) aNil))) (eCall F__law_dot (aCons (eVar 1) (aCons (eVar 1) aNil)))))
    (sSeq (sIf (tBl (eOp eEqF (eVar 3) (eC (.int 0))))
    (sRet (eTup (aCons (eC (.int 0)) (aCons (eC (.int 1)) aNil))))
    sNil)
    (sRet (eTup (aCons (eOp eMulF (eVar 2) (eVar 2)) (aCons (eVar 3) aNil)))))))
def F__law_like_of : FF := fnF 2 4 B__law_like_of
theorem ok__law_like_of (Z : Facts K mg) : Ok P w K mg base 2 "_law_like_of" 2 F__law_like_of :=
  ok_fn Z.h__law_like_of sc__law_like_of fun f cdv A outer s H E hr =>
    (dss_cons (ds_set sc__law_like_of.nd rfl (.inl rfl) (de_call (ok__law_dot Z) hr (by decide) (by rfl) (da_cons (dv 0 rfl (.inl rfl)) (da_cons (dv 1 rfl (.inl rfl)) da_nil)) (aCons_len (aCons_len aNil_len))))
    (dss_cons (ds_set sc__law_like_of.nd rfl (.inl rfl) (de_mul (de_call (ok__law_dot Z) hr (by decide) (by rfl) (da_cons (dv 0 rfl (.inl rfl)) (da_cons (dv 0 rfl (.inl rfl)) da_nil)) (aCons_len (aCons_len aNil_len))) (de_call (ok__law_dot Z) hr (by decide) (by rfl) (da_cons (dv 1 rfl (.inl rfl)) (da_cons (dv 1 rfl (.inl rfl)) da_nil)) (aCons_len (aCons_len aNil_len)))))
    (dss_cons (ds_if (dt_cmp (op := .Eq) (o := eEqF) g_eq (op_eqD (hr.units)) (dv 3 rfl (.inl rfl)) de_int)
    (dss_one (ds_ret (de_tup (da_cons de_int (da_cons de_int da_nil)))))
    dss_nil)
    (dss_one (ds_ret (de_tup (da_cons (de_mul (dv 2 rfl (.inl rfl)) (dv 2 rfl (.inl rfl))) (da_cons (dv 3 rfl (.inl rfl)) da_nil))))))))
def B__law_common : SF :=
    (sSeq (sPar 0 1 (aCons (eUn eAbsF (eVar 0)) (aCons (eUn eAbsF (eVar 1)) aNil)))
    (sSeq (sWhile (tBl (eOp iGt (eVar 1) (eC (.int 0))))
    (sPar 0 1 (aCons (eVar 1) (aCons (eOp iMod (eUn eIntF (eVar 0)) (eVar 1)) aNil))))
    (sRet (eVar 0))))
def F__law_common : FF := fnF 2 2 B__law_common
theorem ok__law_common (Z : Facts K mg) : Ok P w K mg base 1 "_law_common" 2 F__law_common :=
  ok_fn Z.h__law_common sc__law_common fun f cdv A outer s H E hr =>
    (dss_cons (ds_par rfl sc__law_common.nd rfl rfl (by decide) rfl rfl (da_cons (de_call1 g_abs (dv 0 rfl (.inl rfl)) (fun ha => pe_callB call_abs (by rfl) Z.m_abs rfl ha)) (da_cons (de_call1 g_abs (dv 1 rfl (.inl rfl)) (fun ha => pe_callB call_abs (by rfl) Z.m_abs rfl ha)) da_nil)) rfl)
    (dss_cons (ds_while PassesOwn.never (dt_cmp (op := .Gt) (o := iGt) icmp_g op_gt (dv 1 rfl (.inl rfl)) de_int)
    (dss_one (ds_par rfl sc__law_common.nd rfl rfl (by decide) rfl rfl (da_cons (dv 1 rfl (.inl rfl)) (da_cons (de_mod (de_call1 g_int (dv 0 rfl (.inl rfl)) (fun ha => pe_callTy call_int1 (by rfl) Z.m_int rfl ha)) (dv 1 rfl (.inl rfl))) da_nil)) rfl)))
    (dss_one (ds_ret (dv 0 rfl (.inl rfl))))))
def B__law_ratio : SF :=
    (sSeq (sAsg 2 (eCall F__law_common (aCons (eVar 0) (aCons (eVar 1) aNil))))
    (sSeq (sIf (tBl (eOp iLt (eVar 1) (eC (.int 0))))
    (sAsg 2 (eUn iNeg (eVar 2)))
    sNil)
    (sRet (eTup (aCons (eOp iDiv (eVar 0) (eVar 2)) (aCons (eOp iDiv (eVar 1) (eVar 2)) aNil))))))
def F__law_ratio : FF := fnF 2 3 B__law_ratio
theorem ok__law_ratio (Z : Facts K mg) : Ok P w K mg base 2 "_law_ratio" 2 F__law_ratio :=
  ok_fn Z.h__law_ratio sc__law_ratio fun f cdv A outer s H E hr =>
    (dss_cons (ds_set sc__law_ratio.nd rfl (.inl rfl) (de_call (ok__law_common Z) hr (by decide) (by rfl) (da_cons (dv 0 rfl (.inl rfl)) (da_cons (dv 1 rfl (.inl rfl)) da_nil)) (aCons_len (aCons_len aNil_len))))
    (dss_cons (ds_if (dt_cmp (op := .Lt) (o := iLt) icmp_g op_lt (dv 1 rfl (.inl rfl)) de_int)
    (dss_one (ds_set sc__law_ratio.nd rfl (.inl rfl) (de_neg (dv 2 rfl (.inl rfl)))))
    dss_nil)
    (dss_one (ds_ret (de_tup (da_cons (de_div (dv 0 rfl (.inl rfl)) (dv 2 rfl (.inl rfl))) (da_cons (de_div (dv 1 rfl (.inl rfl)) (dv 2 rfl (.inl rfl))) da_nil)))))))
def B_far : SF :=
    (sSeq (sAsg 3 (eLc (iZipF true (eVar 1) (eVar 2)) (gTp 2 (gsCons (gNm 4) (gsCons (gNm 5) gsNil))) tYesF [4, 5] (eOp iSub (eVar 4) (eVar 5))))
    (sSeq (sIf (tBl (eOp eEqF (eVar 0) (eC (.str "steps"))))
    (sRet (eUn eSumF (eLc (iSeqC (eVar 3)) (gNm 6) tYesF [6] (eUn eAbsF (eVar 6)))))
    sNil)
    (sSeq (sIf (tBl (eOp eEqF (eVar 0) (eC (.str "air"))))
    (sRet (eUn eSumF (eLc (iSeqC (eVar 3)) (gNm 6) tYesF [6] (eOp eMulF (eVar 6) (eVar 6)))))
    sNil)
    (sSeq (sIf (tBl (eOp eEqF (eVar 0) (eC (.str "widest"))))
    (sRet (eUn eMaxF (eLc (iSeqC (eVar 3)) (gNm 6) tYesF [6] (eUn eAbsF (eVar 6)))))
    sNil)
    (sSeq (sIf (tBl (eOp eEqF (eVar 0) (eC (.str "unlike"))))
    (sRet (eUn eLenF (eLc (iSeqC (eVar 3)) (gNm 6) (tBl (eOp eNeF (eVar 6) (eC (.int 0)))) [6] (eC (.int 1)))))
    sNil)
    (sSeq (sIf (tBl (eOp eEqF (eOp eIxF (eVar 0) (eC (.int 0))) (eC (.str "weights"))))
    (sRet (eUn eSumF (eLc (iZipF true (eOp eIxF (eVar 0) (eC (.int 1))) (eVar 3)) (gTp 2 (gsCons (gNm 7) (gsCons (gNm 6) gsNil))) tYesF [7, 6] (eOp eMulF (eVar 7) (eUn eAbsF (eVar 6))))))
    sNil)
    (sSeq (sAsg 8 (eOp eIxF (eVar 0) (eC (.int 1))))
    (sRet (eUn eSumF (eLc (iRange1 (eUn eLenF (eVar 3))) (gNm 9) tYesF [9] (eOp eMulF (eOp eIxF (eVar 3) (eVar 9)) (eUn eSumF (eLc (iZipF true (eOp eIxF (eVar 8) (eVar 9)) (eVar 3)) (gTp 2 (gsCons (gNm 10) (gsCons (gNm 6) gsNil))) tYesF [10, 6] (eOp eMulF (eVar 10) (eVar 6)))))))))))))))
def F_far : FF := fnF 3 11 B_far
theorem ok_far (Z : Facts K mg) : Ok P w K mg base 1 "far" 3 F_far :=
  ok_fn Z.h_far sc_far fun f cdv A outer s H E hr =>
    (dss_cons (ds_set sc_far.nd rfl (.inr rfl) (de_lc rfl sc_far.nd (blkOk_by (own := [("one", 4), ("other", 5)]) (by kernel_rfl)) (di_zipC (by rfl) Z.m_zip (dv 1 rfl (.inl rfl)) (dv 2 rfl (.inl rfl))) (fun _ _ _ _ _ => (dg_tup rfl (dgs_cons (dg_name sc_far.nd rfl (.inl rfl)) (dgs_cons (dg_name sc_far.nd rfl (.inl rfl)) dgs_nil)))) (fun _ _ _ _ _ => dts_nil) (fun _ _ _ _ _ => (de_sub (dv 4 rfl (.inl rfl)) (dv 5 rfl (.inl rfl))))))
    (dss_cons (ds_if (dt_cmp (op := .Eq) (o := eEqF) g_eq (op_eqD (hr.units)) (dv 0 rfl (.inl rfl)) de_str)
    (dss_one (ds_ret (de_call1 g_sum (de_lc rfl sc_far.nd (blkOk_by (own := [("step", 6)]) (by kernel_rfl)) (di_seqC (dv 3 rfl (.inr (.inl rfl)))) (fun _ _ _ _ _ => (dg_name sc_far.nd rfl (.inl rfl))) (fun _ _ _ _ _ => dts_nil) (fun _ _ _ _ _ => (de_call1 g_abs (dv 6 rfl (.inl rfl)) (fun ha => pe_callB call_abs (by rfl) Z.m_abs rfl ha)))) (fun ha => pe_callB (cr_sum rfl) (by rfl) Z.m_sum rfl ha))))
    dss_nil)
    (dss_cons (ds_if (dt_cmp (op := .Eq) (o := eEqF) g_eq (op_eqD (hr.units)) (dv 0 rfl (.inl rfl)) de_str)
    (dss_one (ds_ret (de_call1 g_sum (de_lc rfl sc_far.nd (blkOk_by (own := [("step", 6)]) (by kernel_rfl)) (di_seqC (dv 3 rfl (.inr (.inl rfl)))) (fun _ _ _ _ _ => (dg_name sc_far.nd rfl (.inl rfl))) (fun _ _ _ _ _ => dts_nil) (fun _ _ _ _ _ => (de_mul (dv 6 rfl (.inl rfl)) (dv 6 rfl (.inl rfl))))) (fun ha => pe_callB (cr_sum rfl) (by rfl) Z.m_sum rfl ha))))
    dss_nil)
    (dss_cons (ds_if (dt_cmp (op := .Eq) (o := eEqF) g_eq (op_eqD (hr.units)) (dv 0 rfl (.inl rfl)) de_str)
    (dss_one (ds_ret (de_call1 g_max (de_lc rfl sc_far.nd (blkOk_by (own := [("step", 6)]) (by kernel_rfl)) (di_seqC (dv 3 rfl (.inr (.inl rfl)))) (fun _ _ _ _ _ => (dg_name sc_far.nd rfl (.inl rfl))) (fun _ _ _ _ _ => dts_nil) (fun _ _ _ _ _ => (de_call1 g_abs (dv 6 rfl (.inl rfl)) (fun ha => pe_callB call_abs (by rfl) Z.m_abs rfl ha)))) (fun ha => pe_callB (cr_max rfl) (by rfl) Z.m_max rfl ha))))
    dss_nil)
    (dss_cons (ds_if (dt_cmp (op := .Eq) (o := eEqF) g_eq (op_eqD (hr.units)) (dv 0 rfl (.inl rfl)) de_str)
    (dss_one (ds_ret (de_call1 g_len (de_lc rfl sc_far.nd (blkOk_by (own := [("step", 6)]) (by kernel_rfl)) (di_seqC (dv 3 rfl (.inr (.inl rfl)))) (fun _ _ _ _ _ => (dg_name sc_far.nd rfl (.inl rfl))) (fun _ _ _ _ _ => (dts_one (dt_cmp (op := .NotEq) (o := eNeF) g_ne (op_neD (hr.units)) (dv 6 rfl (.inl rfl)) de_int))) (fun _ _ _ _ _ => de_int)) (fun ha => pe_callB call_len (by rfl) Z.m_len rfl ha))))
    dss_nil)
    (dss_cons (ds_if (dt_cmp (op := .Eq) (o := eEqF) g_eq (op_eqD (hr.units)) (de_ix (dv 0 rfl (.inl rfl)) de_int) de_str)
    (dss_one (ds_ret (de_call1 g_sum (de_lc rfl sc_far.nd (blkOk_by (own := [("weight", 7), ("step", 6)]) (by kernel_rfl)) (di_zipC (by rfl) Z.m_zip (de_ix (dv 0 rfl (.inl rfl)) de_int) (dv 3 rfl (.inr (.inl rfl)))) (fun _ _ _ _ _ => (dg_tup rfl (dgs_cons (dg_name sc_far.nd rfl (.inl rfl)) (dgs_cons (dg_name sc_far.nd rfl (.inl rfl)) dgs_nil)))) (fun _ _ _ _ _ => dts_nil) (fun _ _ _ _ _ => (de_mul (dv 7 rfl (.inl rfl)) (de_call1 g_abs (dv 6 rfl (.inl rfl)) (fun ha => pe_callB call_abs (by rfl) Z.m_abs rfl ha))))) (fun ha => pe_callB (cr_sum rfl) (by rfl) Z.m_sum rfl ha))))
    dss_nil)
    (dss_cons (ds_set sc_far.nd rfl (.inr rfl) (de_ix (dv 0 rfl (.inl rfl)) de_int))
    (dss_one (ds_ret (de_call1 g_sum (de_lc rfl sc_far.nd (blkOk_by (own := [("i", 9)]) (by kernel_rfl)) (DI.c (di_range1 (by rfl) Z.m_range (de_call1 g_len (dv 3 rfl (.inr (.inl rfl))) (fun ha => pe_callB call_len (by rfl) Z.m_len rfl ha)))) (fun _ _ _ _ _ => (dg_name sc_far.nd rfl (.inl rfl))) (fun _ _ _ _ _ => dts_nil) (fun _ _ _ _ _ => (de_mul (de_ix (dv 3 rfl (.inr (.inl rfl))) (dv 9 rfl (.inl rfl))) (de_call1 g_sum (de_lc rfl sc_far.nd (blkOk_by (own := [("part", 10), ("step", 6)]) (by kernel_rfl)) (di_zipC (by rfl) Z.m_zip (de_ix (dv 8 rfl (.inr (.inl rfl))) (dv 9 rfl (.inl rfl))) (dv 3 rfl (.inr (.inl rfl)))) (fun _ _ _ _ _ => (dg_tup rfl (dgs_cons (dg_name sc_far.nd rfl (.inl rfl)) (dgs_cons (dg_name sc_far.nd rfl (.inl rfl)) dgs_nil)))) (fun _ _ _ _ _ => dts_nil) (fun _ _ _ _ _ => (de_mul (dv 10 rfl (.inl rfl)) (dv 6 rfl (.inl rfl))))) (fun ha => pe_callB (cr_sum rfl) (by rfl) Z.m_sum rfl ha))))) (fun ha => pe_callB (cr_sum rfl) (by rfl) Z.m_sum rfl ha)))))))))))
def B__ratio : SF :=
    (sSeq (sAsg 2 (eOp eGcdF (eVar 0) (eVar 1)))
    (sRet (eTup (aCons (eOp iDiv (eVar 0) (eVar 2)) (aCons (eOp iDiv (eVar 1) (eVar 2)) aNil)))))
def F__ratio : FF := fnF 2 3 B__ratio
theorem ok__ratio (Z : Facts K mg) : Ok P w K mg base 1 "_ratio" 2 F__ratio :=
  ok_fn Z.h__ratio sc__ratio fun f cdv A outer s H E hr =>
    (dss_cons (ds_set sc__ratio.nd rfl (.inl rfl) (de_call2 g_gcd (dv 0 rfl (.inl rfl)) (dv 1 rfl (.inl rfl)) (fun ha => pe_callBfun cr_gcd (by rfl) Z.m_gcd ha)))
    (dss_one (ds_ret (de_tup (da_cons (de_div (dv 0 rfl (.inl rfl)) (dv 2 rfl (.inl rfl))) (da_cons (de_div (dv 1 rfl (.inl rfl)) (dv 2 rfl (.inl rfl))) da_nil))))))
def B__square : SF :=
    (sRet (eUn eSumF (eLc (iSeqC (eVar 0)) (gTp 2 (gsCons (gNm 1) (gsCons (gNm 2) gsNil))) tYesF [1, 2] (eOp eMulF (eVar 2) (eVar 2)))))
def F__square : FF := fnF 1 3 B__square
theorem ok__square (Z : Facts K mg) : Ok P w K mg base 1 "_square" 1 F__square :=
  ok_fn Z.h__square sc__square fun f cdv A outer s H E hr =>
    (dss_one (ds_ret (de_call1 g_sum (de_lc rfl sc__square.nd (blkOk_by (own := [("_", 1), ("count", 2)]) (by kernel_rfl)) (di_seqC (dv 0 rfl (.inl rfl))) (fun _ _ _ _ _ => (dg_tup rfl (dgs_cons (dg_name sc__square.nd rfl (.inl rfl)) (dgs_cons (dg_name sc__square.nd rfl (.inl rfl)) dgs_nil)))) (fun _ _ _ _ _ => dts_nil) (fun _ _ _ _ _ => (de_mul (dv 2 rfl (.inl rfl)) (dv 2 rfl (.inl rfl))))) (fun ha => pe_callB (cr_sum rfl) (by rfl) Z.m_sum rfl ha))))
def B_likeness : SF :=
    (sSeq (sIf (tOrF (tNotF (tTru (eVar 0))) (tNotF (tTru (eVar 1))))
    (sRet (eTup (aCons (eC (.int 0)) (aCons (eC (.int 1)) aNil))))
    sNil)
    (sSeq (sAsg 2 (eUn eDictF (eVar 1)))
    (sSeq (sAsg 3 (eUn eSumF (eLc (iSeqC (eVar 0)) (gTp 2 (gsCons (gNm 4) (gsCons (gNm 5) gsNil))) tYesF [4, 5] (eOp eMulF (eVar 5) (eDGet2 (eVar 2) (eVar 4) (eC (.int 0)))))))
    (sRet (eCall F__ratio (aCons (eOp eMulF (eVar 3) (eVar 3)) (aCons (eOp eMulF (eCall F__square (aCons (eVar 0) aNil)) (eCall F__square (aCons (eVar 1) aNil))) aNil)))))))
def F_likeness : FF := fnF 2 6 B_likeness
theorem ok_likeness (Z : Facts K mg) : Ok P w K mg base 2 "likeness" 2 F_likeness :=
  ok_fn Z.h_likeness sc_likeness fun f cdv A outer s H E hr =>
    (dss_cons (ds_if (dt_w (dw_or (dt_not (dt_tru (dv 0 rfl (.inl rfl)))) (dw_or1 (dt_not (dt_tru (dv 1 rfl (.inl rfl)))))))
    (dss_one (ds_ret (de_tup (da_cons de_int (da_cons de_int da_nil)))))
    dss_nil)
    (dss_cons (ds_set sc_likeness.nd rfl (.inr rfl) (de_call1 g_dict (dv 1 rfl (.inl rfl)) (fun ha => pe_callTy (call_dictD rfl) (by rfl) Z.m_dict rfl ha)))
    (dss_cons (ds_set sc_likeness.nd rfl (.inl rfl) (de_call1 g_sum (de_lc rfl sc_likeness.nd (blkOk_by (own := [("thing", 4), ("count", 5)]) (by kernel_rfl)) (di_seqC (dv 0 rfl (.inl rfl))) (fun _ _ _ _ _ => (dg_tup rfl (dgs_cons (dg_name sc_likeness.nd rfl (.inl rfl)) (dgs_cons (dg_name sc_likeness.nd rfl (.inl rfl)) dgs_nil)))) (fun _ _ _ _ _ => dts_nil) (fun _ _ _ _ _ => (de_mul (dv 5 rfl (.inl rfl)) (de_dget2 (hu1 hr) (dv 2 rfl (.inr (.inl rfl))) (dv 4 rfl (.inl rfl)) de_int)))) (fun ha => pe_callB (cr_sum rfl) (by rfl) Z.m_sum rfl ha)))
    (dss_one (ds_ret (de_call (ok__ratio Z) hr (by decide) (by rfl) (da_cons (de_mul (dv 3 rfl (.inl rfl)) (dv 3 rfl (.inl rfl))) (da_cons (de_mul (de_call (ok__square Z) hr (by decide) (by rfl) (da_cons (dv 0 rfl (.inl rfl)) da_nil) (aCons_len aNil_len)) (de_call (ok__square Z) hr (by decide) (by rfl) (da_cons (dv 1 rfl (.inl rfl)) da_nil) (aCons_len aNil_len))) da_nil)) (aCons_len (aCons_len aNil_len))))))))
def B__size : SF :=
    (sRet (eUn eSumF (eLc (iSeqC (eVar 0)) (gTp 2 (gsCons (gNm 1) (gsCons (gNm 2) gsNil))) tYesF [1, 2] (eVar 2))))
def F__size : FF := fnF 1 3 B__size
theorem ok__size (Z : Facts K mg) : Ok P w K mg base 1 "_size" 1 F__size :=
  ok_fn Z.h__size sc__size fun f cdv A outer s H E hr =>
    (dss_one (ds_ret (de_call1 g_sum (de_lc rfl sc__size.nd (blkOk_by (own := [("_", 1), ("count", 2)]) (by kernel_rfl)) (di_seqC (dv 0 rfl (.inl rfl))) (fun _ _ _ _ _ => (dg_tup rfl (dgs_cons (dg_name sc__size.nd rfl (.inl rfl)) (dgs_cons (dg_name sc__size.nd rfl (.inl rfl)) dgs_nil)))) (fun _ _ _ _ _ => dts_nil) (fun _ _ _ _ _ => (dv 2 rfl (.inl rfl)))) (fun ha => pe_callB (cr_sum rfl) (by rfl) Z.m_sum rfl ha))))
def B_shared_part : SF :=
    (sSeq (sAsg 2 (eUn eDictF (eVar 1)))
    (sSeq (sAsg 3 (eUn eSumF (eLc (iSeqC (eVar 0)) (gTp 2 (gsCons (gNm 4) (gsCons (gNm 5) gsNil))) tYesF [4, 5] (eOp eMin2F (eVar 5) (eDGet2 (eVar 2) (eVar 4) (eC (.int 0)))))))
    (sSeq (sAsg 6 (eOp iSub (eOp eAddF (eCall F__size (aCons (eVar 0) aNil)) (eCall F__size (aCons (eVar 1) aNil))) (eVar 3)))
    (sSeq (sIf (tBl (eOp eEqF (eVar 6) (eC (.int 0))))
    (sRet (eTup (aCons (eC (.int 1)) (aCons (eC (.int 1)) aNil))))
    sNil)
    (sRet (eCall F__ratio (aCons (eVar 3) (aCons (eVar 6) aNil))))))))
def F_shared_part : FF := fnF 2 7 B_shared_part
theorem ok_shared_part (Z : Facts K mg) : Ok P w K mg base 2 "shared_part" 2 F_shared_part :=
  ok_fn Z.h_shared_part sc_shared_part fun f cdv A outer s H E hr =>
    (dss_cons (ds_set sc_shared_part.nd rfl (.inr rfl) (de_call1 g_dict (dv 1 rfl (.inl rfl)) (fun ha => pe_callTy (call_dictD rfl) (by rfl) Z.m_dict rfl ha)))
    (dss_cons (ds_set sc_shared_part.nd rfl (.inl rfl) (de_call1 g_sum (de_lc rfl sc_shared_part.nd (blkOk_by (own := [("thing", 4), ("count", 5)]) (by kernel_rfl)) (di_seqC (dv 0 rfl (.inl rfl))) (fun _ _ _ _ _ => (dg_tup rfl (dgs_cons (dg_name sc_shared_part.nd rfl (.inl rfl)) (dgs_cons (dg_name sc_shared_part.nd rfl (.inl rfl)) dgs_nil)))) (fun _ _ _ _ _ => dts_nil) (fun _ _ _ _ _ => (de_call2 g_min2 (dv 5 rfl (.inl rfl)) (de_dget2 (hu1 hr) (dv 2 rfl (.inr (.inl rfl))) (dv 4 rfl (.inl rfl)) de_int) (fun ha => pe_callB (call_min2 rfl) (by rfl) Z.m_min rfl ha)))) (fun ha => pe_callB (cr_sum rfl) (by rfl) Z.m_sum rfl ha)))
    (dss_cons (ds_set sc_shared_part.nd rfl (.inl rfl) (de_sub (de_add (de_call (ok__size Z) hr (by decide) (by rfl) (da_cons (dv 0 rfl (.inl rfl)) da_nil) (aCons_len aNil_len)) (de_call (ok__size Z) hr (by decide) (by rfl) (da_cons (dv 1 rfl (.inl rfl)) da_nil) (aCons_len aNil_len))) (dv 3 rfl (.inl rfl))))
    (dss_cons (ds_if (dt_cmp (op := .Eq) (o := eEqF) g_eq (op_eqD (hr.units)) (dv 6 rfl (.inl rfl)) de_int)
    (dss_one (ds_ret (de_tup (da_cons de_int (da_cons de_int da_nil)))))
    dss_nil)
    (dss_one (ds_ret (de_call (ok__ratio Z) hr (by decide) (by rfl) (da_cons (dv 3 rfl (.inl rfl)) (da_cons (dv 6 rfl (.inl rfl)) da_nil)) (aCons_len (aCons_len aNil_len)))))))))
def B_value_of_rows : SF :=
    (sSeq (sAsg 1 (eLc (iSeqC (eVar 0)) (gNm 2) tYesF [2] (eUn eListF (eVar 2))))
    (sSeq (sAsgT (gTp 2 (gsCons (gNm 3) (gsCons (gNm 4) gsNil))) (eTup (aCons (eC (.int 1)) (aCons (eC (.int 1)) aNil))))
    (sSeq (sFor (iRange1 (eUn eLenF (eVar 1))) (gNm 5)
    (sSeq (sAsg 6 (eLc (iRange2 (eVar 5) (eUn eLenF (eVar 1))) (gNm 7) (tBl (eOp eNeF (eOp eIxF (eOp eIxF (eVar 1) (eVar 7)) (eVar 5)) (eC (.int 0)))) [7] (eVar 7)))
    (sSeq (sIf (tNotF (tTru (eVar 6)))
    (sRet (eC (.int 0)))
    sNil)
    (sSeq (sIf (tBl (eOp eNeF (eOp eIxF (eVar 6) (eC (.int 0))) (eVar 5)))
    sNever
    sNil)
    (sSeq (sFor (iRange2 (eOp eAddF (eVar 5) (eC (.int 1))) (eUn eLenF (eVar 1))) (gNm 7)
    (sFor (iRange2 (eOp eAddF (eVar 5) (eC (.int 1))) (eUn eLenF (eVar 1))) (gNm 8)
    (sSeq (sAsg 9 (eOp iSub (eOp eMulF (eOp eIxF (eOp eIxF (eVar 1) (eVar 7)) (eVar 8)) (eOp eIxF (eOp eIxF (eVar 1) (eVar 5)) (eVar 5))) (eOp eMulF (eOp eIxF (eOp eIxF (eVar 1) (eVar 7)) (eVar 5)) (eOp eIxF (eOp eIxF (eVar 1) (eVar 5)) (eVar 8)))))
    (sSet2 1 (eVar 7) (eVar 8) (eOp iDiv (eVar 9) (eVar 4))))))
    (sAsg 4 (eOp eIxF (eOp eIxF (eVar 1) (eVar 5)) (eVar 5))))))))
    (sRet (eOp eMulF (eVar 3) (eVar 4))))))
def F_value_of_rows : FF := fnF 1 10 B_value_of_rows
theorem ok_value_of_rows (Z : Facts K mg) : Ok P w K mg base 1 "value_of_rows" 1 F_value_of_rows :=
  ok_fn Z.h_value_of_rows sc_value_of_rows fun f cdv A outer s H E hr =>
    (dss_cons (ds_set sc_value_of_rows.nd rfl (.inr rfl) (de_lc rfl sc_value_of_rows.nd (blkOk_by (own := [("row", 2)]) (by kernel_rfl)) (di_seqC (dv 0 rfl (.inl rfl))) (fun _ _ _ _ _ => (dg_name sc_value_of_rows.nd rfl (.inl rfl))) (fun _ _ _ _ _ => dts_nil) (fun _ _ _ _ _ => (de_call1 g_list (dv 2 rfl (.inl rfl)) (fun ha => pe_callTy call_list_of (by rfl) Z.m_list rfl ha)))))
    (dss_cons (ds_asgT (de_tup (da_cons de_int (da_cons de_int da_nil))) (dg_tup rfl (dgs_cons (dg_name sc_value_of_rows.nd rfl (.inl rfl)) (dgs_cons (dg_name sc_value_of_rows.nd rfl (.inl rfl)) dgs_nil))))
    (dss_cons (ds_for PassesOwn.never rfl (di_range1 (by rfl) Z.m_range (de_call1 g_len (dv 1 rfl (.inr (.inl rfl))) (fun ha => pe_callB call_len (by rfl) Z.m_len rfl ha))) (dg_name sc_value_of_rows.nd rfl (.inr rfl))
    (dss_cons (ds_setLc rfl sc_value_of_rows.nd rfl rfl (sw_true rfl rfl rfl rfl) (blkOk_by (own := [("index", 7)]) (by kernel_rfl)) (DI.c (di_range2 (by rfl) Z.m_range (dv 5 rfl (.inr (.inl rfl))) (de_call1 g_len (dv 1 rfl (.inr (.inl rfl))) (fun ha => pe_callB call_len (by rfl) Z.m_len rfl ha)))) (fun _ _ _ _ _ => (dg_name sc_value_of_rows.nd rfl (.inl rfl))) (fun _ _ _ _ _ => (dts_one (dt_cmp (op := .NotEq) (o := eNeF) g_ne (op_neD (hr.units)) (de_ix (de_ix (dv 1 rfl (.inr (.inl rfl))) (dv 7 rfl (.inl rfl))) (dv 5 rfl (.inr (.inl rfl)))) de_int))) (fun _ _ _ _ _ => (dv 7 rfl (.inl rfl))))
    (dss_cons (ds_if (dt_not (dt_tru (dv 6 rfl (.inl rfl))))
    (dss_one (ds_ret de_int))
    dss_nil)
    (dss_cons (ds_if (dt_cmp (op := .NotEq) (o := eNeF) g_ne (op_neD (hr.units)) (de_ix (dv 6 rfl (.inl rfl)) de_int) (dv 5 rfl (.inr (.inl rfl))))
    dss_never
    dss_nil)
    (dss_cons (ds_for PassesOwn.never rfl (di_range2 (by rfl) Z.m_range (de_add (dv 5 rfl (.inr (.inl rfl))) de_int) (de_call1 g_len (dv 1 rfl (.inr (.inl rfl))) (fun ha => pe_callB call_len (by rfl) Z.m_len rfl ha))) (dg_name sc_value_of_rows.nd rfl (.inl rfl))
    (dss_one (ds_for PassesOwn.never rfl (di_range2 (by rfl) Z.m_range (de_add (dv 5 rfl (.inr (.inl rfl))) de_int) (de_call1 g_len (dv 1 rfl (.inr (.inl rfl))) (fun ha => pe_callB call_len (by rfl) Z.m_len rfl ha))) (dg_name sc_value_of_rows.nd rfl (.inl rfl))
    (dss_cons (ds_set sc_value_of_rows.nd rfl (.inl rfl) (de_sub (de_mul (de_ix (de_ix (dv 1 rfl (.inr (.inl rfl))) (dv 7 rfl (.inl rfl))) (dv 8 rfl (.inl rfl))) (de_ix (de_ix (dv 1 rfl (.inr (.inl rfl))) (dv 5 rfl (.inr (.inl rfl)))) (dv 5 rfl (.inr (.inl rfl))))) (de_mul (de_ix (de_ix (dv 1 rfl (.inr (.inl rfl))) (dv 7 rfl (.inl rfl))) (dv 5 rfl (.inr (.inl rfl)))) (de_ix (de_ix (dv 1 rfl (.inr (.inl rfl))) (dv 5 rfl (.inr (.inl rfl)))) (dv 8 rfl (.inl rfl))))))
    (dss_one (ds_set2 (ps_asg (de_div (dv 9 rfl (.inl rfl)) (dv 4 rfl (.inl rfl))) (pg_sub (pe_ix ix_seq (pv 1 rfl (.inr (.inl rfl))) (dv 7 rfl (.inl rfl)) (fun _ _ => rfl)) (dv 8 rfl (.inl rfl)) set_list))))))))
    (dss_one (ds_set sc_value_of_rows.nd rfl (.inl rfl) (de_ix (de_ix (dv 1 rfl (.inr (.inl rfl))) (dv 5 rfl (.inr (.inl rfl)))) (dv 5 rfl (.inr (.inl rfl)))))))))))
    (dss_one (ds_ret (de_mul (dv 3 rfl (.inl rfl)) (dv 4 rfl (.inl rfl))))))))
def B_span_volume : SF :=
    (sRet (eCall F_value_of_rows (aCons (eLc (iSeqC (eVar 0)) (gNm 1) tYesF [1] (eLc (iSeqC (eVar 0)) (gNm 2) tYesF [2] (eUn eSumF (eLc (iZipF true (eVar 1) (eVar 2)) (gTp 2 (gsCons (gNm 3) (gsCons (gNm 4) gsNil))) tYesF [3, 4] (eOp eMulF (eVar 3) (eVar 4)))))) aNil)))
def F_span_volume : FF := fnF 1 5 B_span_volume
theorem ok_span_volume (Z : Facts K mg) : Ok P w K mg base 2 "span_volume" 1 F_span_volume :=
  ok_fn Z.h_span_volume sc_span_volume fun f cdv A outer s H E hr =>
    (dss_one (ds_ret (de_call (ok_value_of_rows Z) hr (by decide) (by rfl) (da_cons (de_lc rfl sc_span_volume.nd (blkOk_by (own := [("u", 1)]) (by kernel_rfl)) (di_seqC (dv 0 rfl (.inr (.inl rfl)))) (fun _ _ _ _ _ => (dg_name sc_span_volume.nd rfl (.inr rfl))) (fun _ _ _ _ _ => dts_nil) (fun _ _ _ _ _ => (de_lc rfl sc_span_volume.nd (blkOk_by (own := [("v", 2)]) (by kernel_rfl)) (di_seqC (dv 0 rfl (.inr (.inl rfl)))) (fun _ _ _ _ _ => (dg_name sc_span_volume.nd rfl (.inl rfl))) (fun _ _ _ _ _ => dts_nil) (fun _ _ _ _ _ => (de_call1 g_sum (de_lc rfl sc_span_volume.nd (blkOk_by (own := [("one", 3), ("other", 4)]) (by kernel_rfl)) (di_zipC (by rfl) Z.m_zip (dv 1 rfl (.inr (.inl rfl))) (dv 2 rfl (.inl rfl))) (fun _ _ _ _ _ => (dg_tup rfl (dgs_cons (dg_name sc_span_volume.nd rfl (.inl rfl)) (dgs_cons (dg_name sc_span_volume.nd rfl (.inl rfl)) dgs_nil)))) (fun _ _ _ _ _ => dts_nil) (fun _ _ _ _ _ => (de_mul (dv 3 rfl (.inl rfl)) (dv 4 rfl (.inl rfl))))) (fun ha => pe_callB (cr_sum rfl) (by rfl) Z.m_sum rfl ha)))))) da_nil) (aCons_len aNil_len))))
def B__law_pair_right : SF :=
    (sSeq (sAsgT (gTp 2 (gsCons (gNm 4) (gsCons (gNm 5) gsNil))) (eCall F__law_like_of (aCons (eVar 0) (aCons (eVar 1) aNil))))
    (sSeq (sIf (tNotF (tTru (eCall (F__law_like 6) (aCons (eCall F_likeness (aCons (eVar 2) (aCons (eVar 3) aNil))) (aCons (eCall F__law_ratio (aCons (eVar 4) (aCons (eVar 5) aNil))) aNil)))))
    (sRet (eC (.bl false)))
    sNil)
    (sSeq (sIf (tNotF (tTru (eCall (F__law_like 6) (aCons (eCall F_likeness (aCons (eVar 3) (aCons (eVar 2) aNil))) (aCons (eCall F__law_ratio (aCons (eVar 4) (aCons (eVar 5) aNil))) aNil)))))
    (sRet (eC (.bl false)))
    sNil)
    (sSeq (sAsg 6 (eUn eSumF (eLc (iRange1 (eC (.int 6))) (gNm 7) tYesF [7] (eOp eMin2F (eOp eIxF (eVar 0) (eVar 7)) (eOp eIxF (eVar 1) (eVar 7))))))
    (sSeq (sAsg 8 (eUn eSumF (eLc (iRange1 (eC (.int 6))) (gNm 7) tYesF [7] (eOp eMax2F (eOp eIxF (eVar 0) (eVar 7)) (eOp eIxF (eVar 1) (eVar 7))))))
    (sSeq (sAsg 9 (eTup (aCons (eC (.int 1)) (aCons (eC (.int 1)) aNil))))
    (sSeq (sIf (tBl (eOp iGt (eVar 8) (eC (.int 0))))
    (sAsg 9 (eCall F__law_ratio (aCons (eVar 6) (aCons (eVar 8) aNil))))
    sNil)
    (sSeq (sIf (tOrF (tNotF (tTru (eCall (F__law_like 6) (aCons (eCall F_shared_part (aCons (eVar 2) (aCons (eVar 3) aNil))) (aCons (eVar 9) aNil))))) (tNotF (tTru (eCall (F__law_like 6) (aCons (eCall F_shared_part (aCons (eVar 3) (aCons (eVar 2) aNil))) (aCons (eVar 9) aNil))))))
    (sRet (eC (.bl false)))
    sNil)
    (sSeq (sIf (tNotF (tTru (eCall (F__law_like 6) (aCons (eCall F_far (aCons (eC (.str "steps")) (aCons (eVar 0) (aCons (eVar 1) aNil)))) (aCons (eOp iSub (eVar 8) (eVar 6)) aNil)))))
    (sRet (eC (.bl false)))
    sNil)
    (sSeq (sAsg 10 (eOp iSub (eOp eMulF (eCall F__law_dot (aCons (eVar 0) (aCons (eVar 0) aNil))) (eCall F__law_dot (aCons (eVar 1) (aCons (eVar 1) aNil)))) (eOp eMulF (eCall F__law_dot (aCons (eVar 0) (aCons (eVar 1) aNil))) (eCall F__law_dot (aCons (eVar 0) (aCons (eVar 1) aNil))))))
    (sRet (eCall (F__law_like 6) (aCons (eCall F_span_volume (aCons (eTup (aCons (eVar 0) (aCons (eVar 1) aNil))) aNil)) (aCons (eVar 10) aNil))))))))))))))
def F__law_pair_right : FF := fnF 4 11 B__law_pair_right
theorem ok__law_pair_right (Z : Facts K mg) : Ok P w K mg base 8 "_law_pair_right" 4 F__law_pair_right :=
  ok_fn Z.h__law_pair_right sc__law_pair_right fun f cdv A outer s H E hr =>
    (dss_cons (ds_asgT (de_call (ok__law_like_of Z) hr (by decide) (by rfl) (da_cons (dv 0 rfl (.inr (.inl rfl))) (da_cons (dv 1 rfl (.inr (.inl rfl))) da_nil)) (aCons_len (aCons_len aNil_len))) (dg_tup rfl (dgs_cons (dg_name sc__law_pair_right.nd rfl (.inl rfl)) (dgs_cons (dg_name sc__law_pair_right.nd rfl (.inl rfl)) dgs_nil))))
    (dss_cons (ds_if (dt_not (dt_tru (de_call (ok__law_like Z 6) hr (by decide) (by rfl) (da_cons (de_call (ok_likeness Z) hr (by decide) (by rfl) (da_cons (dv 2 rfl (.inl rfl)) (da_cons (dv 3 rfl (.inl rfl)) da_nil)) (aCons_len (aCons_len aNil_len))) (da_cons (de_call (ok__law_ratio Z) hr (by decide) (by rfl) (da_cons (dv 4 rfl (.inl rfl)) (da_cons (dv 5 rfl (.inl rfl)) da_nil)) (aCons_len (aCons_len aNil_len))) da_nil)) (aCons_len (aCons_len aNil_len)))))
    (dss_one (ds_ret de_bl))
    dss_nil)
    (dss_cons (ds_if (dt_not (dt_tru (de_call (ok__law_like Z 6) hr (by decide) (by rfl) (da_cons (de_call (ok_likeness Z) hr (by decide) (by rfl) (da_cons (dv 3 rfl (.inl rfl)) (da_cons (dv 2 rfl (.inl rfl)) da_nil)) (aCons_len (aCons_len aNil_len))) (da_cons (de_call (ok__law_ratio Z) hr (by decide) (by rfl) (da_cons (dv 4 rfl (.inl rfl)) (da_cons (dv 5 rfl (.inl rfl)) da_nil)) (aCons_len (aCons_len aNil_len))) da_nil)) (aCons_len (aCons_len aNil_len)))))
    (dss_one (ds_ret de_bl))
    dss_nil)
    (dss_cons (ds_set sc__law_pair_right.nd rfl (.inl rfl) (de_call1 g_sum (de_lc rfl sc__law_pair_right.nd (blkOk_by (own := [("k", 7)]) (by kernel_rfl)) (DI.c (di_range1 (by rfl) Z.m_range de_int)) (fun _ _ _ _ _ => (dg_name sc__law_pair_right.nd rfl (.inl rfl))) (fun _ _ _ _ _ => dts_nil) (fun _ _ _ _ _ => (de_call2 g_min2 (de_ix (dv 0 rfl (.inr (.inl rfl))) (dv 7 rfl (.inl rfl))) (de_ix (dv 1 rfl (.inr (.inl rfl))) (dv 7 rfl (.inl rfl))) (fun ha => pe_callB (call_min2 rfl) (by rfl) Z.m_min rfl ha)))) (fun ha => pe_callB (cr_sum rfl) (by rfl) Z.m_sum rfl ha)))
    (dss_cons (ds_set sc__law_pair_right.nd rfl (.inl rfl) (de_call1 g_sum (de_lc rfl sc__law_pair_right.nd (blkOk_by (own := [("k", 7)]) (by kernel_rfl)) (DI.c (di_range1 (by rfl) Z.m_range de_int)) (fun _ _ _ _ _ => (dg_name sc__law_pair_right.nd rfl (.inl rfl))) (fun _ _ _ _ _ => dts_nil) (fun _ _ _ _ _ => (de_call2 g_max2 (de_ix (dv 0 rfl (.inr (.inl rfl))) (dv 7 rfl (.inl rfl))) (de_ix (dv 1 rfl (.inr (.inl rfl))) (dv 7 rfl (.inl rfl))) (fun ha => pe_callB (call_max2 rfl) (by rfl) Z.m_max rfl ha)))) (fun ha => pe_callB (cr_sum rfl) (by rfl) Z.m_sum rfl ha)))
    (dss_cons (ds_set sc__law_pair_right.nd rfl (.inl rfl) (de_tup (da_cons de_int (da_cons de_int da_nil))))
    (dss_cons (ds_if (dt_cmp (op := .Gt) (o := iGt) icmp_g op_gt (dv 8 rfl (.inl rfl)) de_int)
    (dss_one (ds_set sc__law_pair_right.nd rfl (.inl rfl) (de_call (ok__law_ratio Z) hr (by decide) (by rfl) (da_cons (dv 6 rfl (.inl rfl)) (da_cons (dv 8 rfl (.inl rfl)) da_nil)) (aCons_len (aCons_len aNil_len)))))
    dss_nil)
    (dss_cons (ds_if (dt_w (dw_or (dt_not (dt_tru (de_call (ok__law_like Z 6) hr (by decide) (by rfl) (da_cons (de_call (ok_shared_part Z) hr (by decide) (by rfl) (da_cons (dv 2 rfl (.inl rfl)) (da_cons (dv 3 rfl (.inl rfl)) da_nil)) (aCons_len (aCons_len aNil_len))) (da_cons (dv 9 rfl (.inl rfl)) da_nil)) (aCons_len (aCons_len aNil_len))))) (dw_or1 (dt_not (dt_tru (de_call (ok__law_like Z 6) hr (by decide) (by rfl) (da_cons (de_call (ok_shared_part Z) hr (by decide) (by rfl) (da_cons (dv 3 rfl (.inl rfl)) (da_cons (dv 2 rfl (.inl rfl)) da_nil)) (aCons_len (aCons_len aNil_len))) (da_cons (dv 9 rfl (.inl rfl)) da_nil)) (aCons_len (aCons_len aNil_len))))))))
    (dss_one (ds_ret de_bl))
    dss_nil)
    (dss_cons (ds_if (dt_not (dt_tru (de_call (ok__law_like Z 6) hr (by decide) (by rfl) (da_cons (de_call (ok_far Z) hr (by decide) (by rfl) (da_cons de_str (da_cons (dv 0 rfl (.inr (.inl rfl))) (da_cons (dv 1 rfl (.inr (.inl rfl))) da_nil))) (aCons_len (aCons_len (aCons_len aNil_len)))) (da_cons (de_sub (dv 8 rfl (.inl rfl)) (dv 6 rfl (.inl rfl))) da_nil)) (aCons_len (aCons_len aNil_len)))))
    (dss_one (ds_ret de_bl))
    dss_nil)
    (dss_cons (ds_set sc__law_pair_right.nd rfl (.inl rfl) (de_sub (de_mul (de_call (ok__law_dot Z) hr (by decide) (by rfl) (da_cons (dv 0 rfl (.inr (.inl rfl))) (da_cons (dv 0 rfl (.inr (.inl rfl))) da_nil)) (aCons_len (aCons_len aNil_len))) (de_call (ok__law_dot Z) hr (by decide) (by rfl) (da_cons (dv 1 rfl (.inr (.inl rfl))) (da_cons (dv 1 rfl (.inr (.inl rfl))) da_nil)) (aCons_len (aCons_len aNil_len)))) (de_mul (de_call (ok__law_dot Z) hr (by decide) (by rfl) (da_cons (dv 0 rfl (.inr (.inl rfl))) (da_cons (dv 1 rfl (.inr (.inl rfl))) da_nil)) (aCons_len (aCons_len aNil_len))) (de_call (ok__law_dot Z) hr (by decide) (by rfl) (da_cons (dv 0 rfl (.inr (.inl rfl))) (da_cons (dv 1 rfl (.inr (.inl rfl))) da_nil)) (aCons_len (aCons_len aNil_len))))))
    (dss_one (ds_ret (de_call (ok__law_like Z 6) hr (by decide) (by rfl) (da_cons (de_call (ok_span_volume Z) hr (by decide) (by rfl) (da_cons (de_tup (da_cons (dv 0 rfl (.inr (.inl rfl))) (da_cons (dv 1 rfl (.inr (.inl rfl))) da_nil))) da_nil) (aCons_len aNil_len)) (da_cons (dv 10 rfl (.inl rfl)) da_nil)) (aCons_len (aCons_len aNil_len)))))))))))))))
def B__law_ranked : SF :=
    (sSeq (sAsg 2 (eLc (iSeqC (eVar 0)) (gNm 3) tYesF [3] (eCall F__law_like_of (aCons (eVar 3) (aCons (eVar 1) aNil)))))
    (sSeq (sAsg 4 (eLst aNil))
    (sSeq (sFor (iRange1 (eUn eLenF (eVar 0))) (gNm 5)
    (sSeq (sAsg 6 (eC (.int 0)))
    (sSeq (sWhile (tAndF (tBl (eOp iLt (eVar 6) (eUn eLenF (eVar 4)))) (tBl (eOp iGe (eOp eMulF (eOp eIxF (eOp eIxF (eVar 2) (eOp eIxF (eVar 4) (eVar 6))) (eC (.int 0))) (eOp eIxF (eOp eIxF (eVar 2) (eVar 5)) (eC (.int 1)))) (eOp eMulF (eOp eIxF (eOp eIxF (eVar 2) (eVar 5)) (eC (.int 0))) (eOp eIxF (eOp eIxF (eVar 2) (eOp eIxF (eVar 4) (eVar 6))) (eC (.int 1)))))))
    (sAsg 6 (eOp eAddF (eVar 6) (eC (.int 1)))))
    (sAsg 4 (eOp eAddF (eOp eAddF (eSl (eVar 4) oNone (oSome (eVar 6))) (eLst (aCons (eVar 5) aNil))) (eSl (eVar 4) (oSome (eVar 6)) oNone))))))
    (sRet (eVar 4)))))
def F__law_ranked : FF := fnF 2 7 B__law_ranked
theorem ok__law_ranked (Z : Facts K mg) : Ok P w K mg base 3 "_law_ranked" 2 F__law_ranked :=
  ok_fn Z.h__law_ranked sc__law_ranked fun f cdv A outer s H E hr =>
    (dss_cons (ds_setLc rfl sc__law_ranked.nd rfl rfl (sw_true rfl rfl rfl rfl) (blkOk_by (own := [("one", 3)]) (by kernel_rfl)) (di_seqC (dv 0 rfl (.inl rfl))) (fun _ _ _ _ _ => (dg_name sc__law_ranked.nd rfl (.inl rfl))) (fun _ _ _ _ _ => dts_nil) (fun _ _ _ _ _ => (de_call (ok__law_like_of Z) hr (by decide) (by rfl) (da_cons (dv 3 rfl (.inl rfl)) (da_cons (dv 1 rfl (.inr (.inl rfl))) da_nil)) (aCons_len (aCons_len aNil_len)))))
    (dss_cons (ds_set sc__law_ranked.nd rfl (.inl rfl) (de_lst da_nil))
    (dss_cons (ds_for PassesOwn.never rfl (di_range1 (by rfl) Z.m_range (de_call1 g_len (dv 0 rfl (.inl rfl)) (fun ha => pe_callB call_len (by rfl) Z.m_len rfl ha))) (dg_name sc__law_ranked.nd rfl (.inl rfl))
    (dss_cons (ds_set sc__law_ranked.nd rfl (.inl rfl) de_int)
    (dss_cons (ds_while PassesOwn.never (dt_w (dw_and (dt_cmp (op := .Lt) (o := iLt) icmp_g op_lt (dv 6 rfl (.inl rfl)) (de_call1 g_len (dv 4 rfl (.inl rfl)) (fun ha => pe_callB call_len (by rfl) Z.m_len rfl ha))) (dw_and1 (dt_cmp (op := .GtE) (o := iGe) icmp_g op_ge (de_mul (de_ix (de_ix (dv 2 rfl (.inl rfl)) (de_ix (dv 4 rfl (.inl rfl)) (dv 6 rfl (.inl rfl)))) de_int) (de_ix (de_ix (dv 2 rfl (.inl rfl)) (dv 5 rfl (.inl rfl))) de_int)) (de_mul (de_ix (de_ix (dv 2 rfl (.inl rfl)) (dv 5 rfl (.inl rfl))) de_int) (de_ix (de_ix (dv 2 rfl (.inl rfl)) (de_ix (dv 4 rfl (.inl rfl)) (dv 6 rfl (.inl rfl)))) de_int))))))
    (dss_one (ds_set sc__law_ranked.nd rfl (.inl rfl) (de_add (dv 6 rfl (.inl rfl)) de_int))))
    (dss_one (ds_set sc__law_ranked.nd rfl (.inl rfl) (de_add (de_add (de_slice (dv 4 rfl (.inl rfl)) do_none (do_some (dv 6 rfl (.inl rfl)))) (de_lst (da_cons (dv 5 rfl (.inl rfl)) da_nil))) (de_slice (dv 4 rfl (.inl rfl)) (do_some (dv 6 rfl (.inl rfl))) do_none)))))))
    (dss_one (ds_ret (dv 4 rfl (.inl rfl)))))))
def B__law_mixed : SF :=
    (sSeq (sAsg 2 (eC (.int 0)))
    (sSeq (sIf (tBl (eOp iGt (eUn eLenF (eVar 0)) (eC (.int 0))))
    (sAsg 2 (eOp eIxF (eVar 0) (eOp iMod (eVar 1) (eUn eLenF (eVar 0)))))
    sNil)
    (sSeq (sAsg 3 (eOp iMod (eUn eIntF (eOp eAddF (eOp eAddF (eOp eMulF (eVar 2) (eC (.int 48271))) (eOp eMulF (eVar 1) (eC (.int 69621)))) (eC (.int 8191)))) (eC (.int 2147483647))))
    (sSeq (sAsg 4 (eOp iMod (eUn eIntF (eOp eAddF (eOp eAddF (eOp eMulF (eVar 3) (eVar 3)) (eOp iDiv (eVar 3) (eC (.int 7)))) (eOp eMulF (eVar 1) (eC (.int 16807))))) (eC (.int 2147483629))))
    (sSeq (sAsg 5 (eOp iMod (eUn eIntF (eOp eAddF (eOp eAddF (eOp eMulF (eVar 4) (eVar 4)) (eOp iDiv (eVar 4) (eC (.int 11)))) (eC (.int 40692)))) (eC (.int 2147483563))))
    (sRet (eOp iMod (eOp iDiv (eVar 5) (eC (.int 5))) (eC (.int 1000003)))))))))
def F__law_mixed : FF := fnF 2 6 B__law_mixed
theorem ok__law_mixed (Z : Facts K mg) : Ok P w K mg base 1 "_law_mixed" 2 F__law_mixed :=
  ok_fn Z.h__law_mixed sc__law_mixed fun f cdv A outer s H E hr =>
    (dss_cons (ds_set sc__law_mixed.nd rfl (.inl rfl) de_int)
    (dss_cons (ds_if (dt_cmp (op := .Gt) (o := iGt) icmp_g op_gt (de_call1 g_len (dv 0 rfl (.inl rfl)) (fun ha => pe_callB call_len (by rfl) Z.m_len rfl ha)) de_int)
    (dss_one (ds_set sc__law_mixed.nd rfl (.inl rfl) (de_ix (dv 0 rfl (.inl rfl)) (de_mod (dv 1 rfl (.inl rfl)) (de_call1 g_len (dv 0 rfl (.inl rfl)) (fun ha => pe_callB call_len (by rfl) Z.m_len rfl ha))))))
    dss_nil)
    (dss_cons (ds_set sc__law_mixed.nd rfl (.inl rfl) (de_mod (de_call1 g_int (de_add (de_add (de_mul (dv 2 rfl (.inl rfl)) de_int) (de_mul (dv 1 rfl (.inl rfl)) de_int)) de_int) (fun ha => pe_callTy call_int1 (by rfl) Z.m_int rfl ha)) de_int))
    (dss_cons (ds_set sc__law_mixed.nd rfl (.inl rfl) (de_mod (de_call1 g_int (de_add (de_add (de_mul (dv 3 rfl (.inl rfl)) (dv 3 rfl (.inl rfl))) (de_div (dv 3 rfl (.inl rfl)) de_int)) (de_mul (dv 1 rfl (.inl rfl)) de_int)) (fun ha => pe_callTy call_int1 (by rfl) Z.m_int rfl ha)) de_int))
    (dss_cons (ds_set sc__law_mixed.nd rfl (.inl rfl) (de_mod (de_call1 g_int (de_add (de_add (de_mul (dv 4 rfl (.inl rfl)) (dv 4 rfl (.inl rfl))) (de_div (dv 4 rfl (.inl rfl)) de_int)) de_int) (fun ha => pe_callTy call_int1 (by rfl) Z.m_int rfl ha)) de_int))
    (dss_one (ds_ret (de_mod (de_div (dv 5 rfl (.inl rfl)) de_int) de_int))))))))
def B__law_row : SF :=
    (sSeq (sAsg 2 (eC (.int 0)))
    (sSeq (sIf (tAndF (tBl (eOp iGt (eUn eLenF (eVar 0)) (eC (.int 0)))) (tBl (eOp iGe (eOp eIxF (eVar 0) (eC (.int 0))) (eOp iPow (eC (.int 10)) (eC (.int 18))))))
    (sAsg 2 (eOp eIxF (eVar 0) (eC (.int 0))))
    sNil)
    (sSeq (sAsg 3 (eLst aNil))
    (sSeq (sFor (iRange1 (eVar 1)) (gNm 4)
    (sIf (tBl (eOp iGt (eVar 2) (eC (.int 0))))
    (sSeq (sAppend 3 (eOp iMod (eUn eIntF (eVar 2)) (eC (.int 1000))))
    (sAsg 2 (eOp iDiv (eVar 2) (eC (.int 1000)))))
    (sAppend 3 (eCall F__law_mixed (aCons (eVar 0) (aCons (eVar 4) aNil))))))
    (sRet (eVar 3))))))
def F__law_row : FF := fnF 2 5 B__law_row
theorem ok__law_row (Z : Facts K mg) : Ok P w K mg base 2 "_law_row" 2 F__law_row :=
  ok_fn Z.h__law_row sc__law_row fun f cdv A outer s H E hr =>
    (dss_cons (ds_set sc__law_row.nd rfl (.inl rfl) de_int)
    (dss_cons (ds_if (dt_w (dw_and (dt_cmp (op := .Gt) (o := iGt) icmp_g op_gt (de_call1 g_len (dv 0 rfl (.inl rfl)) (fun ha => pe_callB call_len (by rfl) Z.m_len rfl ha)) de_int) (dw_and1 (dt_cmp (op := .GtE) (o := iGe) icmp_g op_ge (de_ix (dv 0 rfl (.inl rfl)) de_int) (de_pow de_int de_int)))))
    (dss_one (ds_set sc__law_row.nd rfl (.inl rfl) (de_ix (dv 0 rfl (.inl rfl)) de_int)))
    dss_nil)
    (dss_cons (ds_set sc__law_row.nd rfl (.inl rfl) (de_lst da_nil))
    (dss_cons (ds_for PassesOwn.never rfl (di_range1 (by rfl) Z.m_range (dv 1 rfl (.inl rfl))) (dg_name sc__law_row.nd rfl (.inl rfl))
    (dss_one (ds_if (dt_cmp (op := .Gt) (o := iGt) icmp_g op_gt (dv 2 rfl (.inl rfl)) de_int)
    (dss_cons (ds_append (pe_bm PySem.F.plainAttrs_list PySem.F.slot_list_append PySem.F.type_list_append mt_append (pv 3 rfl (.inl rfl)) (pa_cons (de_mod (de_call1 g_int (dv 2 rfl (.inl rfl)) (fun ha => pe_callTy call_int1 (by rfl) Z.m_int rfl ha)) de_int) pa_nil)))
    (dss_one (ds_set sc__law_row.nd rfl (.inl rfl) (de_div (dv 2 rfl (.inl rfl)) de_int))))
    (dss_one (ds_append (pe_bm PySem.F.plainAttrs_list PySem.F.slot_list_append PySem.F.type_list_append mt_append (pv 3 rfl (.inl rfl)) (pa_cons (de_call (ok__law_mixed Z) hr (by decide) (by rfl) (da_cons (dv 0 rfl (.inl rfl)) (da_cons (dv 4 rfl (.inl rfl)) da_nil)) (aCons_len (aCons_len aNil_len))) pa_nil)))))))
    (dss_one (ds_ret (dv 3 rfl (.inl rfl))))))))
def B__law_row_of : SF :=
    (sRet (eUn eTupleF (eLc (iRange2 (eC (.int 1)) (eC (.int 7))) (gNm 1) tYesF [1] (eOp eCntF (eVar 0) (eVar 1)))))
def F__law_row_of : FF := fnF 1 2 B__law_row_of
theorem ok__law_row_of (Z : Facts K mg) : Ok P w K mg base 1 "_law_row_of" 1 F__law_row_of :=
  ok_fn Z.h__law_row_of sc__law_row_of fun f cdv A outer s H E hr =>
    (dss_one (ds_ret (de_call1 g_tuple (de_lc rfl sc__law_row_of.nd (blkOk_by (own := [("thing", 1)]) (by kernel_rfl)) (DI.c (di_range2 (by rfl) Z.m_range de_int de_int)) (fun _ _ _ _ _ => (dg_name sc__law_row_of.nd rfl (.inl rfl))) (fun _ _ _ _ _ => dts_nil) (fun _ _ _ _ _ => (de_tcount (hu70 hr) (dv 0 rfl (.inr (.inl rfl))) (dv 1 rfl (.inl rfl))))) (fun ha => pe_callTy call_tupO (by rfl) Z.m_tuple rfl ha))))
def B_bag_of : SF :=
    (sSeq (sAsg 1 (eDic0 .k))
    (sSeq (sFor (iSeq (eVar 0)) (gNm 2)
    (sPut 1 (eVar 2) (eOp eAddF (eDGet2 (eVar 1) (eVar 2) (eC (.int 0))) (eC (.int 1)))))
    (sRet (eUn eTupleF (eSortIt (eVar 1))))))
def F_bag_of : FF := fnF 1 3 B_bag_of
theorem ok_bag_of (Z : Facts K mg) : Ok P w K mg base 1 "bag_of" 1 F_bag_of :=
  ok_fn Z.h_bag_of sc_bag_of fun f cdv A outer s H E hr =>
    (dss_cons (ds_set sc_bag_of.nd rfl (.inl rfl) de_dicK)
    (dss_cons (ds_for PassesOwn.never rfl (di_seq (dv 0 rfl (.inl rfl))) (dg_name sc_bag_of.nd rfl (.inl rfl))
    (dss_one (ds_put (hu1 hr) (pv 1 rfl (.inl rfl)) (dv 2 rfl (.inl rfl)) (de_add (de_dget2 (hu1 hr) (dv 1 rfl (.inl rfl)) (dv 2 rfl (.inl rfl)) de_int) de_int))))
    (dss_one (ds_ret (de_call1 g_tuple (de_sortIt (pe_callB (cr_sortItD rfl (hu100 hr)) (by rfl) Z.m_sorted rfl (pa_cons (pe_m0 (fun _ _ _ _ _ _ I r ty => tyD_is I r ty) PySem.F.plainAttrs_dict PySem.F.slot_dict_items PySem.F.type_dict_items mt_itemsD (dv 1 rfl (.inl rfl))) pa_nil))) (fun ha => pe_callTy call_tupO (by rfl) Z.m_tuple rfl ha))))))
def B__rank : SF :=
    (sSeq (sAsg 3 (eC (.int 0)))
    (sSeq (sAsg 4 (eUn eLenF (eVar 0)))
    (sSeq (sWhile (tBl (eOp iLt (eVar 3) (eVar 4)))
    (sSeq (sAsg 5 (eOp iDiv (eOp eAddF (eVar 3) (eVar 4)) (eC (.int 2))))
    (sIf (tBl (eOp iGe (eOp eMulF (eOp eIxF (eOp eIxF (eVar 0) (eVar 5)) (eC (.int 0))) (eVar 2)) (eOp eMulF (eVar 1) (eOp eIxF (eOp eIxF (eVar 0) (eVar 5)) (eC (.int 1))))))
    (sAsg 3 (eOp eAddF (eVar 5) (eC (.int 1))))
    (sAsg 4 (eVar 5)))))
    (sRet (eVar 3)))))
def F__rank : FF := fnF 3 6 B__rank
theorem ok__rank (Z : Facts K mg) : Ok P w K mg base 1 "_rank" 3 F__rank :=
  ok_fn Z.h__rank sc__rank fun f cdv A outer s H E hr =>
    (dss_cons (ds_set sc__rank.nd rfl (.inl rfl) de_int)
    (dss_cons (ds_set sc__rank.nd rfl (.inl rfl) (de_call1 g_len (dv 0 rfl (.inl rfl)) (fun ha => pe_callB call_len (by rfl) Z.m_len rfl ha)))
    (dss_cons (ds_while PassesOwn.never (dt_cmp (op := .Lt) (o := iLt) icmp_g op_lt (dv 3 rfl (.inl rfl)) (dv 4 rfl (.inl rfl)))
    (dss_cons (ds_set sc__rank.nd rfl (.inl rfl) (de_div (de_add (dv 3 rfl (.inl rfl)) (dv 4 rfl (.inl rfl))) de_int))
    (dss_one (ds_if (dt_cmp (op := .GtE) (o := iGe) icmp_g op_ge (de_mul (de_ix (de_ix (dv 0 rfl (.inl rfl)) (dv 5 rfl (.inl rfl))) de_int) (dv 2 rfl (.inl rfl))) (de_mul (dv 1 rfl (.inl rfl)) (de_ix (de_ix (dv 0 rfl (.inl rfl)) (dv 5 rfl (.inl rfl))) de_int)))
    (dss_one (ds_set sc__rank.nd rfl (.inl rfl) (de_add (dv 5 rfl (.inl rfl)) de_int)))
    (dss_one (ds_set sc__rank.nd rfl (.inl rfl) (dv 5 rfl (.inl rfl))))))))
    (dss_one (ds_ret (dv 3 rfl (.inl rfl)))))))
def B_nearest_bags : SF :=
    (sSeq (sAsg 3 (eLst aNil))
    (sSeq (sFor (iEnumD (eVar 0)) (gTp 2 (gsCons (gNm 4) (gsCons (gNm 5) gsNil)))
    (sSeq (sAsgT (gTp 2 (gsCons (gNm 6) (gsCons (gNm 7) gsNil))) (eCall F_likeness (aCons (eVar 5) (aCons (eVar 1) aNil))))
    (sSeq (sInsert 3 (eCall F__rank (aCons (eVar 3) (aCons (eVar 6) (aCons (eVar 7) aNil)))) (eTup (aCons (eVar 6) (aCons (eVar 7) (aCons (eVar 4) aNil)))))
    (sIf (tBl (eOp iGt (eUn eLenF (eVar 3)) (eVar 2)))
    (sPop 3)
    sNil))))
    (sRet (eUn eTupleF (eLc (iSeqC (eVar 3)) (gTp 3 (gsCons (gNm 8) (gsCons (gNm 8) (gsCons (gNm 4) gsNil)))) tYesF [8, 4] (eVar 4))))))
def F_nearest_bags : FF := fnF 3 9 B_nearest_bags
theorem ok_nearest_bags (Z : Facts K mg) : Ok P w K mg base 3 "nearest_bags" 3 F_nearest_bags :=
  ok_fn Z.h_nearest_bags sc_nearest_bags fun f cdv A outer s H E hr =>
    (dss_cons (ds_set sc_nearest_bags.nd rfl (.inl rfl) (de_lst da_nil))
    (dss_cons (ds_for PassesOwn.never rfl (di_enum (by rfl) Z.m_enumerate (dv 0 rfl (.inl rfl))) (dg_tup rfl (dgs_cons (dg_name sc_nearest_bags.nd rfl (.inl rfl)) (dgs_cons (dg_name sc_nearest_bags.nd rfl (.inl rfl)) dgs_nil)))
    (dss_cons (ds_asgT (de_call (ok_likeness Z) hr (by decide) (by rfl) (da_cons (dv 5 rfl (.inl rfl)) (da_cons (dv 1 rfl (.inl rfl)) da_nil)) (aCons_len (aCons_len aNil_len))) (dg_tup rfl (dgs_cons (dg_name sc_nearest_bags.nd rfl (.inl rfl)) (dgs_cons (dg_name sc_nearest_bags.nd rfl (.inl rfl)) dgs_nil))))
    (dss_cons (ds_insert (pe_bm PySem.F.plainAttrs_list PySem.F.slot_list_insert PySem.F.type_list_insert mt_insert (pv 3 rfl (.inl rfl)) (pa_cons (de_call (ok__rank Z) hr (by decide) (by rfl) (da_cons (dv 3 rfl (.inl rfl)) (da_cons (dv 6 rfl (.inl rfl)) (da_cons (dv 7 rfl (.inl rfl)) da_nil))) (aCons_len (aCons_len (aCons_len aNil_len)))) (pa_cons (de_tup (da_cons (dv 6 rfl (.inl rfl)) (da_cons (dv 7 rfl (.inl rfl)) (da_cons (dv 4 rfl (.inl rfl)) da_nil)))) pa_nil))))
    (dss_one (ds_if (dt_cmp (op := .Gt) (o := iGt) icmp_g op_gt (de_call1 g_len (dv 3 rfl (.inl rfl)) (fun ha => pe_callB call_len (by rfl) Z.m_len rfl ha)) (dv 2 rfl (.inl rfl)))
    (dss_one (ds_pop (pe_bm0 PySem.F.plainAttrs_list PySem.F.slot_list_pop PySem.F.type_list_pop mt_pop (pv 3 rfl (.inl rfl)))))
    dss_nil)))))
    (dss_one (ds_ret (de_call1 g_tuple (de_lc rfl sc_nearest_bags.nd (blkOk_by (own := [("_", 8), ("place", 4)]) (by kernel_rfl)) (di_seqC (dv 3 rfl (.inl rfl))) (fun _ _ _ _ _ => (dg_tup rfl (dgs_cons (dg_name sc_nearest_bags.nd rfl (.inl rfl)) (dgs_cons (dg_name sc_nearest_bags.nd rfl (.inl rfl)) (dgs_cons (dg_name sc_nearest_bags.nd rfl (.inl rfl)) dgs_nil))))) (fun _ _ _ _ _ => dts_nil) (fun _ _ _ _ _ => (dv 4 rfl (.inl rfl)))) (fun ha => pe_callTy call_tupO (by rfl) Z.m_tuple rfl ha))))))
def B_law : SF :=
    (sSeq (sAsg 1 (eCall F__law_row (aCons (eVar 0) (aCons (eC (.int 100)) aNil))))
    (sSeq (sAsg 2 (eC (.int 1)))
    (sSeq (sAsg 3 (eC (.int 0)))
    (sSeq (sIf (tBl (eOp eEqF (eOp iMod (eUn eIntF (eOp eIxF (eVar 1) (eC (.int 2)))) (eC (.int 3))) (eC (.int 0))))
    (sSeq (sAsg 2 (eOp eAddF (eC (.int 1)) (eUn eIntF (eOp eIxF (eVar 1) (eC (.int 90))))))
    (sAsg 3 (eUn eIntF (eOp eIxF (eVar 1) (eC (.int 91))))))
    sNil)
    (sSeq (sAsg 4 (eCall F__law_all_things (aCons (eVar 1) aNil)))
    (sSeq (sAsg 5 (eLc (iSeqC (eVar 4)) (gNm 6) tYesF [6] (eCall F__law_row_of (aCons (eVar 6) aNil))))
    (sSeq (sAsg 7 (eUn eTupleF (eLc (iSeqC (eVar 5)) (gNm 8) tYesF [8] (eCall F__law_bag (aCons (eVar 8) (aCons (eVar 2) (aCons (eVar 3) aNil)))))))
    (sSeq (sFor (iRange1 (eUn eLenF (eVar 5))) (gNm 9)
    (sSeq (sAsg 6 (eUn eTupleF (eLc (iSeqC (eOp eIxF (eVar 4) (eVar 9))) (gNm 10) tYesF [10] (eOp eAddF (eOp eMulF (eVar 2) (eVar 10)) (eVar 3)))))
    (sIf (tNotF (tTru (eCall (F__law_like 6) (aCons (eCall F_bag_of (aCons (eVar 6) aNil)) (aCons (eOp eIxF (eVar 7) (eVar 9)) aNil)))))
    (sRet (eC (.bl false)))
    sNil)))
    (sSeq (sAsg 11 (eOp eIxF (eVar 5) (eOp iMod (eUn eIntF (eOp eIxF (eVar 1) (eC (.int 3)))) (eUn eLenF (eVar 5)))))
    (sSeq (sIf (tBl (eOp eEqF (eOp iMod (eUn eIntF (eOp eIxF (eVar 1) (eC (.int 92)))) (eC (.int 2))) (eC (.int 0))))
    (sAsg 11 (eCall F__law_row_of (aCons (eCall F__law_things (aCons (eVar 1) (aCons (eC (.int 77)) aNil))) aNil)))
    sNil)
    (sSeq (sAsg 12 (eCall F__law_bag (aCons (eVar 11) (aCons (eVar 2) (aCons (eVar 3) aNil)))))
    (sSeq (sFor (iRange1 (eUn eLenF (eVar 5))) (gNm 9)
    (sIf (tNotF (tTru (eCall F__law_pair_right (aCons (eOp eIxF (eVar 5) (eVar 9)) (aCons (eVar 11) (aCons (eOp eIxF (eVar 7) (eVar 9)) (aCons (eVar 12) aNil)))))))
    (sRet (eC (.bl false)))
    sNil))
    (sSeq (sAsg 13 (eOp eAddF (eC (.int 1)) (eOp iMod (eUn eIntF (eOp eIxF (eVar 1) (eC (.int 93)))) (eUn eLenF (eVar 5)))))
    (sRet (eCall (F__law_like 6) (aCons (eCall F_nearest_bags (aCons (eVar 7) (aCons (eVar 12) (aCons (eVar 13) aNil)))) (aCons (eUn eTupleF (eSl (eCall F__law_ranked (aCons (eVar 5) (aCons (eVar 11) aNil))) oNone (oSome (eVar 13)))) aNil)))))))))))))))))
def F_law : FF := fnF 1 14 B_law
theorem ds_law (Z : Facts K mg) (f : Addr) (cdv : Value) (A : Around) (outer : List PySem.Env) (s : Shared) (H : Hp) (E : XK) (hr : Room 8 (A.deeper (envOfC "law" (defScope S_law) s.heap.objs.size f cdv))) :
    DSs (cxOf CX0 P w K mg base ["script", "row", "much", "more", "everything", "rows", "things", "bags", "one", "k", "thing", "asked", "bag", "many"] "law" (defScope S_law) f cdv A outer s H E).nox (defBody S_law) B_law :=
    (dss_cons (ds_set sc_law.nd rfl (.inl rfl) (de_call (ok__law_row Z) hr (by decide) (by rfl) (da_cons (dv 0 rfl (.inl rfl)) (da_cons de_int da_nil)) (aCons_len (aCons_len aNil_len))))
    (dss_cons (ds_set sc_law.nd rfl (.inr rfl) de_int)
    (dss_cons (ds_set sc_law.nd rfl (.inr rfl) de_int)
    (dss_cons (ds_if (dt_cmp (op := .Eq) (o := eEqF) g_eq (op_eqD (hr.units)) (de_mod (de_call1 g_int (de_ix (dv 1 rfl (.inl rfl)) de_int) (fun ha => pe_callTy call_int1 (by rfl) Z.m_int rfl ha)) de_int) de_int)
    (dss_cons (ds_set sc_law.nd rfl (.inr rfl) (de_add de_int (de_call1 g_int (de_ix (dv 1 rfl (.inl rfl)) de_int) (fun ha => pe_callTy call_int1 (by rfl) Z.m_int rfl ha))))
    (dss_one (ds_set sc_law.nd rfl (.inr rfl) (de_call1 g_int (de_ix (dv 1 rfl (.inl rfl)) de_int) (fun ha => pe_callTy call_int1 (by rfl) Z.m_int rfl ha)))))
    dss_nil)
    (dss_cons (ds_set sc_law.nd rfl (.inl rfl) (de_call (ok__law_all_things Z) hr (by decide) (by rfl) (da_cons (dv 1 rfl (.inl rfl)) da_nil) (aCons_len aNil_len)))
    (dss_cons (ds_setLc rfl sc_law.nd rfl rfl (sw_true rfl rfl rfl rfl) (blkOk_by (own := [("things", 6)]) (by kernel_rfl)) (di_seqC (dv 4 rfl (.inl rfl))) (fun _ _ _ _ _ => (dg_name sc_law.nd rfl (.inl rfl))) (fun _ _ _ _ _ => dts_nil) (fun _ _ _ _ _ => (de_call (ok__law_row_of Z) hr (by decide) (by rfl) (da_cons (dv 6 rfl (.inl rfl)) da_nil) (aCons_len aNil_len))))
    (dss_cons (ds_set sc_law.nd rfl (.inl rfl) (de_call1 g_tuple (de_lc rfl sc_law.nd (blkOk_by (own := [("one", 8)]) (by kernel_rfl)) (di_seqC (dv 5 rfl (.inl rfl))) (fun _ _ _ _ _ => (dg_name sc_law.nd rfl (.inl rfl))) (fun _ _ _ _ _ => dts_nil) (fun _ _ _ _ _ => (de_call (ok__law_bag Z) hr (by decide) (by rfl) (da_cons (dv 8 rfl (.inl rfl)) (da_cons (dv 2 rfl (.inr (.inl rfl))) (da_cons (dv 3 rfl (.inr (.inl rfl))) da_nil))) (aCons_len (aCons_len (aCons_len aNil_len)))))) (fun ha => pe_callTy call_tupO (by rfl) Z.m_tuple rfl ha)))
    (dss_cons (ds_for PassesOwn.never rfl (di_range1 (by rfl) Z.m_range (de_call1 g_len (dv 5 rfl (.inl rfl)) (fun ha => pe_callB call_len (by rfl) Z.m_len rfl ha))) (dg_name sc_law.nd rfl (.inl rfl))
    (dss_cons (ds_set sc_law.nd rfl (.inl rfl) (de_call1 g_tuple (de_lc rfl sc_law.nd (blkOk_by (own := [("thing", 10)]) (by kernel_rfl)) (di_seqC (de_ix (dv 4 rfl (.inl rfl)) (dv 9 rfl (.inl rfl)))) (fun _ _ _ _ _ => (dg_name sc_law.nd rfl (.inl rfl))) (fun _ _ _ _ _ => dts_nil) (fun _ _ _ _ _ => (de_add (de_mul (dv 2 rfl (.inr (.inl rfl))) (dv 10 rfl (.inl rfl))) (dv 3 rfl (.inr (.inl rfl)))))) (fun ha => pe_callTy call_tupO (by rfl) Z.m_tuple rfl ha)))
    (dss_one (ds_if (dt_not (dt_tru (de_call (ok__law_like Z 6) hr (by decide) (by rfl) (da_cons (de_call (ok_bag_of Z) hr (by decide) (by rfl) (da_cons (dv 6 rfl (.inl rfl)) da_nil) (aCons_len aNil_len)) (da_cons (de_ix (dv 7 rfl (.inl rfl)) (dv 9 rfl (.inl rfl))) da_nil)) (aCons_len (aCons_len aNil_len)))))
    (dss_one (ds_ret de_bl))
    dss_nil))))
    (dss_cons (ds_set sc_law.nd rfl (.inl rfl) (de_ix (dv 5 rfl (.inl rfl)) (de_mod (de_call1 g_int (de_ix (dv 1 rfl (.inl rfl)) de_int) (fun ha => pe_callTy call_int1 (by rfl) Z.m_int rfl ha)) (de_call1 g_len (dv 5 rfl (.inl rfl)) (fun ha => pe_callB call_len (by rfl) Z.m_len rfl ha)))))
    (dss_cons (ds_if (dt_cmp (op := .Eq) (o := eEqF) g_eq (op_eqD (hr.units)) (de_mod (de_call1 g_int (de_ix (dv 1 rfl (.inl rfl)) de_int) (fun ha => pe_callTy call_int1 (by rfl) Z.m_int rfl ha)) de_int) de_int)
    (dss_one (ds_set sc_law.nd rfl (.inl rfl) (de_call (ok__law_row_of Z) hr (by decide) (by rfl) (da_cons (de_call (ok__law_things Z) hr (by decide) (by rfl) (da_cons (dv 1 rfl (.inl rfl)) (da_cons de_int da_nil)) (aCons_len (aCons_len aNil_len))) da_nil) (aCons_len aNil_len))))
    dss_nil)
    (dss_cons (ds_set sc_law.nd rfl (.inl rfl) (de_call (ok__law_bag Z) hr (by decide) (by rfl) (da_cons (dv 11 rfl (.inl rfl)) (da_cons (dv 2 rfl (.inr (.inl rfl))) (da_cons (dv 3 rfl (.inr (.inl rfl))) da_nil))) (aCons_len (aCons_len (aCons_len aNil_len)))))
    (dss_cons (ds_for PassesOwn.never rfl (di_range1 (by rfl) Z.m_range (de_call1 g_len (dv 5 rfl (.inl rfl)) (fun ha => pe_callB call_len (by rfl) Z.m_len rfl ha))) (dg_name sc_law.nd rfl (.inl rfl))
    (dss_one (ds_if (dt_not (dt_tru (de_call (ok__law_pair_right Z) hr (by decide) (by rfl) (da_cons (de_ix (dv 5 rfl (.inl rfl)) (dv 9 rfl (.inl rfl))) (da_cons (dv 11 rfl (.inl rfl)) (da_cons (de_ix (dv 7 rfl (.inl rfl)) (dv 9 rfl (.inl rfl))) (da_cons (dv 12 rfl (.inl rfl)) da_nil)))) (aCons_len (aCons_len (aCons_len (aCons_len aNil_len)))))))
    (dss_one (ds_ret de_bl))
    dss_nil)))
    (dss_cons (ds_set sc_law.nd rfl (.inl rfl) (de_add de_int (de_mod (de_call1 g_int (de_ix (dv 1 rfl (.inl rfl)) de_int) (fun ha => pe_callTy call_int1 (by rfl) Z.m_int rfl ha)) (de_call1 g_len (dv 5 rfl (.inl rfl)) (fun ha => pe_callB call_len (by rfl) Z.m_len rfl ha)))))
    (dss_one (ds_ret (de_call (ok__law_like Z 6) hr (by decide) (by rfl) (da_cons (de_call (ok_nearest_bags Z) hr (by decide) (by rfl) (da_cons (dv 7 rfl (.inl rfl)) (da_cons (dv 12 rfl (.inl rfl)) (da_cons (dv 13 rfl (.inl rfl)) da_nil))) (aCons_len (aCons_len (aCons_len aNil_len)))) (da_cons (de_call1 g_tuple (de_slice (de_call (ok__law_ranked Z) hr (by decide) (by rfl) (da_cons (dv 5 rfl (.inl rfl)) (da_cons (dv 11 rfl (.inl rfl)) da_nil)) (aCons_len (aCons_len aNil_len))) do_none (do_some (dv 13 rfl (.inl rfl)))) (fun ha => pe_callTy call_tupO (by rfl) Z.m_tuple rfl ha)) da_nil)) (aCons_len (aCons_len aNil_len))))))))))))))))))
end
/-- the facts, as the head gives them -/
theorem all_mk {l : PySem.W.OpenLaw} {w : World} {K : PySem.W.Frag} {h : Heap} {mg : Str → Option Value} {fa f0 f1 f2 f3 f4 f5 f6 f7 f8 f9 f10 f11 f12 f13 f14 f15 f16 f17 f18 f19 f20 f21 f22 f23 f24 f25 : Addr} (X : K.In h) (G : h.Ns mainGlobals mg) (hfa : mg "law" = some (.ref fa))
    {od0 an0 od1 an1 od2 an2 od3 an3 od4 an4 od5 an5 od6 an6 od7 an7 od8 an8 od9 an9 od10 an10 od11 an11 od12 an12 od13 an13 od14 an14 od15 an15 od16 an16 od17 an17 od18 an18 od19 an19 od20 an20 od21 an21 od22 an22 od23 an23 od24 an24 od25 an25 : Option Addr} {sl0 sl1 sl2 sl3 sl4 sl5 sl6 sl7 sl8 sl9 sl10 sl11 sl12 sl13 sl14 sl15 sl16 sl17 sl18 sl19 sl20 sl21 sl22 sl23 sl24 sl25 : Array (Option Value)} {oc0 kV0 dc0 pm0 cd0 ct0 oc1 kV1 dc1 pm1 cd1 ct1 oc2 kV2 dc2 pm2 cd2 ct2 oc3 kV3 dc3 pm3 cd3 ct3 oc4 kV4 dc4 pm4 cd4 ct4 oc5 kV5 dc5 pm5 cd5 ct5 oc6 kV6 dc6 pm6 cd6 ct6 oc7 kV7 dc7 pm7 cd7 ct7 oc8 kV8 dc8 pm8 cd8 ct8 oc9 kV9 dc9 pm9 cd9 ct9 oc10 kV10 dc10 pm10 cd10 ct10 oc11 kV11 dc11 pm11 cd11 ct11 oc12 kV12 dc12 pm12 cd12 ct12 oc13 kV13 dc13 pm13 cd13 ct13 oc14 kV14 dc14 pm14 cd14 ct14 oc15 kV15 dc15 pm15 cd15 ct15 oc16 kV16 dc16 pm16 cd16 ct16 oc17 kV17 dc17 pm17 cd17 ct17 oc18 kV18 dc18 pm18 cd18 ct18 oc19 kV19 dc19 pm19 cd19 ct19 oc20 kV20 dc20 pm20 cd20 ct20 oc21 kV21 dc21 pm21 cd21 ct21 oc22 kV22 dc22 pm22 cd22 ct22 oc23 kV23 dc23 pm23 cd23 ct23 oc24 kV24 dc24 pm24 cd24 ct24 oc25 kV25 dc25 pm25 cd25 ct25 : Value}
    (a0 : PySem.W.nsIn K mainGlobals "_law_things" = some (some (.ref f0))) (l0 : K.lookup f0 = some ⟨oc0, od0, .func (PySem.W.fnOf "_law_things" "_law_things" (defArgs S__law_things) (defBody S__law_things) (defScope S__law_things) .none kV0 dc0 pm0 an0 cd0 ct0), sl0⟩) (c0 : PySem.W.codeIn K cd0 "_law_things" = true) (k0 : PySem.W.keepIn K (.ref f0) = true)
    (a1 : PySem.W.nsIn K mainGlobals "_law_all_things" = some (some (.ref f1))) (l1 : K.lookup f1 = some ⟨oc1, od1, .func (PySem.W.fnOf "_law_all_things" "_law_all_things" (defArgs S__law_all_things) (defBody S__law_all_things) (defScope S__law_all_things) .none kV1 dc1 pm1 an1 cd1 ct1), sl1⟩) (c1 : PySem.W.codeIn K cd1 "_law_all_things" = true) (k1 : PySem.W.keepIn K (.ref f1) = true)
    (a2 : PySem.W.nsIn K mainGlobals "_law_bag" = some (some (.ref f2))) (l2 : K.lookup f2 = some ⟨oc2, od2, .func (PySem.W.fnOf "_law_bag" "_law_bag" (defArgs S__law_bag) (defBody S__law_bag) (defScope S__law_bag) .none kV2 dc2 pm2 an2 cd2 ct2), sl2⟩) (c2 : PySem.W.codeIn K cd2 "_law_bag" = true) (k2 : PySem.W.keepIn K (.ref f2) = true)
    (a3 : PySem.W.nsIn K mainGlobals "_law_is_int" = some (some (.ref f3))) (l3 : K.lookup f3 = some ⟨oc3, od3, .func (PySem.W.fnOf "_law_is_int" "_law_is_int" (defArgs S__law_is_int) (defBody S__law_is_int) (defScope S__law_is_int) .none kV3 dc3 pm3 an3 cd3 ct3), sl3⟩) (c3 : PySem.W.codeIn K cd3 "_law_is_int" = true) (k3 : PySem.W.keepIn K (.ref f3) = true)
    (a4 : PySem.W.nsIn K mainGlobals "_law_like" = some (some (.ref f4))) (l4 : K.lookup f4 = some ⟨oc4, od4, .func (PySem.W.fnOf "_law_like" "_law_like" (defArgs S__law_like) (defBody S__law_like) (defScope S__law_like) .none kV4 dc4 pm4 an4 cd4 ct4), sl4⟩) (c4 : PySem.W.codeIn K cd4 "_law_like" = true) (k4 : PySem.W.keepIn K (.ref f4) = true)
    (a5 : PySem.W.nsIn K mainGlobals "_law_dot" = some (some (.ref f5))) (l5 : K.lookup f5 = some ⟨oc5, od5, .func (PySem.W.fnOf "_law_dot" "_law_dot" (defArgs S__law_dot) (defBody S__law_dot) (defScope S__law_dot) .none kV5 dc5 pm5 an5 cd5 ct5), sl5⟩) (c5 : PySem.W.codeIn K cd5 "_law_dot" = true) (k5 : PySem.W.keepIn K (.ref f5) = true)
    (a6 : PySem.W.nsIn K mainGlobals "_law_like_of" = some (some (.ref f6))) (l6 : K.lookup f6 = some ⟨oc6, od6, .func (PySem.W.fnOf "_law_like_of" "_law_like_of" (defArgs S__law_like_of) (defBody S__law_like_of) (defScope S__law_like_of) .none kV6 dc6 pm6 an6 cd6 ct6), sl6⟩) (c6 : PySem.W.codeIn K cd6 "_law_like_of" = true) (k6 : PySem.W.keepIn K (.ref f6) = true)
    (a7 : PySem.W.nsIn K mainGlobals "_law_common" = some (some (.ref f7))) (l7 : K.lookup f7 = some ⟨oc7, od7, .func (PySem.W.fnOf "_law_common" "_law_common" (defArgs S__law_common) (defBody S__law_common) (defScope S__law_common) .none kV7 dc7 pm7 an7 cd7 ct7), sl7⟩) (c7 : PySem.W.codeIn K cd7 "_law_common" = true) (k7 : PySem.W.keepIn K (.ref f7) = true)
    (a8 : PySem.W.nsIn K mainGlobals "_law_ratio" = some (some (.ref f8))) (l8 : K.lookup f8 = some ⟨oc8, od8, .func (PySem.W.fnOf "_law_ratio" "_law_ratio" (defArgs S__law_ratio) (defBody S__law_ratio) (defScope S__law_ratio) .none kV8 dc8 pm8 an8 cd8 ct8), sl8⟩) (c8 : PySem.W.codeIn K cd8 "_law_ratio" = true) (k8 : PySem.W.keepIn K (.ref f8) = true)
    (a9 : PySem.W.nsIn K mainGlobals "far" = some (some (.ref f9))) (l9 : K.lookup f9 = some ⟨oc9, od9, .func (PySem.W.fnOf "far" "far" (defArgs S_far) (defBody S_far) (defScope S_far) .none kV9 dc9 pm9 an9 cd9 ct9), sl9⟩) (c9 : PySem.W.codeIn K cd9 "far" = true) (k9 : PySem.W.keepIn K (.ref f9) = true)
    (a10 : PySem.W.nsIn K mainGlobals "_ratio" = some (some (.ref f10))) (l10 : K.lookup f10 = some ⟨oc10, od10, .func (PySem.W.fnOf "_ratio" "_ratio" (defArgs S__ratio) (defBody S__ratio) (defScope S__ratio) .none kV10 dc10 pm10 an10 cd10 ct10), sl10⟩) (c10 : PySem.W.codeIn K cd10 "_ratio" = true) (k10 : PySem.W.keepIn K (.ref f10) = true)
    (a11 : PySem.W.nsIn K mainGlobals "_square" = some (some (.ref f11))) (l11 : K.lookup f11 = some ⟨oc11, od11, .func (PySem.W.fnOf "_square" "_square" (defArgs S__square) (defBody S__square) (defScope S__square) .none kV11 dc11 pm11 an11 cd11 ct11), sl11⟩) (c11 : PySem.W.codeIn K cd11 "_square" = true) (k11 : PySem.W.keepIn K (.ref f11) = true)
    (a12 : PySem.W.nsIn K mainGlobals "likeness" = some (some (.ref f12))) (l12 : K.lookup f12 = some ⟨oc12, od12, .func (PySem.W.fnOf "likeness" "likeness" (defArgs S_likeness) (defBody S_likeness) (defScope S_likeness) .none kV12 dc12 pm12 an12 cd12 ct12), sl12⟩) (c12 : PySem.W.codeIn K cd12 "likeness" = true) (k12 : PySem.W.keepIn K (.ref f12) = true)
    (a13 : PySem.W.nsIn K mainGlobals "_size" = some (some (.ref f13))) (l13 : K.lookup f13 = some ⟨oc13, od13, .func (PySem.W.fnOf "_size" "_size" (defArgs S__size) (defBody S__size) (defScope S__size) .none kV13 dc13 pm13 an13 cd13 ct13), sl13⟩) (c13 : PySem.W.codeIn K cd13 "_size" = true) (k13 : PySem.W.keepIn K (.ref f13) = true)
    (a14 : PySem.W.nsIn K mainGlobals "shared_part" = some (some (.ref f14))) (l14 : K.lookup f14 = some ⟨oc14, od14, .func (PySem.W.fnOf "shared_part" "shared_part" (defArgs S_shared_part) (defBody S_shared_part) (defScope S_shared_part) .none kV14 dc14 pm14 an14 cd14 ct14), sl14⟩) (c14 : PySem.W.codeIn K cd14 "shared_part" = true) (k14 : PySem.W.keepIn K (.ref f14) = true)
    (a15 : PySem.W.nsIn K mainGlobals "value_of_rows" = some (some (.ref f15))) (l15 : K.lookup f15 = some ⟨oc15, od15, .func (PySem.W.fnOf "value_of_rows" "value_of_rows" (defArgs S_value_of_rows) (defBody S_value_of_rows) (defScope S_value_of_rows) .none kV15 dc15 pm15 an15 cd15 ct15), sl15⟩) (c15 : PySem.W.codeIn K cd15 "value_of_rows" = true) (k15 : PySem.W.keepIn K (.ref f15) = true)
    (a16 : PySem.W.nsIn K mainGlobals "span_volume" = some (some (.ref f16))) (l16 : K.lookup f16 = some ⟨oc16, od16, .func (PySem.W.fnOf "span_volume" "span_volume" (defArgs S_span_volume) (defBody S_span_volume) (defScope S_span_volume) .none kV16 dc16 pm16 an16 cd16 ct16), sl16⟩) (c16 : PySem.W.codeIn K cd16 "span_volume" = true) (k16 : PySem.W.keepIn K (.ref f16) = true)
    (a17 : PySem.W.nsIn K mainGlobals "_law_pair_right" = some (some (.ref f17))) (l17 : K.lookup f17 = some ⟨oc17, od17, .func (PySem.W.fnOf "_law_pair_right" "_law_pair_right" (defArgs S__law_pair_right) (defBody S__law_pair_right) (defScope S__law_pair_right) .none kV17 dc17 pm17 an17 cd17 ct17), sl17⟩) (c17 : PySem.W.codeIn K cd17 "_law_pair_right" = true) (k17 : PySem.W.keepIn K (.ref f17) = true)
    (a18 : PySem.W.nsIn K mainGlobals "_law_ranked" = some (some (.ref f18))) (l18 : K.lookup f18 = some ⟨oc18, od18, .func (PySem.W.fnOf "_law_ranked" "_law_ranked" (defArgs S__law_ranked) (defBody S__law_ranked) (defScope S__law_ranked) .none kV18 dc18 pm18 an18 cd18 ct18), sl18⟩) (c18 : PySem.W.codeIn K cd18 "_law_ranked" = true) (k18 : PySem.W.keepIn K (.ref f18) = true)
    (a19 : PySem.W.nsIn K mainGlobals "_law_mixed" = some (some (.ref f19))) (l19 : K.lookup f19 = some ⟨oc19, od19, .func (PySem.W.fnOf "_law_mixed" "_law_mixed" (defArgs S__law_mixed) (defBody S__law_mixed) (defScope S__law_mixed) .none kV19 dc19 pm19 an19 cd19 ct19), sl19⟩) (c19 : PySem.W.codeIn K cd19 "_law_mixed" = true) (k19 : PySem.W.keepIn K (.ref f19) = true)
    (a20 : PySem.W.nsIn K mainGlobals "_law_row" = some (some (.ref f20))) (l20 : K.lookup f20 = some ⟨oc20, od20, .func (PySem.W.fnOf "_law_row" "_law_row" (defArgs S__law_row) (defBody S__law_row) (defScope S__law_row) .none kV20 dc20 pm20 an20 cd20 ct20), sl20⟩) (c20 : PySem.W.codeIn K cd20 "_law_row" = true) (k20 : PySem.W.keepIn K (.ref f20) = true)
    (a21 : PySem.W.nsIn K mainGlobals "_law_row_of" = some (some (.ref f21))) (l21 : K.lookup f21 = some ⟨oc21, od21, .func (PySem.W.fnOf "_law_row_of" "_law_row_of" (defArgs S__law_row_of) (defBody S__law_row_of) (defScope S__law_row_of) .none kV21 dc21 pm21 an21 cd21 ct21), sl21⟩) (c21 : PySem.W.codeIn K cd21 "_law_row_of" = true) (k21 : PySem.W.keepIn K (.ref f21) = true)
    (a22 : PySem.W.nsIn K mainGlobals "bag_of" = some (some (.ref f22))) (l22 : K.lookup f22 = some ⟨oc22, od22, .func (PySem.W.fnOf "bag_of" "bag_of" (defArgs S_bag_of) (defBody S_bag_of) (defScope S_bag_of) .none kV22 dc22 pm22 an22 cd22 ct22), sl22⟩) (c22 : PySem.W.codeIn K cd22 "bag_of" = true) (k22 : PySem.W.keepIn K (.ref f22) = true)
    (a23 : PySem.W.nsIn K mainGlobals "_rank" = some (some (.ref f23))) (l23 : K.lookup f23 = some ⟨oc23, od23, .func (PySem.W.fnOf "_rank" "_rank" (defArgs S__rank) (defBody S__rank) (defScope S__rank) .none kV23 dc23 pm23 an23 cd23 ct23), sl23⟩) (c23 : PySem.W.codeIn K cd23 "_rank" = true) (k23 : PySem.W.keepIn K (.ref f23) = true)
    (a24 : PySem.W.nsIn K mainGlobals "nearest_bags" = some (some (.ref f24))) (l24 : K.lookup f24 = some ⟨oc24, od24, .func (PySem.W.fnOf "nearest_bags" "nearest_bags" (defArgs S_nearest_bags) (defBody S_nearest_bags) (defScope S_nearest_bags) .none kV24 dc24 pm24 an24 cd24 ct24), sl24⟩) (c24 : PySem.W.codeIn K cd24 "nearest_bags" = true) (k24 : PySem.W.keepIn K (.ref f24) = true)
    (a25 : PySem.W.nsIn K mainGlobals "law" = some (some (.ref f25))) (l25 : K.lookup f25 = some ⟨oc25, od25, .func (PySem.W.fnOf "law" "law" (defArgs S_law) (defBody S_law) (defScope S_law) .none kV25 dc25 pm25 an25 cd25 ct25), sl25⟩) (c25 : PySem.W.codeIn K cd25 "law" = true) (k25 : PySem.W.keepIn K (.ref f25) = true)
    (z_abs : PySem.W.nsIn K mainGlobals "abs" = some none)
    (z_all : PySem.W.nsIn K mainGlobals "all" = some none)
    (z_bool : PySem.W.nsIn K mainGlobals "bool" = some none)
    (z_dict : PySem.W.nsIn K mainGlobals "dict" = some none)
    (z_enumerate : PySem.W.nsIn K mainGlobals "enumerate" = some none)
    (z_int : PySem.W.nsIn K mainGlobals "int" = some none)
    (z_isinstance : PySem.W.nsIn K mainGlobals "isinstance" = some none)
    (z_len : PySem.W.nsIn K mainGlobals "len" = some none)
    (z_list : PySem.W.nsIn K mainGlobals "list" = some none)
    (z_max : PySem.W.nsIn K mainGlobals "max" = some none)
    (z_min : PySem.W.nsIn K mainGlobals "min" = some none)
    (z_range : PySem.W.nsIn K mainGlobals "range" = some none)
    (z_sorted : PySem.W.nsIn K mainGlobals "sorted" = some none)
    (z_str : PySem.W.nsIn K mainGlobals "str" = some none)
    (z_sum : PySem.W.nsIn K mainGlobals "sum" = some none)
    (z_tuple : PySem.W.nsIn K mainGlobals "tuple" = some none)
    (z_zip : PySem.W.nsIn K mainGlobals "zip" = some none)
    (z_gcd : PySem.W.nsIn K mainGlobals "gcd" = some (some (.builtin "math.gcd"))) :
    ∃ fd : FuncData, (∀ (s : Shared) (v : Value), BindsTo s fd ⟨[v], []⟩ [("script", v)]) ∧ ∀ base : Heap, K.In base → base.Ns mainGlobals mg → FnOk l.prog w K mg base CX0 9 fa fd ["script"] (spF K 1 F_law) := by
  have e := hfa.symm.trans (PySem.W.mg_of X G a25)
  cases e

  have F0 := fun_mk (st := S__law_things) l0 c0 k0
  have b0 := F0.binds (ps := ["row", "at"]) fun _ _ _ _ _ _ us hl => match us, hl with | [_, _], _ => rfl
  have F1 := fun_mk (st := S__law_all_things) l1 c1 k1
  have b1 := F1.binds (ps := ["row"]) fun _ _ _ _ _ _ us hl => match us, hl with | [_], _ => rfl
  have F2 := fun_mk (st := S__law_bag) l2 c2 k2
  have b2 := F2.binds (ps := ["counts", "much", "more"]) fun _ _ _ _ _ _ us hl => match us, hl with | [_, _, _], _ => rfl
  have F3 := fun_mk (st := S__law_is_int) l3 c3 k3
  have b3 := F3.binds (ps := ["value"]) fun _ _ _ _ _ _ us hl => match us, hl with | [_], _ => rfl
  have F4 := fun_mk (st := S__law_like) l4 c4 k4
  have b4 := F4.binds (ps := ["value", "due"]) fun _ _ _ _ _ _ us hl => match us, hl with | [_, _], _ => rfl
  have F5 := fun_mk (st := S__law_dot) l5 c5 k5
  have b5 := F5.binds (ps := ["first", "second"]) fun _ _ _ _ _ _ us hl => match us, hl with | [_, _], _ => rfl
  have F6 := fun_mk (st := S__law_like_of) l6 c6 k6
  have b6 := F6.binds (ps := ["first", "second"]) fun _ _ _ _ _ _ us hl => match us, hl with | [_, _], _ => rfl
  have F7 := fun_mk (st := S__law_common) l7 c7 k7
  have b7 := F7.binds (ps := ["first", "second"]) fun _ _ _ _ _ _ us hl => match us, hl with | [_, _], _ => rfl
  have F8 := fun_mk (st := S__law_ratio) l8 c8 k8
  have b8 := F8.binds (ps := ["a", "b"]) fun _ _ _ _ _ _ us hl => match us, hl with | [_, _], _ => rfl
  have F9 := fun_mk (st := S_far) l9 c9 k9
  have b9 := F9.binds (ps := ["way", "u", "v"]) fun _ _ _ _ _ _ us hl => match us, hl with | [_, _, _], _ => rfl
  have F10 := fun_mk (st := S__ratio) l10 c10 k10
  have b10 := F10.binds (ps := ["over", "under"]) fun _ _ _ _ _ _ us hl => match us, hl with | [_, _], _ => rfl
  have F11 := fun_mk (st := S__square) l11 c11 k11
  have b11 := F11.binds (ps := ["bag"]) fun _ _ _ _ _ _ us hl => match us, hl with | [_], _ => rfl
  have F12 := fun_mk (st := S_likeness) l12 c12 k12
  have b12 := F12.binds (ps := ["first", "second"]) fun _ _ _ _ _ _ us hl => match us, hl with | [_, _], _ => rfl
  have F13 := fun_mk (st := S__size) l13 c13 k13
  have b13 := F13.binds (ps := ["bag"]) fun _ _ _ _ _ _ us hl => match us, hl with | [_], _ => rfl
  have F14 := fun_mk (st := S_shared_part) l14 c14 k14
  have b14 := F14.binds (ps := ["first", "second"]) fun _ _ _ _ _ _ us hl => match us, hl with | [_, _], _ => rfl
  have F15 := fun_mk (st := S_value_of_rows) l15 c15 k15
  have b15 := F15.binds (ps := ["table"]) fun _ _ _ _ _ _ us hl => match us, hl with | [_], _ => rfl
  have F16 := fun_mk (st := S_span_volume) l16 c16 k16
  have b16 := F16.binds (ps := ["vectors"]) fun _ _ _ _ _ _ us hl => match us, hl with | [_], _ => rfl
  have F17 := fun_mk (st := S__law_pair_right) l17 c17 k17
  have b17 := F17.binds (ps := ["one", "other", "first", "second"]) fun _ _ _ _ _ _ us hl => match us, hl with | [_, _, _, _], _ => rfl
  have F18 := fun_mk (st := S__law_ranked) l18 c18 k18
  have b18 := F18.binds (ps := ["rows", "asked"]) fun _ _ _ _ _ _ us hl => match us, hl with | [_, _], _ => rfl
  have F19 := fun_mk (st := S__law_mixed) l19 c19 k19
  have b19 := F19.binds (ps := ["script", "k"]) fun _ _ _ _ _ _ us hl => match us, hl with | [_, _], _ => rfl
  have F20 := fun_mk (st := S__law_row) l20 c20 k20
  have b20 := F20.binds (ps := ["script", "many"]) fun _ _ _ _ _ _ us hl => match us, hl with | [_, _], _ => rfl
  have F21 := fun_mk (st := S__law_row_of) l21 c21 k21
  have b21 := F21.binds (ps := ["things"]) fun _ _ _ _ _ _ us hl => match us, hl with | [_], _ => rfl
  have F22 := fun_mk (st := S_bag_of) l22 c22 k22
  have b22 := F22.binds (ps := ["things"]) fun _ _ _ _ _ _ us hl => match us, hl with | [_], _ => rfl
  have F23 := fun_mk (st := S__rank) l23 c23 k23
  have b23 := F23.binds (ps := ["best", "over", "under"]) fun _ _ _ _ _ _ us hl => match us, hl with | [_, _, _], _ => rfl
  have F24 := fun_mk (st := S_nearest_bags) l24 c24 k24
  have b24 := F24.binds (ps := ["bags", "bag", "k"]) fun _ _ _ _ _ _ us hl => match us, hl with | [_, _, _], _ => rfl
  have F25 := fun_mk (st := S_law) l25 c25 k25
  have b25 := F25.binds (ps := ["script"]) fun _ _ _ _ _ _ us hl => match us, hl with | [_], _ => rfl
  have Z : Facts K mg := ⟨⟨_, _, PySem.W.mg_of X G a0, F0, b0⟩, ⟨_, _, PySem.W.mg_of X G a1, F1, b1⟩, ⟨_, _, PySem.W.mg_of X G a2, F2, b2⟩, ⟨_, _, PySem.W.mg_of X G a3, F3, b3⟩, ⟨_, _, PySem.W.mg_of X G a4, F4, b4⟩, ⟨_, _, PySem.W.mg_of X G a5, F5, b5⟩, ⟨_, _, PySem.W.mg_of X G a6, F6, b6⟩, ⟨_, _, PySem.W.mg_of X G a7, F7, b7⟩, ⟨_, _, PySem.W.mg_of X G a8, F8, b8⟩, ⟨_, _, PySem.W.mg_of X G a9, F9, b9⟩, ⟨_, _, PySem.W.mg_of X G a10, F10, b10⟩, ⟨_, _, PySem.W.mg_of X G a11, F11, b11⟩, ⟨_, _, PySem.W.mg_of X G a12, F12, b12⟩, ⟨_, _, PySem.W.mg_of X G a13, F13, b13⟩, ⟨_, _, PySem.W.mg_of X G a14, F14, b14⟩, ⟨_, _, PySem.W.mg_of X G a15, F15, b15⟩, ⟨_, _, PySem.W.mg_of X G a16, F16, b16⟩, ⟨_, _, PySem.W.mg_of X G a17, F17, b17⟩, ⟨_, _, PySem.W.mg_of X G a18, F18, b18⟩, ⟨_, _, PySem.W.mg_of X G a19, F19, b19⟩, ⟨_, _, PySem.W.mg_of X G a20, F20, b20⟩, ⟨_, _, PySem.W.mg_of X G a21, F21, b21⟩, ⟨_, _, PySem.W.mg_of X G a22, F22, b22⟩, ⟨_, _, PySem.W.mg_of X G a23, F23, b23⟩, ⟨_, _, PySem.W.mg_of X G a24, F24, b24⟩, ⟨_, _, PySem.W.mg_of X G a25, F25, b25⟩, PySem.W.mg_none_of X G z_abs, PySem.W.mg_none_of X G z_all, PySem.W.mg_none_of X G z_bool, PySem.W.mg_none_of X G z_dict, PySem.W.mg_none_of X G z_enumerate, PySem.W.mg_none_of X G z_int, PySem.W.mg_none_of X G z_isinstance, PySem.W.mg_none_of X G z_len, PySem.W.mg_none_of X G z_list, PySem.W.mg_none_of X G z_max, PySem.W.mg_none_of X G z_min, PySem.W.mg_none_of X G z_range, PySem.W.mg_none_of X G z_sorted, PySem.W.mg_none_of X G z_str, PySem.W.mg_none_of X G z_sum, PySem.W.mg_none_of X G z_tuple, PySem.W.mg_none_of X G z_zip, PySem.W.mg_of X G z_gcd⟩
  refine ⟨PySem.W.fnOf "law" "law" (defArgs S_law) (defBody S_law) (defScope S_law) .none kV25 dc25 pm25 an25 cd25 ct25, fun s v => .of_eq rfl, fun base _ _ => ?_⟩
  exact fnok (ps := ["script"]) F25 sc_law (ds_law Z)
/-- what the law's answer is to be -/
theorem hsp_of {K : PySem.W.Frag} {H : Hp} {a : Addr} {ns : List Int} {E : XK} (hS : SqL K H a (ns.map V.int)) (h : ∃ k, F_law [.lst (ns.map D.int)] = some (.bl true, k)) : spF K 1 F_law [.ref a] H (fun v _ => v = .bl true) E := by
  obtain ⟨k, h⟩ := h
  have rr : ∀ l : List Int, RepL K H (l.map D.int) (l.map V.int) := fun l => by
    induction l with
    | nil => exact RepL.nil
    | cons x l ih => exact RepL.cons (by unfold Rep; rfl) ih
  refine ⟨[.lst (ns.map D.int)], .bl true, k, RepL.cons (by unfold Rep; exact ⟨a, _, rfl, hS, rr ns⟩) RepL.nil, rfl, h, fun v H' S _ _ o => ?_⟩
  cases k with
  | zero =>
    have r := o.1
    unfold Rep at r
    exact r
  | succ k =>
    obtain ⟨a', S', _, _, _, _, o⟩ := o
    rcases o with ⟨ds, vs, e, _⟩ | ⟨kvs, ks, e, _⟩ | ⟨kvs, ks, e, _⟩ <;> cases e
end PFG

set_option Elab.async false
set_option linter.all false
set_option maxRecDepth 100000
set_option maxHeartbeats 4000000
namespace PFG
open PySem PySem.Spec PyProof.Rows L2 PF
/-- a drawn number -/
theorem mixed_ok (ns : List Int) (k : Int) (hk : 0 ≤ k) (hk2 : k < 1000) : ∃ m, F__law_mixed [.lst (PF.iL ns), .int k] = some (.int m, 0) ∧ 0 ≤ m ∧ m < 1000003 := by
  have tail : ∀ (c : Int) (d : Option (Nat × D)), ∃ m, (sSeq (sAsg 3 (eOp iMod (eUn eIntF (eOp eAddF (eOp eAddF (eOp eMulF (eVar 2) (eC (.int 48271))) (eOp eMulF (eVar 1) (eC (.int 69621)))) (eC (.int 8191)))) (eC (.int 2147483647))))
    (sSeq (sAsg 4 (eOp iMod (eUn eIntF (eOp eAddF (eOp eAddF (eOp eMulF (eVar 3) (eVar 3)) (eOp iDiv (eVar 3) (eC (.int 7)))) (eOp eMulF (eVar 1) (eC (.int 16807))))) (eC (.int 2147483629))))
    (sSeq (sAsg 5 (eOp iMod (eUn eIntF (eOp eAddF (eOp eAddF (eOp eMulF (eVar 4) (eVar 4)) (eOp iDiv (eVar 4) (eC (.int 11)))) (eC (.int 40692)))) (eC (.int 2147483563))))
    (sRet (eOp iMod (eOp iDiv (eVar 5) (eC (.int 5))) (eC (.int 1000003))))))) [d, some (0, .int k), some (0, .int c), none, none, none] = some (.rt (.int m) 0) ∧ 0 ≤ m ∧ m < 1000003 := by
    intro c d
    have m1 := fun (x y : Fl) => mul_r (a := c) (b := 48271) (x := x) (y := y) (by decide)
    have m2 := fun (x y : Fl) => mul_r (a := k) (b := 69621) (x := x) (y := y) (by decide)
    have m3 := fun (x y : Fl) => mul_r (a := k) (b := 16807) (x := x) (y := y) (by decide)
    have md := fun (a b : Int) (x y : Fl) (h : 0 < b) => iMod_lit (a := a) (b := b) (x := x) (y := y) h
    have dv := fun (a b : Int) (x y : Fl) (h : 0 < b) (h2 : b < 2 ^ 64) => iDiv_lit (a := a) (b := b) (x := x) (y := y) h h2
    have m4 : ∀ (a : Int) (x y : Fl), eMulF (.int (a % 2147483647), x) (.int (a % 2147483647), y) = some (.int (a % 2147483647 * (a % 2147483647)), .fr 0) := fun a x y => mul_l (by omega)
    have m5 : ∀ (a : Int) (x y : Fl), eMulF (.int (a % 2147483629), x) (.int (a % 2147483629), y) = some (.int (a % 2147483629 * (a % 2147483629)), .fr 0) := fun a x y => mul_l (by omega)
    simp only [fnF, sSeq, sNil, sRet, sIf, sAsg, sAsgT, sPar, eVar, eC, eOp, eUn, eTup, eLst, aNil, aCons, eCall, tBl, tTru, tNotF, tAndF, tOrF, dBl, tru, add_i, sub_i, lt_i, le_i, gt_i, ge_i, int_i, abs_i, len_l, len_t, eq_i, ne_i, PF.scal, gTp, gNm, gsCons, gsNil, shr, eshr, elFl, pu_int, pu_bl, pu_str, pu_non, pu_tup, pu_nil, pu_cons, Option.bind_some, Option.map_some, Option.bind_none, List.getElem?_cons_zero, List.getElem?_cons_succ, List.set_cons_zero, List.set_cons_succ, List.length_cons, List.length_nil, List.map_cons, List.map_nil, List.replicate, List.cons_append, List.nil_append, if_true, if_false, Bool.false_eq_true, Bool.and_true, Bool.true_and, Bool.not_true, Bool.not_false, decide_true, decide_false, Nat.reduceAdd, Nat.reduceLT, Nat.zero_add, Nat.reduceLeDiff, ↓reduceIte, reduceCtorEq, Nat.reduceEqDiff, m1, m2, m3, m4, m5, md _ 2147483647 _ _ (by decide), md _ 2147483629 _ _ (by decide), md _ 2147483563 _ _ (by decide), md _ 1000003 _ _ (by decide), dv _ 7 _ _ (by decide) (by decide), dv _ 11 _ _ (by decide) (by decide), dv _ 5 _ _ (by decide) (by decide)]
    refine ⟨_, rfl, ?_, ?_⟩
    · omega
    · omega
  have ln : (PF.iL ns).length = ns.length := List.length_map ..
  cases ns with
  | nil =>
    obtain ⟨m, h, h1, h2⟩ := tail 0 (some (0, .lst []))
    refine ⟨m, fn_rt ?_, h1, h2⟩
    unfold B__law_mixed
    refine (seq_nx (asg_fr (by simp) rfl)).trans ((seq_nx (ρ' := [some (0, .lst []), some (0, .int k), some (0, .int 0), none, none, none]) ?_).trans h)
    exact if_f rfl
  | cons x r =>
    have hl : (0 : Int) < ((x :: r).length : Int) := by simp only [List.length_cons]; omega
    have hb := Int.emod_nonneg k (show ((x :: r).length : Int) ≠ 0 by omega)
    have hb2 := Int.emod_lt_of_pos k hl
    have hg : (PF.iL (x :: r))[(k % ((x :: r).length : Int)).toNat]? = some (.int ((x :: r)[(k % ((x :: r).length : Int)).toNat]'(by omega))) := by
      rw [List.getElem?_map, List.getElem?_eq_getElem (by omega)]
      rfl
    obtain ⟨m, h, h1, h2⟩ := tail ((x :: r)[(k % ((x :: r).length : Int)).toNat]'(by omega)) (some (0, .lst (PF.iL (x :: r))))
    refine ⟨m, fn_rt ?_, h1, h2⟩
    unfold B__law_mixed
    have e1 : (eOp iMod (eVar 1) (eUn eLenF (eVar 0))) [some (0, .lst (PF.iL (x :: r))), some (0, .int k), some (0, .int 0), none, none, none] = some (.int (k % ((x :: r).length : Int)), .fr 0) := by
      simp only [fnF, sSeq, sNil, sRet, sIf, sAsg, sAsgT, sPar, eVar, eC, eOp, eUn, eTup, eLst, aNil, aCons, eCall, tBl, tTru, tNotF, tAndF, tOrF, dBl, tru, add_i, sub_i, lt_i, le_i, gt_i, ge_i, int_i, abs_i, len_l, len_t, eq_i, ne_i, PF.scal, gTp, gNm, gsCons, gsNil, shr, eshr, elFl, pu_int, pu_bl, pu_str, pu_non, pu_tup, pu_nil, pu_cons, Option.bind_some, Option.map_some, Option.bind_none, List.getElem?_cons_zero, List.getElem?_cons_succ, List.set_cons_zero, List.set_cons_succ, List.length_cons, List.length_nil, List.map_cons, List.map_nil, List.replicate, List.cons_append, List.nil_append, if_true, if_false, Bool.false_eq_true, Bool.and_true, Bool.true_and, Bool.not_true, Bool.not_false, decide_true, decide_false, Nat.reduceAdd, Nat.reduceLT, Nat.zero_add, Nat.reduceLeDiff, ↓reduceIte, reduceCtorEq, Nat.reduceEqDiff, iMod_lit (a := k) (b := ((PF.iL r).length + 1 : Nat)) (by omega)]
      rw [show (PF.iL r).length = r.length from List.length_map ..]
    rw [seq_nx (asg_fr (by simp) rfl), seq_nx (ρ' := [some (0, .lst (PF.iL (x :: r))), some (0, .int k), some (0, .int ((x :: r)[(k % ((x :: r).length : Int)).toNat]'(by omega))), none, none, none]) ?_]
    · exact h
    · rw [if_t]
      · refine asg_sh (fl := .bo 0) (by simp) ?_ (fun k z => by cases z) rfl
        exact (op_ev (f := eVar 0) (x := (.lst (PF.iL (x :: r)), .bo 0)) rfl e1).trans (ix_l _ (by omega) hg)
      · simp only [fnF, sSeq, sNil, sRet, sIf, sAsg, sAsgT, sPar, eVar, eC, eOp, eUn, eTup, eLst, aNil, aCons, eCall, tBl, tTru, tNotF, tAndF, tOrF, dBl, tru, add_i, sub_i, lt_i, le_i, gt_i, ge_i, int_i, abs_i, len_l, len_t, eq_i, ne_i, PF.scal, gTp, gNm, gsCons, gsNil, shr, eshr, elFl, pu_int, pu_bl, pu_str, pu_non, pu_tup, pu_nil, pu_cons, Option.bind_some, Option.map_some, Option.bind_none, List.getElem?_cons_zero, List.getElem?_cons_succ, List.set_cons_zero, List.set_cons_succ, List.length_cons, List.length_nil, List.map_cons, List.map_nil, List.replicate, List.cons_append, List.nil_append, if_true, if_false, Bool.false_eq_true, Bool.and_true, Bool.true_and, Bool.not_true, Bool.not_false, decide_true, decide_false, Nat.reduceAdd, Nat.reduceLT, Nat.zero_add, Nat.reduceLeDiff, ↓reduceIte, reduceCtorEq, Nat.reduceEqDiff]
        rw [decide_eq_true (by omega)]
/-- the row: 100 numbers (or so many) -/
theorem row_ok (ns : List Int) (n : Nat) (hn : n ≤ 1000) : ∃ row : List Int, F__law_row [.lst (PF.iL ns), .int n] = some (.lst (PF.iL row), 1) ∧ row.length = n ∧ ∀ x ∈ row, 0 ≤ x ∧ x < 1000003 := by
  have tail : ∀ (c : Int), 0 ≤ c → ∃ row : List Int, (sSeq (sAsg 3 (eLst aNil))
    (sSeq (sFor (iRange1 (eVar 1)) (gNm 4)
    (sIf (tBl (eOp iGt (eVar 2) (eC (.int 0))))
    (sSeq (sAppend 3 (eOp iMod (eUn eIntF (eVar 2)) (eC (.int 1000))))
    (sAsg 2 (eOp iDiv (eVar 2) (eC (.int 1000)))))
    (sAppend 3 (eCall F__law_mixed (aCons (eVar 0) (aCons (eVar 4) aNil))))))
    (sRet (eVar 3)))) [some (0, .lst (PF.iL ns)), some (0, .int n), some (0, .int c), none, none] = some (.rt (.lst (PF.iL row)) 1) ∧ row.length = n ∧ ∀ x ∈ row, 0 ≤ x ∧ x < 1000003 := by
    intro c hc
    rw [seq_nx (asg_fr (d := .lst []) (k := 1) (by simp) rfl)]
    obtain ⟨ρ', h1, row, c', x4, h2, h3, h4, h5⟩ := for_range (g := gNm 4) (b := (sIf (tBl (eOp iGt (eVar 2) (eC (.int 0))))
    (sSeq (sAppend 3 (eOp iMod (eUn eIntF (eVar 2)) (eC (.int 1000))))
    (sAsg 2 (eOp iDiv (eVar 2) (eC (.int 1000)))))
    (sAppend 3 (eCall F__law_mixed (aCons (eVar 0) (aCons (eVar 4) aNil)))))) (n := n) (m := n) (lo := 0)
      (fun i ρ => ∃ (row : List Int) (c : Int) (x4 : Option (Nat × D)), ρ = [some (0, .lst (PF.iL ns)), some (0, .int n), some (0, .int c), some (1, .lst (PF.iL row)), x4] ∧ row.length = i ∧ 0 ≤ c ∧ ∀ x ∈ row, 0 ≤ x ∧ x < 1000003)
      (ρ := [some (0, .lst (PF.iL ns)), some (0, .int n), some (0, .int c), some (1, .lst []), none]) (by omega) ⟨[], c, none, rfl, rfl, hc, fun x m => by cases m⟩ (by
        rintro i ρ h0 hi ⟨row, c, x4, rfl, hl, hc, hr⟩
        refine ⟨[some (0, .lst (PF.iL ns)), some (0, .int n), some (0, .int c), some (1, .lst (PF.iL row)), some (0, .int i)], ?_⟩
        have hsz : (PF.iL row).length < sizeLine := by rw [show (PF.iL row).length = row.length from List.length_map .., hl, sizeLine_eq]; omega
        have ap : ∀ (x : Int), PF.iL row ++ [D.int x] = PF.iL (row ++ [x]) := fun x => by simp [PF.iL]
        by_cases hp : 0 < c
        · refine ⟨[some (0, .lst (PF.iL ns)), some (0, .int n), some (0, .int (c / 1000)), some (1, .lst (PF.iL (row ++ [c % 1000]))), some (0, .int i)], rfl, ?_, row ++ [c % 1000], c / 1000, _, rfl, by simp [hl], by omega, fun x m => ?_⟩
          · rw [if_t (by simp only [fnF, sSeq, sNil, sRet, sIf, sAsg, sAsgT, sPar, eVar, eC, eOp, eUn, eTup, eLst, aNil, aCons, eCall, tBl, tTru, tNotF, tAndF, tOrF, dBl, tru, add_i, sub_i, lt_i, le_i, gt_i, ge_i, int_i, abs_i, len_l, len_t, eq_i, ne_i, PF.scal, gTp, gNm, gsCons, gsNil, shr, eshr, elFl, pu_int, pu_bl, pu_str, pu_non, pu_tup, pu_nil, pu_cons, Option.bind_some, Option.map_some, Option.bind_none, List.getElem?_cons_zero, List.getElem?_cons_succ, List.set_cons_zero, List.set_cons_succ, List.length_cons, List.length_nil, List.map_cons, List.map_nil, List.replicate, List.cons_append, List.nil_append, if_true, if_false, Bool.false_eq_true, Bool.and_true, Bool.true_and, Bool.not_true, Bool.not_false, decide_true, decide_false, Nat.reduceAdd, Nat.reduceLT, Nat.zero_add, Nat.reduceLeDiff, ↓reduceIte, reduceCtorEq, Nat.reduceEqDiff]; rw [decide_eq_true hp])]
            refine (seq_nx (ρ' := [some (0, .lst (PF.iL ns)), some (0, .int n), some (0, .int c), some (1, .lst (PF.iL (row ++ [c % 1000]))), some (0, .int i)]) ?_).trans ?_
            · unfold sAppend
              rw [(op_ev (x := (.int c, .fr 0)) (y := (.int 1000, .fr 0)) rfl rfl).trans (iMod_lit (by decide)), Option.bind_some]
              simp only [fnF, sSeq, sNil, sRet, sIf, sAsg, sAsgT, sPar, eVar, eC, eOp, eUn, eTup, eLst, aNil, aCons, eCall, tBl, tTru, tNotF, tAndF, tOrF, dBl, tru, add_i, sub_i, lt_i, le_i, gt_i, ge_i, int_i, abs_i, len_l, len_t, eq_i, ne_i, PF.scal, gTp, gNm, gsCons, gsNil, shr, eshr, elFl, pu_int, pu_bl, pu_str, pu_non, pu_tup, pu_nil, pu_cons, Option.bind_some, Option.map_some, Option.bind_none, List.getElem?_cons_zero, List.getElem?_cons_succ, List.set_cons_zero, List.set_cons_succ, List.length_cons, List.length_nil, List.map_cons, List.map_nil, List.replicate, List.cons_append, List.nil_append, if_true, if_false, Bool.false_eq_true, Bool.and_true, Bool.true_and, Bool.not_true, Bool.not_false, decide_true, decide_false, Nat.reduceAdd, Nat.reduceLT, Nat.zero_add, Nat.reduceLeDiff, ↓reduceIte, reduceCtorEq, Nat.reduceEqDiff]
              rw [if_pos hsz]
              simp only [fnF, sSeq, sNil, sRet, sIf, sAsg, sAsgT, sPar, eVar, eC, eOp, eUn, eTup, eLst, aNil, aCons, eCall, tBl, tTru, tNotF, tAndF, tOrF, dBl, tru, add_i, sub_i, lt_i, le_i, gt_i, ge_i, int_i, abs_i, len_l, len_t, eq_i, ne_i, PF.scal, gTp, gNm, gsCons, gsNil, shr, eshr, elFl, pu_int, pu_bl, pu_str, pu_non, pu_tup, pu_nil, pu_cons, Option.bind_some, Option.map_some, Option.bind_none, List.getElem?_cons_zero, List.getElem?_cons_succ, List.set_cons_zero, List.set_cons_succ, List.length_cons, List.length_nil, List.map_cons, List.map_nil, List.replicate, List.cons_append, List.nil_append, if_true, if_false, Bool.false_eq_true, Bool.and_true, Bool.true_and, Bool.not_true, Bool.not_false, decide_true, decide_false, Nat.reduceAdd, Nat.reduceLT, Nat.zero_add, Nat.reduceLeDiff, ↓reduceIte, reduceCtorEq, Nat.reduceEqDiff, ap, and_self, if_pos]
            · exact asg_fr (by simp) ((op_ev (x := (.int c, .bo 0)) (y := (.int 1000, .fr 0)) rfl rfl).trans (iDiv_lit (by decide) (by decide)))
          · rcases List.mem_append.mp m with m | m
            · exact hr x m
            · simp at m
              omega
        · obtain ⟨m, e, m1, m2⟩ := mixed_ok ns i (by omega) (by omega)
          refine ⟨[some (0, .lst (PF.iL ns)), some (0, .int n), some (0, .int c), some (1, .lst (PF.iL (row ++ [m]))), some (0, .int i)], rfl, ?_, row ++ [m], c, _, rfl, by simp [hl], hc, fun x m' => ?_⟩
          · rw [if_f (by simp only [fnF, sSeq, sNil, sRet, sIf, sAsg, sAsgT, sPar, eVar, eC, eOp, eUn, eTup, eLst, aNil, aCons, eCall, tBl, tTru, tNotF, tAndF, tOrF, dBl, tru, add_i, sub_i, lt_i, le_i, gt_i, ge_i, int_i, abs_i, len_l, len_t, eq_i, ne_i, PF.scal, gTp, gNm, gsCons, gsNil, shr, eshr, elFl, pu_int, pu_bl, pu_str, pu_non, pu_tup, pu_nil, pu_cons, Option.bind_some, Option.map_some, Option.bind_none, List.getElem?_cons_zero, List.getElem?_cons_succ, List.set_cons_zero, List.set_cons_succ, List.length_cons, List.length_nil, List.map_cons, List.map_nil, List.replicate, List.cons_append, List.nil_append, if_true, if_false, Bool.false_eq_true, Bool.and_true, Bool.true_and, Bool.not_true, Bool.not_false, decide_true, decide_false, Nat.reduceAdd, Nat.reduceLT, Nat.zero_add, Nat.reduceLeDiff, ↓reduceIte, reduceCtorEq, Nat.reduceEqDiff]; rw [decide_eq_false hp])]
            unfold sAppend
            have e2 : eCall F__law_mixed (aCons (eVar 0) (aCons (eVar 4) aNil)) [some (0, .lst (PF.iL ns)), some (0, .int n), some (0, .int c), some (1, .lst (PF.iL row)), some (0, .int i)] = some (.int m, .fr 0) := by
              simp only [fnF, sSeq, sNil, sRet, sIf, sAsg, sAsgT, sPar, eVar, eC, eOp, eUn, eTup, eLst, aNil, aCons, eCall, tBl, tTru, tNotF, tAndF, tOrF, dBl, tru, add_i, sub_i, lt_i, le_i, gt_i, ge_i, int_i, abs_i, len_l, len_t, eq_i, ne_i, PF.scal, gTp, gNm, gsCons, gsNil, shr, eshr, elFl, pu_int, pu_bl, pu_str, pu_non, pu_tup, pu_nil, pu_cons, Option.bind_some, Option.map_some, Option.bind_none, List.getElem?_cons_zero, List.getElem?_cons_succ, List.set_cons_zero, List.set_cons_succ, List.length_cons, List.length_nil, List.map_cons, List.map_nil, List.replicate, List.cons_append, List.nil_append, if_true, if_false, Bool.false_eq_true, Bool.and_true, Bool.true_and, Bool.not_true, Bool.not_false, decide_true, decide_false, Nat.reduceAdd, Nat.reduceLT, Nat.zero_add, Nat.reduceLeDiff, ↓reduceIte, reduceCtorEq, Nat.reduceEqDiff, e]
              rfl
            rw [e2, Option.bind_some]
            simp only [fnF, sSeq, sNil, sRet, sIf, sAsg, sAsgT, sPar, eVar, eC, eOp, eUn, eTup, eLst, aNil, aCons, eCall, tBl, tTru, tNotF, tAndF, tOrF, dBl, tru, add_i, sub_i, lt_i, le_i, gt_i, ge_i, int_i, abs_i, len_l, len_t, eq_i, ne_i, PF.scal, gTp, gNm, gsCons, gsNil, shr, eshr, elFl, pu_int, pu_bl, pu_str, pu_non, pu_tup, pu_nil, pu_cons, Option.bind_some, Option.map_some, Option.bind_none, List.getElem?_cons_zero, List.getElem?_cons_succ, List.set_cons_zero, List.set_cons_succ, List.length_cons, List.length_nil, List.map_cons, List.map_nil, List.replicate, List.cons_append, List.nil_append, if_true, if_false, Bool.false_eq_true, Bool.and_true, Bool.true_and, Bool.not_true, Bool.not_false, decide_true, decide_false, Nat.reduceAdd, Nat.reduceLT, Nat.zero_add, Nat.reduceLeDiff, ↓reduceIte, reduceCtorEq, Nat.reduceEqDiff]
            rw [if_pos hsz]
            simp only [fnF, sSeq, sNil, sRet, sIf, sAsg, sAsgT, sPar, eVar, eC, eOp, eUn, eTup, eLst, aNil, aCons, eCall, tBl, tTru, tNotF, tAndF, tOrF, dBl, tru, add_i, sub_i, lt_i, le_i, gt_i, ge_i, int_i, abs_i, len_l, len_t, eq_i, ne_i, PF.scal, gTp, gNm, gsCons, gsNil, shr, eshr, elFl, pu_int, pu_bl, pu_str, pu_non, pu_tup, pu_nil, pu_cons, Option.bind_some, Option.map_some, Option.bind_none, List.getElem?_cons_zero, List.getElem?_cons_succ, List.set_cons_zero, List.set_cons_succ, List.length_cons, List.length_nil, List.map_cons, List.map_nil, List.replicate, List.cons_append, List.nil_append, if_true, if_false, Bool.false_eq_true, Bool.and_true, Bool.true_and, Bool.not_true, Bool.not_false, decide_true, decide_false, Nat.reduceAdd, Nat.reduceLT, Nat.zero_add, Nat.reduceLeDiff, ↓reduceIte, reduceCtorEq, Nat.reduceEqDiff, ap, and_self, if_pos]
          · rcases List.mem_append.mp m' with m' | m'
            · exact hr x m'
            · simp at m'
              omega)
    refine ⟨row, ?_, h3, h5⟩
    subst h2
    refine (seq_nx (ρ' := [some (0, .lst (PF.iL ns)), some (0, .int n), some (0, .int c'), some (1, .lst (PF.iL row)), x4]) ?_).trans (ret_bo (f := eVar 3) (k := 1) rfl)
    exact (for_ev (range1_ev (n := n) (fl := .bo 0) rfl (by omega))).trans h1
  have fin : ∀ c : Int, 0 ≤ c → sSeq (sAsg 2 (eC (.int 0))) (sIf (tAndF (tBl (eOp iGt (eUn eLenF (eVar 0)) (eC (.int 0)))) (tBl (eOp iGe (eOp eIxF (eVar 0) (eC (.int 0))) (eOp iPow (eC (.int 10)) (eC (.int 18))))))
    (sAsg 2 (eOp eIxF (eVar 0) (eC (.int 0))))
    sNil) [some (0, .lst (PF.iL ns)), some (0, .int n), none, none, none] = some (.nx [some (0, .lst (PF.iL ns)), some (0, .int n), some (0, .int c), none, none]) → ∃ row : List Int, F__law_row [.lst (PF.iL ns), .int n] = some (.lst (PF.iL row), 1) ∧ row.length = n ∧ ∀ x ∈ row, 0 ≤ x ∧ x < 1000003 := fun c hc h => by
    obtain ⟨row, h1, h2, h3⟩ := tail c hc
    refine ⟨row, fn_rt ?_, h2, h3⟩
    unfold B__law_row
    have h0 := (seq_nx (f := sAsg 2 (eC (.int 0))) (g := (sIf (tAndF (tBl (eOp iGt (eUn eLenF (eVar 0)) (eC (.int 0)))) (tBl (eOp iGe (eOp eIxF (eVar 0) (eC (.int 0))) (eOp iPow (eC (.int 10)) (eC (.int 18))))))
    (sAsg 2 (eOp eIxF (eVar 0) (eC (.int 0))))
    sNil)) (ρ := [some (0, .lst (PF.iL ns)), some (0, .int n), none, none, none]) (asg_fr (by simp) rfl)).symm.trans h
    exact (seq_nx (asg_fr (by simp) rfl)).trans ((seq_nx h0).trans h1)
  cases ns with
  | nil => exact fin 0 (by decide) rfl
  | cons x r =>
    have p : (eOp iPow (eC (.int 10)) (eC (.int 18))) [some (0, .lst (PF.iL (x :: r))), some (0, .int n), some (0, .int 0), none, none] = some (.int (10 ^ 18), .fr 0) := rfl
    have l0 : (tBl (eOp iGt (eUn eLenF (eVar 0)) (eC (.int 0)))) [some (0, .lst (PF.iL (x :: r))), some (0, .int n), some (0, .int 0), none, none] = some true := by
      simp only [fnF, sSeq, sNil, sRet, sIf, sAsg, sAsgT, sPar, eVar, eC, eOp, eUn, eTup, eLst, aNil, aCons, eCall, tBl, tTru, tNotF, tAndF, tOrF, dBl, tru, add_i, sub_i, lt_i, le_i, gt_i, ge_i, int_i, abs_i, len_l, len_t, eq_i, ne_i, PF.scal, gTp, gNm, gsCons, gsNil, shr, eshr, elFl, pu_int, pu_bl, pu_str, pu_non, pu_tup, pu_nil, pu_cons, Option.bind_some, Option.map_some, Option.bind_none, List.getElem?_cons_zero, List.getElem?_cons_succ, List.set_cons_zero, List.set_cons_succ, List.length_cons, List.length_nil, List.map_cons, List.map_nil, List.replicate, List.cons_append, List.nil_append, if_true, if_false, Bool.false_eq_true, Bool.and_true, Bool.true_and, Bool.not_true, Bool.not_false, decide_true, decide_false, Nat.reduceAdd, Nat.reduceLT, Nat.zero_add, Nat.reduceLeDiff, ↓reduceIte, reduceCtorEq, Nat.reduceEqDiff]
      rw [decide_eq_true (by omega)]
    have t0 : ∀ b : Bool, decide ((10 : Int) ^ 18 ≤ x) = b → (tAndF (tBl (eOp iGt (eUn eLenF (eVar 0)) (eC (.int 0)))) (tBl (eOp iGe (eOp eIxF (eVar 0) (eC (.int 0))) (eOp iPow (eC (.int 10)) (eC (.int 18)))))) [some (0, .lst (PF.iL (x :: r))), some (0, .int n), some (0, .int 0), none, none] = some b := fun b hb => by
      unfold tAndF
      rw [l0, Option.bind_some, if_pos rfl]
      unfold tBl
      rw [op_ev (x := (.int x, .bo 0)) ((op_ev (x := (.lst (PF.iL (x :: r)), .bo 0)) (y := (.int 0, .fr 0)) rfl rfl).trans (ix_l 0 rfl rfl)) p, ge_i, hb]
      rfl
    by_cases hx : (10 : Int) ^ 18 ≤ x
    · refine fin x (by omega) ((seq_nx (asg_fr (by simp) rfl)).trans ((if_t (t0 true (decide_eq_true hx))).trans ?_))
      exact asg_sh (fl := .bo 0) (by simp) ((op_ev (x := (.lst (PF.iL (x :: r)), .bo 0)) (y := (.int 0, .fr 0)) rfl rfl).trans (ix_l 0 rfl rfl)) (fun k z => by cases z) rfl
    · exact fin 0 (by decide) ((seq_nx (asg_fr (by simp) rfl)).trans (if_f (t0 false (decide_eq_false hx))))
end PFG

set_option Elab.async false
set_option linter.all false
set_option maxRecDepth 100000
set_option maxHeartbeats 4000000
namespace PFG
open PySem PySem.Spec PyProof.Rows L2 PF
/-- ints and tuples of such, at most n deep -/
def lkD : Nat → D → Bool
  | _, .int _ => true
  | n + 1, .tup ds => decide (ds.length ≤ 100000) && ds.all (lkD n)
  | _, _ => false
theorem lk_pu : ∀ (n : Nat) (d : D), lkD n d = true → puD d = true := fun n => by
  induction n with
  | zero => intro d h; cases d <;> simp [lkD] at h <;> rfl
  | succ n ih =>
    intro d h
    cases d <;> simp only [lkD] at h <;> first | rfl | (cases h) | skip
    rw [pu_tup]
    rw [Bool.and_eq_true, List.all_eq_true] at h
    exact puL_iff.mpr fun d m => ih d (h.2 d m)
theorem is_int_ok (i : Int) : F__law_is_int [.int i] = some (.bl true, 0) := rfl
theorem like_int (n : Nat) (i : Int) : F__law_like (n + 1) [.int i, .int i] = some (.bl true, 0) := by
  refine fn_rt ?_
  unfold B__law_like
  refine (seq_nx (if_f rfl)).trans ((seq_nx (if_f rfl)).trans ((seq_nx (if_f rfl)).trans ((seq_nx (if_f rfl)).trans ?_)))
  refine ret_fr ((and_tr (x := (.bl true, .fr 0)) rfl rfl).trans ((op_ev (x := (.int i, .bo 0)) (y := (.int i, .bo 0)) rfl rfl).trans ?_))
  rw [eq_i, decide_eq_true rfl]
/-- like of a datum and itself -/
theorem like_ok : ∀ (n : Nat) (d : D), lkD n d = true → F__law_like (n + 1) [d, d] = some (.bl true, 0) := fun n => by
  induction n with
  | zero =>
    intro d h
    cases d <;> simp [lkD] at h
    exact like_int 0 _
  | succ n ih =>
    intro d h
    cases d <;> simp only [lkD] at h <;> try (cases h; done)
    · exact like_int _ _
    · rename_i ds
      rw [Bool.and_eq_true, List.all_eq_true, decide_eq_true_eq] at h
      obtain ⟨hlen, h⟩ := h
      have hp : puL ds = true := puL_iff.mpr fun d m => lk_pu n d (h d m)
      refine fn_rt ?_
      unfold B__law_like
      refine (seq_nx (if_f rfl)).trans ((seq_nx (if_f rfl)).trans (seq_rt ((if_t rfl).trans ((seq_nx (if_f ?_)).trans ?_))))
      · have e1 : (tNotF (tTru (eUn (eIsF "tuple") (eVar 0)))) [some (0, .tup ds), some (0, .tup ds), none] = some false := rfl
        have e2 : (tBl (eOp eNeF (eUn eLenF (eVar 0)) (eUn eLenF (eVar 1)))) [some (0, .tup ds), some (0, .tup ds), none] = some false := by
          unfold tBl
          rw [op_ev (x := (.int ds.length, .fr 0)) (y := (.int ds.length, .fr 0)) rfl rfl, ne_i, decide_eq_true rfl]
          rfl
        show tOrF _ _ [some (0, .tup ds), some (0, .tup ds), none] = some false
        unfold tOrF
        rw [e1, Option.bind_some, e2]
        rfl
      · refine ret_fr (k := 0) ((un_ev (x := (.lst ((List.range ds.length).map fun _ => D.bl true), .fr 1)) ?_).trans ?_)
        · refine lc_all (l := List.range ds.length) (fun (i : Nat) => D.int (0 + (i : Int))) (fun _ => D.bl true) (fun _ => .fr 0) (range1_map (n := ds.length) (fl := .fr 0) rfl (by omega)) (fun i mi => ?_) (fun _ _ => ⟨rfl, .inl rfl⟩) (by rw [List.length_range, sizeLine_eq]; omega)
          rw [List.mem_range] at mi
          have eg : ds[i]? = some ds[i] := List.getElem?_eq_getElem mi
          refine ⟨[some (0, .tup ds), some (0, .tup ds), some (0, .int (0 + (i : Int)))], rfl, ?_⟩
          have e0 : eOp eIxF (eVar 0) (eVar 2) [some (0, .tup ds), some (0, .tup ds), some (0, .int (0 + (i : Int)))] = some (ds[i], .fr 0) := (op_ev (x := (.tup ds, .bo 0)) (y := (.int (0 + (i : Int)), .bo 0)) rfl rfl).trans (ix_t i (by omega) eg rfl)
          have e1 : eOp eIxF (eVar 1) (eVar 2) [some (0, .tup ds), some (0, .tup ds), some (0, .int (0 + (i : Int)))] = some (ds[i], .fr 0) := (op_ev (x := (.tup ds, .bo 0)) (y := (.int (0 + (i : Int)), .bo 0)) rfl rfl).trans (ix_t i (by omega) eg rfl)
          exact call2 (G := F__law_like (n + 1)) e0 e1 (ih ds[i] (h _ (List.getElem_mem mi)))
        · have e3 : ((List.range ds.length).map fun _ => D.bl true) = ((List.range ds.length).map fun _ => true).map D.bl := by rw [List.map_map]; rfl
          rw [e3, all_ev]
          have e4 : ((List.range ds.length).map fun _ => true).all id = true := by
            rw [List.all_eq_true]
            intro b mb
            obtain ⟨_, _, rfl⟩ := List.mem_map.mp mb
            rfl
          rw [e4]
end PFG

set_option Elab.async false
set_option linter.all false
set_option maxRecDepth 100000
set_option maxHeartbeats 4000000
namespace PFG
open PySem PySem.Spec PyProof.Rows L2 PF
theorem par_ev {i j : Nat} {f g : EF} {ρ : PF.Env} {x y : DF} (hi : i < ρ.length ∧ j < ρ.length) (h1 : f ρ = some x) (h2 : g ρ = some y) (s1 : shr x.1 x.2 = true) (s2 : shr y.1 y.2 = true) :
    sPar i j (aCons f (aCons g aNil)) ρ = some (.nx ((ρ.set i (some (0, x.1))).set j (some (0, y.1)))) := by
  unfold sPar
  rw [if_pos hi]
  simp only [aCons, aNil, h1, h2, Option.bind_some, s1, s2, Bool.and_true]
/-- Euclid -/
theorem common_loop (g : Nat) (N : Nat) (hN : N + 1 < 1000000) (a b : Nat) (h : a * b < 2 ^ N) (hg : Nat.gcd a b = g) :
    ∃ ρ', sWhile (tBl (eOp iGt (eVar 1) (eC (.int 0)))) (sPar 0 1 (aCons (eVar 1) (aCons (eOp iMod (eUn eIntF (eVar 0)) (eVar 1)) aNil))) [some (0, .int a), some (0, .int b)] = some (.nx ρ') ∧ ρ' = [some (0, .int g), some (0, .int 0)] := by
  refine while_rule (fun n ρ => ∃ a b : Nat, ρ = [some (0, .int a), some (0, .int b)] ∧ Nat.gcd a b = g ∧ ((b ≤ a ∧ a * b < 2 ^ n) ∨ (n = N + 1 ∧ a * b < 2 ^ N))) (n := N + 1) ⟨a, b, rfl, hg, .inr ⟨rfl, h⟩⟩ hN ?_
  rintro n ρ ⟨a, b, rfl, hg, hm⟩
  by_cases hb : b = 0
  · subst hb
    refine .inl ⟨rfl, ?_⟩
    rw [Nat.gcd_zero_right] at hg
    rw [hg]
    rfl
  · refine .inr ⟨?_, ?_⟩
    · unfold tBl
      rw [op_ev (x := (.int b, .bo 0)) (y := (.int 0, .fr 0)) rfl rfl, gt_i, decide_eq_true (by omega)]
      rfl
    · have hmod : eOp iMod (eUn eIntF (eVar 0)) (eVar 1) [some (0, .int a), some (0, .int b)] = some (.int ((a % b : Nat) : Int), .fr 0) := by
        rw [op_ev (x := (.int a, .fr 0)) (y := (.int b, .bo 0)) rfl rfl, iMod_lit (by omega)]
        rfl
      have hg2 : Nat.gcd b (a % b) = g := by
        rw [← hg, Nat.gcd_comm b, ← Nat.gcd_rec, Nat.gcd_comm]
      have hlt : a % b < b := Nat.mod_lt _ (by omega)
      rcases hm with ⟨hab, hm⟩ | ⟨rfl, hm⟩
      · have hn : n ≠ 0 := fun z => by
          subst z
          have : 1 ≤ a * b := Nat.mul_pos (by omega) (by omega)
          omega
        obtain ⟨k, rfl⟩ : ∃ k, n = k + 1 := ⟨n - 1, by omega⟩
        refine ⟨_, k, par_ev (x := (.int b, .bo 0)) ⟨by simp, by simp⟩ rfl hmod rfl rfl, by omega, b, a % b, rfl, hg2, .inl ⟨by omega, ?_⟩⟩
        have h2 : 2 * (a % b) ≤ a := by
          have e := Nat.div_add_mod a b
          have q : 1 ≤ a / b := Nat.div_pos hab (by omega)
          have : b ≤ b * (a / b) := Nat.le_mul_of_pos_right b q
          omega
        have h3 : b * (2 * (a % b)) ≤ b * a := Nat.mul_le_mul_left b h2
        rw [Nat.pow_succ] at hm
        have e4 : b * (2 * (a % b)) = 2 * (b * (a % b)) := by rw [← Nat.mul_assoc, Nat.mul_comm b 2, Nat.mul_assoc]
        have e5 : b * a = a * b := Nat.mul_comm _ _
        omega
      · refine ⟨_, N, par_ev (x := (.int b, .bo 0)) ⟨by simp, by simp⟩ rfl hmod rfl rfl, by omega, b, a % b, rfl, hg2, .inl ⟨by omega, ?_⟩⟩
        have : b * (a % b) ≤ b * a := Nat.mul_le_mul_left b (Nat.mod_le _ _)
        have e5 : b * a = a * b := Nat.mul_comm _ _
        omega
theorem common_ok (a b : Nat) (h : a * b < 2 ^ 1000) : F__law_common [.int a, .int b] = some (.int (Nat.gcd a b), 0) := by
  obtain ⟨ρ', h1, rfl⟩ := common_loop _ 1000 (by decide) a b h rfl
  refine fn_rt ?_
  unfold B__law_common
  have e0 : eUn eAbsF (eVar 0) [some (0, .int a), some (0, .int b)] = some (.int a, .fr 0) := by
    rw [un_ev (x := (.int a, .bo 0)) rfl, abs_i, if_neg (by omega)]
  have e1 : eUn eAbsF (eVar 1) [some (0, .int a), some (0, .int b)] = some (.int b, .fr 0) := by
    rw [un_ev (x := (.int b, .bo 0)) rfl, abs_i, if_neg (by omega)]
  exact (seq_nx (par_ev (x := (.int a, .fr 0)) (y := (.int b, .fr 0)) ⟨by simp, by simp⟩ e0 e1 rfl rfl)).trans ((seq_nx h1).trans (ret_bo (k := 0) rfl))
theorem div_ev {a b : Int} {x y : Fl} (h0 : 0 < b) (h : b < 2 ^ 64) : iDiv (.int a, x) (.int b, y) = some (.int (a / b), .fr 0) := iDiv_lit h0 h
def ratD (a b : Nat) : D := .tup [.int ((a / Nat.gcd a b : Nat) : Int), .int ((b / Nat.gcd a b : Nat) : Int)]
theorem tup2_ev {f g : EF} {ρ : PF.Env} {x y : DF} (h1 : f ρ = some x) (h2 : g ρ = some y) (s1 : shr x.1 x.2 = true) (s2 : shr y.1 y.2 = true) : eTup (aCons f (aCons g aNil)) ρ = some (.tup [x.1, y.1], .fr 0) := by
  unfold eTup
  simp only [aCons, aNil, h1, h2, Option.bind_some, s1, s2, Bool.and_true, List.length_cons, List.length_nil]
  rw [if_pos (by rw [sizeLine_eq]; omega)]
  rfl
theorem law_ratio_ok (a b : Nat) (hb : 0 < b) (h : a * b < 2 ^ 1000) (hb2 : b < 2 ^ 64) : F__law_ratio [.int a, .int b] = some (ratD a b, 0) := by
  have gp : 0 < Nat.gcd a b := Nat.gcd_pos_of_pos_right _ hb
  have gl : Nat.gcd a b ≤ b := Nat.gcd_le_right _ hb
  refine fn_rt ?_
  unfold B__law_ratio
  refine (seq_nx (ρ' := [some (0, .int a), some (0, .int b), some (0, .int (Nat.gcd a b))]) (asg_fr (k := 0) (by simp) (call2 (x := (.int a, .bo 0)) (y := (.int b, .bo 0)) rfl rfl (common_ok a b h)))).trans ?_
  refine (seq_nx (if_f ?_)).trans ?_
  · unfold tBl
    rw [op_ev (x := (.int b, .bo 0)) (y := (.int 0, .fr 0)) rfl rfl, lt_i, decide_eq_false (by omega)]
    rfl
  · refine ret_fr (k := 0) ((tup2_ev (x := (.int ((a / Nat.gcd a b : Nat) : Int), .fr 0)) (y := (.int ((b / Nat.gcd a b : Nat) : Int), .fr 0)) ?_ ?_ rfl rfl).trans rfl)
    · rw [op_ev (x := (.int a, .bo 0)) (y := (.int (Nat.gcd a b), .bo 0)) rfl rfl, div_ev (by omega) (by omega)]
      rfl
    · rw [op_ev (x := (.int b, .bo 0)) (y := (.int (Nat.gcd a b), .bo 0)) rfl rfl, div_ev (by omega) (by omega)]
      rfl
theorem ratio_ok (a b : Nat) (hb : 0 < b) (hb2 : b < 2 ^ 64) : F__ratio [.int a, .int b] = some (ratD a b, 0) := by
  have gp : 0 < Nat.gcd a b := Nat.gcd_pos_of_pos_right _ hb
  have gl : Nat.gcd a b ≤ b := Nat.gcd_le_right _ hb
  refine fn_rt ?_
  unfold B__ratio
  refine (seq_nx (ρ' := [some (0, .int a), some (0, .int b), some (0, .int (Nat.gcd a b))]) (asg_fr (k := 0) (by simp) ((op_ev (x := (.int a, .bo 0)) (y := (.int b, .bo 0)) rfl rfl).trans rfl))).trans ?_
  refine ret_fr (k := 0) ((tup2_ev (x := (.int ((a / Nat.gcd a b : Nat) : Int), .fr 0)) (y := (.int ((b / Nat.gcd a b : Nat) : Int), .fr 0)) ?_ ?_ rfl rfl).trans rfl)
  · rw [op_ev (x := (.int a, .bo 0)) (y := (.int (Nat.gcd a b), .bo 0)) rfl rfl, div_ev (by omega) (by omega)]
    rfl
  · rw [op_ev (x := (.int b, .bo 0)) (y := (.int (Nat.gcd a b), .bo 0)) rfl rfl, div_ev (by omega) (by omega)]
    rfl
end PFG

set_option Elab.async false
set_option linter.all false
set_option maxRecDepth 100000
set_option maxHeartbeats 4000000
namespace PFG
open PySem PySem.Spec PyProof.Rows L2 PF
abbrev nL (l : List Nat) : List D := l.map fun (c : Nat) => D.int (c : Int)
theorem nL_iL (l : List Nat) : nL l = PF.iL (l.map fun (c : Nat) => (c : Int)) := by simp [PF.iL]
theorem pu_nL (l : List Nat) : puL (nL l) = true := by rw [nL_iL]; exact pu_ints _
theorem iL_get {row : List Int} {i : Nat} (h : i < row.length) : (PF.iL row)[i]? = some (.int row[i]) := by rw [List.getElem?_map, List.getElem?_eq_getElem h]; rfl
theorem nL_get {row : List Nat} {i : Nat} (h : i < row.length) : (nL row)[i]? = some (.int (row[i] : Int)) := by rw [List.getElem?_map, List.getElem?_eq_getElem h]; rfl
/-- a row is given -/
structure Row (row : List Int) : Prop where
  len : row.length = 100
  ge : ∀ x ∈ row, 0 ≤ x ∧ x < 1000003
theorem row_at {row : List Int} (R : Row row) {i : Nat} (hi : i < 100) : ∃ x : Nat, x < 1000003 ∧ row[i]? = some (x : Int) := by
  have hl : i < row.length := by rw [R.len]; exact hi
  obtain ⟨h1, h2⟩ := R.ge _ (List.getElem_mem hl)
  exact ⟨row[i].toNat, by omega, by rw [List.getElem?_eq_getElem hl]; congr 1; omega⟩
theorem row_ev {row : List Int} {f : EF} {ρ : PF.Env} {i x : Nat} {fl : Fl} (hx : row[i]? = some (x : Int)) (h0 : ρ[0]? = some (some (0, .lst (PF.iL row)))) (hf : f ρ = some (.int i, fl)) : eUn eIntF (eOp eIxF (eVar 0) f) ρ = some (.int x, .fr 0) := by
  have e0 : eVar 0 ρ = some (.lst (PF.iL row), .bo 0) := by unfold eVar; rw [h0]
  have hg : (PF.iL row)[i]? = some (.int x) := by rw [List.getElem?_map, hx]; rfl
  rw [un_ev (x := (.int x, .bo 0)) ((op_ev e0 hf).trans (ix_l i rfl hg)), int_i]
theorem row_ix {row : List Int} (R : Row row) {f : EF} {ρ : PF.Env} {i : Nat} {fl : Fl} (h0 : ρ[0]? = some (some (0, .lst (PF.iL row)))) (hf : f ρ = some (.int i, fl)) (hi : i < 100) :
    ∃ x : Nat, x < 1000003 ∧ row[i]? = some (x : Int) ∧ eUn eIntF (eOp eIxF (eVar 0) f) ρ = some (.int x, .fr 0) := by
  have hl : i < row.length := by rw [R.len]; exact hi
  obtain ⟨h1, h2⟩ := R.ge _ (List.getElem_mem hl)
  refine ⟨row[i].toNat, by omega, by rw [List.getElem?_eq_getElem hl]; congr 1; omega, ?_⟩
  have e0 : eVar 0 ρ = some (.lst (PF.iL row), .bo 0) := by unfold eVar; rw [h0]
  rw [un_ev (x := (.int row[i], .bo 0)) ((op_ev e0 hf).trans (ix_l i rfl (iL_get hl))), int_i]
  congr 3
  omega
theorem tuple_ev {f : EF} {ρ : PF.Env} {l : List D} {k : Nat} (h : f ρ = some (.lst l, .fr k)) : eUn eTupleF f ρ = some (.tup l, .fr 0) := by
  rw [un_ev h]
  rfl
/-- things -/
structure Things (n : Nat) (ts : List Nat) : Prop where
  len : ts.length ≤ n
  ge : ∀ t ∈ ts, 1 ≤ t ∧ t ≤ 6
theorem things_ok {row : List Int} (R : Row row) (at_ : Nat) (h : at_ + 12 ≤ 100) : ∃ ts, Things 10 ts ∧ F__law_things [.lst (PF.iL row), .int at_] = some (.tup (nL ts), 0) := by
  obtain ⟨x, hx, _, e1⟩ := row_ix R (f := eVar 1) (ρ := [some (0, .lst (PF.iL row)), some (0, .int at_), none]) (i := at_) (fl := .bo 0) rfl rfl (by omega)
  have e2 : eOp iMod (eUn eIntF (eOp eIxF (eVar 0) (eVar 1))) (eC (.int 11)) [some (0, .lst (PF.iL row)), some (0, .int at_), none] = some (.int ((x % 11 : Nat) : Int), .fr 0) := by
    rw [op_ev (y := (.int 11, .fr 0)) e1 rfl, iMod_lit (by decide)]
    rfl
  have hx11 : x % 11 < 11 := Nat.mod_lt _ (by decide)
  have item : ∀ k : Nat, k < 11 → ∃ v : Nat, (1 ≤ v ∧ v ≤ 6) ∧ (eOp eAddF (eC (.int 1)) (eOp iMod (eUn eIntF (eOp eIxF (eVar 0) (eOp eAddF (eOp eAddF (eVar 1) (eC (.int 1))) (eVar 2)))) (eC (.int 6)))) [some (0, .lst (PF.iL row)), some (0, .int at_), some (0, .int (0 + (k : Int)))] = some (.int v, .fr 0) := fun k hk => by
    obtain ⟨y, hy, _, e3⟩ := row_ix R (f := (eOp eAddF (eOp eAddF (eVar 1) (eC (.int 1))) (eVar 2))) (ρ := [some (0, .lst (PF.iL row)), some (0, .int at_), some (0, .int (0 + (k : Int)))]) (i := at_ + 1 + k) (fl := .fr 0) rfl (by
      simp only [fnF, sSeq, sNil, sRet, sIf, sAsg, sAsgT, sPar, eVar, eC, eOp, eUn, eTup, eLst, aNil, aCons, eCall, tBl, tTru, tNotF, tAndF, tOrF, dBl, tru, add_i, sub_i, lt_i, le_i, gt_i, ge_i, int_i, abs_i, len_l, len_t, eq_i, ne_i, PF.scal, gTp, gNm, gsCons, gsNil, shr, eshr, elFl, pu_int, pu_bl, pu_str, pu_non, pu_tup, pu_nil, pu_cons, Option.bind_some, Option.map_some, Option.bind_none, List.getElem?_cons_zero, List.getElem?_cons_succ, List.set_cons_zero, List.set_cons_succ, List.length_cons, List.length_nil, List.map_cons, List.map_nil, List.replicate, List.cons_append, List.nil_append, if_true, if_false, Bool.false_eq_true, Bool.and_true, Bool.true_and, Bool.not_true, Bool.not_false, decide_true, decide_false, Nat.reduceAdd, Nat.reduceLT, Nat.zero_add, Nat.reduceLeDiff, ↓reduceIte, reduceCtorEq, Nat.reduceEqDiff]
      congr 3
      omega) (by omega)
    refine ⟨1 + y % 6, by omega, ?_⟩
    rw [op_ev (x := (.int 1, .fr 0)) rfl ((op_ev (y := (.int 6, .fr 0)) e3 rfl).trans (iMod_lit (by decide))), add_i]
    rfl
  refine ⟨(List.range (x % 11)).map fun k => if hk : k < 11 then Classical.choose (item k hk) else 0, ⟨by simp; omega, fun t m => ?_⟩, fn_rt (ret_fr (k := 0) (tuple_ev (k := 1) ?_))⟩
  · obtain ⟨k, mk, rfl⟩ := List.mem_map.mp m
    rw [List.mem_range] at mk
    rw [dif_pos (show k < 11 by omega)]
    exact (Classical.choose_spec (item k (by omega))).1
  · refine (lc_all (l := List.range (x % 11)) (fun (i : Nat) => D.int (0 + (i : Int))) (fun k => D.int ((if hk : k < 11 then Classical.choose (item k hk) else 0 : Nat) : Int)) (fun _ => .fr 0) (range1_map e2 (by omega)) (fun k mk => ?_) (fun _ _ => ⟨rfl, .inl rfl⟩) (by rw [List.length_range, sizeLine_eq]; omega)).trans ?_
    · rw [List.mem_range] at mk
      refine ⟨[some (0, .lst (PF.iL row)), some (0, .int at_), some (0, .int (0 + (k : Int)))], rfl, ?_⟩
      rw [dif_pos (show k < 11 by omega)]
      exact (Classical.choose_spec (item k (by omega))).2
    · simp only [nL, List.map_map]
      rfl
theorem set_ev {i : Nat} {fi f : EF} {ρ : PF.Env} {x y : DF} {ds : List D} {j : Nat} (h0 : ρ[i]? = some (some (1, .lst ds))) (h1 : f ρ = some x) (h2 : fi ρ = some (.int j, y.2)) (hj : j < ds.length) (hs : shr x.1 x.2 = true) :
    sSetI i fi f ρ = some (.nx (ρ.set i (some (1, .lst (ds.set j x.1))))) := by
  unfold sSetI
  rw [h1, Option.bind_some, h2, Option.bind_some, h0]
  simp only
  rw [ixN_of rfl hj]
  simp only
  rw [if_pos hs]
abbrev tsD (tss : List (List Nat)) : List D := tss.map fun ts => .tup (nL ts)
theorem add_t {xs ys : List D} {f g : Fl} (hl : xs.length + ys.length ≤ sizeLine) (hf : shr (.tup xs) f = true) (hg : shr (.tup ys) g = true) : eAddF (.tup xs, f) (.tup ys, g) = some (.tup (xs ++ ys), .fr 0) := by
  simp only [eAddF]
  rw [if_pos hl, hf, hg]
  rfl
theorem th_append {n m : Nat} {a b : List Nat} (ha : Things n a) (hb : Things m b) : Things (n + m) (a ++ b) := ⟨by rw [List.length_append]; have := ha.len; have := hb.len; omega, fun t mt => (List.mem_append.mp mt).elim (ha.ge t) (hb.ge t)⟩
theorem th_mono {n m : Nat} {a : List Nat} (h : n ≤ m) (ha : Things n a) : Things m a := ⟨by have := ha.len; omega, ha.ge⟩
/-- all things: one to six lists -/
theorem all_things_ok {row : List Int} (R : Row row) : ∃ tss : List (List Nat), 1 ≤ tss.length ∧ tss.length ≤ 6 ∧ (∀ ts ∈ tss, Things 20 ts) ∧ F__law_all_things [.lst (PF.iL row)] = some (.lst (tsD tss), 1) := by
  obtain ⟨x0, hx0, _, e0⟩ := row_ix R (f := eC (.int 0)) (ρ := [some (0, .lst (PF.iL row)), none, none, none]) (i := 0) (fl := .fr 0) rfl rfl (by omega)
  have e1 : eOp eAddF (eC (.int 1)) (eOp iMod (eUn eIntF (eOp eIxF (eVar 0) (eC (.int 0)))) (eC (.int 6))) [some (0, .lst (PF.iL row)), none, none, none] = some (.int ((1 + x0 % 6 : Nat) : Int), .fr 0) := by
    rw [op_ev (x := (.int 1, .fr 0)) rfl ((op_ev (y := (.int 6, .fr 0)) e0 rfl).trans (iMod_lit (by decide))), add_i]
    rfl
  have hx6 : x0 % 6 < 6 := Nat.mod_lt _ (by decide)
  have item : ∀ k : Nat, k < 6 → ∃ ts, Things 10 ts ∧ F__law_things [.lst (PF.iL row), .int ((4 + 12 * k : Nat) : Int)] = some (.tup (nL ts), 0) := fun k hk => things_ok R (4 + 12 * k) (by omega)
  have hsz : ∀ (tss : List (List Nat)) (l : List D), (∀ ts ∈ tss, Things 10 ts) → (tsD tss)[0]? = none ∨ ∃ ts, Things 10 ts ∧ (tsD tss)[0]? = some (.tup (nL ts)) := fun tss _ h => by
    cases tss with
    | nil => exact .inl rfl
    | cons a r => exact .inr ⟨a, h a List.mem_cons_self, rfl⟩
  -- what was drawn
  obtain ⟨tss, hl, ht, h1⟩ : ∃ tss : List (List Nat), tss.length = 1 + x0 % 6 ∧ (∀ ts ∈ tss, Things 10 ts) ∧ sAsg 1 (eLc (iRange1 (eOp eAddF (eC (.int 1)) (eOp iMod (eUn eIntF (eOp eIxF (eVar 0) (eC (.int 0)))) (eC (.int 6))))) (gNm 2) tYesF [2] (eCall F__law_things (aCons (eVar 0) (aCons (eOp eAddF (eC (.int 4)) (eOp eMulF (eC (.int 12)) (eVar 2))) aNil)))) [some (0, .lst (PF.iL row)), none, none, none] = some (.nx [some (0, .lst (PF.iL row)), some (1, .lst (tsD tss)), none, none]) := by
    refine ⟨(List.range (1 + x0 % 6)).map fun k => if hk : k < 6 then Classical.choose (item k hk) else [], by simp, fun t m => ?_, ?_⟩
    · obtain ⟨k, mk, rfl⟩ := List.mem_map.mp m
      rw [List.mem_range] at mk
      rw [dif_pos (show k < 6 by omega)]
      exact (Classical.choose_spec (item k (by omega))).1
    · refine (asg_fr (k := 1) (d := .lst ((List.range (1 + x0 % 6)).map fun k => .tup (nL (if hk : k < 6 then Classical.choose (item k hk) else [])))) (by simp) ?_).trans ?_
      · refine lc_all (l := List.range (1 + x0 % 6)) (fun (i : Nat) => D.int (0 + (i : Int))) _ (fun _ => .fr 0) (range1_map e1 (by omega)) (fun k mk => ?_) (fun _ _ => ⟨rfl, .inl rfl⟩) (by rw [List.length_range, sizeLine_eq]; omega)
        rw [List.mem_range] at mk
        refine ⟨[some (0, .lst (PF.iL row)), none, some (0, .int (0 + (k : Int))), none], rfl, ?_⟩
        rw [dif_pos (show k < 6 by omega)]
        have e3 : (eOp eAddF (eC (.int 4)) (eOp eMulF (eC (.int 12)) (eVar 2))) [some (0, .lst (PF.iL row)), none, some (0, .int (0 + (k : Int))), none] = some (.int ((4 + 12 * k : Nat) : Int), .fr 0) := by
          rw [op_ev (x := (.int 4, .fr 0)) rfl ((op_ev (x := (.int 12, .fr 0)) (y := (.int (0 + (k : Int)), .bo 0)) rfl rfl).trans (mul_l (by decide))), add_i]
          congr 3
          omega
        refine (call2 (x := (.lst (PF.iL row), .bo 0)) rfl e3 (Classical.choose_spec (item k (by omega))).2).trans ?_
        rw [callFl_pu (by rw [pu_tup]; exact pu_nL _)]
      · simp only [tsD, List.map_map]
        rfl
  -- the two changes
  obtain ⟨x1, hx1, hr1⟩ := row_at R (i := 1) (by omega)
  have tl : (tsD tss).length = tss.length := by simp [tsD]
  have cond : ∀ (r : Nat) (tss : List (List Nat)), r < 4 → (tAndF (tBl (eOp iGt (eUn eLenF (eVar 1)) (eC (.int 1)))) (tBl (eOp eEqF (eOp iMod (eUn eIntF (eOp eIxF (eVar 0) (eC (.int 1)))) (eC (.int 4))) (eC (.int r))))) [some (0, .lst (PF.iL row)), some (1, .lst (tsD tss)), none, none] = some (decide (1 < tss.length) && decide (x1 % 4 = r)) := fun r tss hr => by
    have tl : (tsD tss).length = tss.length := by simp [tsD]
    have e4 := row_ev (f := eC (.int 1)) (ρ := [some (0, .lst (PF.iL row)), some (1, .lst (tsD tss)), none, none]) (fl := .fr 0) hr1 rfl rfl
    have a1 : (tBl (eOp iGt (eUn eLenF (eVar 1)) (eC (.int 1)))) [some (0, .lst (PF.iL row)), some (1, .lst (tsD tss)), none, none] = some (decide (1 < tss.length)) := by
      unfold tBl
      rw [op_ev (x := (.int (tsD tss).length, .fr 0)) (y := (.int 1, .fr 0)) rfl rfl, gt_i, tl]
      show some _ = some _
      congr 1
      apply decide_eq_decide.mpr
      omega
    have a2 : (tBl (eOp eEqF (eOp iMod (eUn eIntF (eOp eIxF (eVar 0) (eC (.int 1)))) (eC (.int 4))) (eC (.int r)))) [some (0, .lst (PF.iL row)), some (1, .lst (tsD tss)), none, none] = some (decide (x1 % 4 = r)) := by
      unfold tBl
      rw [op_ev (y := (.int r, .fr 0)) ((op_ev (y := (.int 4, .fr 0)) e4 rfl).trans (iMod_lit (by decide))) rfl, eq_i]
      show some _ = some _
      congr 1
      apply decide_eq_decide.mpr
      omega
    unfold tAndF
    rw [a1, Option.bind_some, a2]
    cases decide (1 < tss.length) <;> rfl
  have get0 : 1 < tss.length → ∃ t0, Things 10 t0 ∧ (tsD tss)[0]? = some (.tup (nL t0)) ∧ (eOp eIxF (eVar 1) (eC (.int 0))) [some (0, .lst (PF.iL row)), some (1, .lst (tsD tss)), none, none] = some (.tup (nL t0), .bo 0) := fun h => by
    rcases hsz tss [] ht with e | ⟨t0, h0, e⟩
    · exfalso
      rw [List.getElem?_eq_none_iff, tl] at e
      omega
    · exact ⟨t0, h0, e, (op_ev (x := (.lst (tsD tss), .bo 1)) (y := (.int 0, .fr 0)) rfl rfl).trans (ix_l 0 rfl e)⟩
  have c0 := cond 0 tss (by decide)
  have stay : ∀ ts ∈ tss, Things 20 ts := fun ts m => th_mono (by decide) (ht ts m)
  have setD : ∀ t, (tsD tss).set 1 (.tup (nL t)) = tsD (tss.set 1 t) := fun t => by simp [tsD]
  have setT : ∀ t, Things 20 t → ∀ ts ∈ tss.set 1 t, Things 20 ts := fun t h ts m => by
    rcases List.mem_or_eq_of_mem_set m with m | rfl
    · exact stay ts m
    · exact h
  by_cases hn : 1 < tss.length
  · obtain ⟨t0, h0, g0, eg0⟩ := get0 hn
    have l0 : (nL t0).length = t0.length := by simp [nL]
    have shn : ∀ f : Fl, shr (.tup (nL t0)) f = true := fun f => shr_pu (by rw [pu_tup, pu_nL])
    by_cases h4 : x1 % 4 = 0
    · -- twice over
      rw [decide_eq_true hn, decide_eq_true h4] at c0
      have c1 := cond 1 (tss.set 1 (t0 ++ t0)) (by decide)
      rw [decide_eq_false (show ¬ x1 % 4 = 1 by omega), Bool.and_false] at c1
      have hA := (op_ev eg0 eg0).trans (add_t (by rw [l0, sizeLine_eq]; have := h0.len; omega) (shn _) (shn _))
      refine ⟨tss.set 1 (t0 ++ t0), by rw [List.length_set]; omega, by rw [List.length_set]; omega, setT _ (th_mono (by decide) (th_append h0 h0)), fn_rt ?_⟩
      unfold B__law_all_things
      refine (seq_nx h1).trans ((seq_nx (ρ' := [some (0, .lst (PF.iL row)), some (1, .lst (tsD (tss.set 1 (t0 ++ t0)))), none, none]) ((if_t c0).trans ((set_ev (y := (.int 1, .fr 0)) (j := 1) rfl hA rfl (by rw [tl]; exact hn) rfl).trans ?_))).trans ((seq_nx (if_f c1)).trans (ret_bo (k := 1) rfl)))
      rw [show nL t0 ++ nL t0 = nL (t0 ++ t0) by simp [nL], setD]
      rfl
    · rw [decide_eq_false h4, Bool.and_false] at c0
      have c1 := cond 1 tss (by decide)
      by_cases h5 : x1 % 4 = 1
      · -- in another order
        rw [decide_eq_true hn, decide_eq_true h5] at c1
        have e5 : eOp iDiv (eUn eLenF (eOp eIxF (eVar 1) (eC (.int 0)))) (eC (.int 2)) [some (0, .lst (PF.iL row)), some (1, .lst (tsD tss)), none, none] = some (.int ((t0.length / 2 : Nat) : Int), .fr 0) := by
          rw [op_ev (x := (.int (nL t0).length, .fr 0)) (y := (.int 2, .fr 0)) ((un_ev eg0).trans rfl) rfl, iDiv_lit (by decide) (by decide), l0]
          rfl
        have eg1 : (eOp eIxF (eVar 1) (eC (.int 0))) [some (0, .lst (PF.iL row)), some (1, .lst (tsD tss)), none, some (0, .int ((t0.length / 2 : Nat) : Int))] = some (.tup (nL t0), .bo 0) := (op_ev (x := (.lst (tsD tss), .bo 1)) (y := (.int 0, .fr 0)) rfl rfl).trans (ix_l 0 rfl g0)
        have hA : (eOp eAddF (eSl (eOp eIxF (eVar 1) (eC (.int 0))) (oSome (eVar 3)) oNone) (eSl (eOp eIxF (eVar 1) (eC (.int 0))) oNone (oSome (eVar 3)))) [some (0, .lst (PF.iL row)), some (1, .lst (tsD tss)), none, some (0, .int ((t0.length / 2 : Nat) : Int))] = some (.tup (nL (t0.drop (t0.length / 2) ++ t0.take (t0.length / 2))), .fr 0) := by
          refine (op_ev (sl_from (k := t0.length / 2) (fl := .bo 0) eg1 rfl rfl rfl) (sl_to (k := t0.length / 2) (fl := .bo 0) eg1 rfl rfl rfl)).trans ((add_t ?_ rfl rfl).trans ?_)
          · rw [List.length_drop, List.length_take, l0, sizeLine_eq]
            have := h0.len
            omega
          · simp [nL]
        refine ⟨tss.set 1 (t0.drop (t0.length / 2) ++ t0.take (t0.length / 2)), by rw [List.length_set]; omega, by rw [List.length_set]; omega, setT _ ⟨by rw [List.length_append, List.length_drop, List.length_take]; have := h0.len; omega, fun t mt => (List.mem_append.mp mt).elim (fun z => h0.ge t (List.mem_of_mem_drop z)) (fun z => h0.ge t (List.mem_of_mem_take z))⟩, ?_⟩
        refine fn_rt ?_
        unfold B__law_all_things
        refine (seq_nx h1).trans ((seq_nx (if_f c0)).trans ((seq_nx ((if_t c1).trans ((seq_nx (asg_fr (k := 0) (by simp) e5)).trans (set_ev (y := (.int 1, .fr 0)) (j := 1) rfl hA rfl (by rw [tl]; exact hn) rfl)))).trans ((ret_bo (k := 1) (d := .lst (tsD (tss.set 1 (t0.drop (t0.length / 2) ++ t0.take (t0.length / 2))))) ?_).trans rfl)))
        rw [setD]
        rfl
      · rw [decide_eq_false h5, Bool.and_false] at c1
        refine ⟨tss, by omega, by omega, stay, fn_rt ?_⟩
        unfold B__law_all_things
        exact (seq_nx h1).trans ((seq_nx (if_f c0)).trans ((seq_nx (if_f c1)).trans (ret_bo (k := 1) rfl)))
  · have c1 := cond 1 tss (by decide)
    rw [decide_eq_false hn, Bool.false_and] at c0 c1
    refine ⟨tss, by omega, by omega, stay, fn_rt ?_⟩
    unfold B__law_all_things
    exact (seq_nx h1).trans ((seq_nx (if_f c0)).trans ((seq_nx (if_f c1)).trans (ret_bo (k := 1) rfl)))
end PFG

set_option Elab.async false
set_option linter.all false
set_option maxRecDepth 100000
set_option maxHeartbeats 4000000
namespace PFG
open PySem PySem.Spec PyProof.Rows L2 PF
/-- a row of six counts -/
structure Cs (cs : List Nat) : Prop where
  len : cs.length = 6
  le : ∀ k, cs.getD k 0 ≤ 20
def at0 (cs : List Nat) (k : Nat) : Nat := cs.getD k 0
def S (g : Nat → Nat) : Nat := ((List.range 6).map g).sum
theorem S_eq (g : Nat → Nat) : S g = g 0 + g 1 + g 2 + g 3 + g 4 + g 5 := by
  unfold S
  simp [List.range_succ]
  omega
theorem cs_get {cs : List Nat} (C : Cs cs) {k : Nat} (hk : k < 6) : (nL cs)[k]? = some (.int (at0 cs k : Int)) := by
  have h : k < cs.length := by rw [C.len]; exact hk
  rw [nL_get h]
  unfold at0
  simp [List.getD, h]
def cnt (ts : List Nat) : List Nat := (List.range 6).map fun i => ts.count (1 + i)
theorem cnt_cs {ts : List Nat} (h : Things 20 ts) : Cs (cnt ts) := by
  refine ⟨by simp [cnt], fun k => ?_⟩
  by_cases hk : k < 6
  · unfold cnt
    have : ((List.range 6).map fun i => ts.count (1 + i)).getD k 0 = ts.count (1 + k) := by simp [List.getD, hk]
    rw [this]
    exact Nat.le_trans List.count_le_length h.len
  · have : (cnt ts).getD k 0 = 0 := by simp [cnt, List.getD, hk]
    rw [this]
    omega
theorem ok_nL (l : List Nat) : (nL l).all (okD 60) = true := by
  rw [List.all_eq_true]
  intro d m
  obtain ⟨c, _, rfl⟩ := List.mem_map.mp m
  rfl
theorem cnt_int (ts : List Nat) (v : Nat) : (nL ts).countP (fun z => deq z (.int v)) = ts.count v := by
  rw [List.countP_map, List.count_eq_countP]
  congr 1
  funext z
  show decide ((z : Int) = (v : Int)) = (z == v)
  by_cases h : z = v
  · subst h; simp
  · rw [decide_eq_false (by omega)]
    exact (beq_eq_false_iff_ne.mpr h).symm
theorem row_of_ok (ts : List Nat) : F__law_row_of [.tup (nL ts)] = some (.tup (nL (cnt ts)), 0) := by
  refine fn_rt (ret_fr (k := 0) (tuple_ev (k := 1) ?_))
  refine (lc_all (l := List.range 6) (fun (i : Nat) => D.int (1 + (i : Int))) (fun i => D.int ((ts.count (1 + i) : Nat) : Int)) (fun _ => .fr 0) (range2_ev (a := 1) (b := 7) (x := .fr 0) (y := .fr 0) rfl rfl (by decide) (by decide)) (fun i mi => ?_) (fun _ _ => ⟨rfl, .inl rfl⟩) (by rw [List.length_range, sizeLine_eq]; omega)).trans ?_
  · refine ⟨[some (0, .tup (nL ts)), some (0, .int (1 + (i : Int)))], rfl, ?_⟩
    rw [op_ev (x := (.tup (nL ts), .bo 0)) (y := (.int (1 + (i : Int)), .bo 0)) rfl rfl]
    unfold eCntF
    simp only
    have e : (1 + (i : Int)) = ((1 + i : Nat) : Int) := by omega
    rw [e, if_pos ⟨rfl, by unfold cntOk; rw [pu_nL, ok_nL]; rfl⟩, cnt_int]
  · simp only [nL, cnt, List.map_map]
    rfl
/-- bags -/
abbrev prs (l : List (Nat × Nat)) : List D := l.map fun p => .tup [.int p.1, .int p.2]
theorem pu_prs (l : List (Nat × Nat)) : puL (prs l) = true := pu_map fun x _ => rfl
def bagU (m e : Nat) (cs : List Nat) (n : Nat) : List (Nat × Nat) := ((List.range n).filter fun k => decide (0 < at0 cs k)).map fun k => (m * (k + 1) + e, at0 cs k)
def bagP (m e : Nat) (cs : List Nat) : List (Nat × Nat) := bagU m e cs 6
theorem bagU_succ (m e : Nat) (cs : List Nat) (n : Nat) : bagU m e cs (n + 1) = if 0 < at0 cs n then bagU m e cs n ++ [(m * (n + 1) + e, at0 cs n)] else bagU m e cs n := by
  unfold bagU
  rw [List.range_succ, List.filter_append, List.map_append]
  by_cases h : 0 < at0 cs n
  · rw [if_pos h, List.filter_cons_of_pos (by simpa using h)]
    rfl
  · rw [if_neg h, List.filter_cons_of_neg (by simpa using h)]
    simp
theorem bagU_len (m e : Nat) (cs : List Nat) (n : Nat) : (bagU m e cs n).length ≤ n := by
  unfold bagU
  rw [List.length_map]
  have := List.length_filter_le (fun k => decide (0 < at0 cs k)) (List.range n)
  rwa [List.length_range] at this
theorem bag_ok {cs : List Nat} (C : Cs cs) (m e : Nat) (hm : m < 2 ^ 40) : F__law_bag [.tup (nL cs), .int m, .int e] = some (.tup (prs (bagP m e cs)), 0) := by
  refine fn_rt ?_
  unfold B__law_bag
  refine (seq_nx (asg_fr (d := .lst []) (k := 1) (by simp) rfl)).trans ?_
  obtain ⟨ρ', h1, x4, h2⟩ := for_range (g := gNm 4) (b := (sIf (tBl (eOp iGt (eOp eIxF (eVar 0) (eVar 4)) (eC (.int 0))))
    (sAppend 3 (eTup (aCons (eOp eAddF (eOp eMulF (eVar 1) (eOp eAddF (eVar 4) (eC (.int 1)))) (eVar 2)) (aCons (eOp eIxF (eVar 0) (eVar 4)) aNil))))
    sNil)) (n := 6) (m := 6) (lo := 0) (fun i ρ => ∃ x4, ρ = [some (0, .tup (nL cs)), some (0, .int m), some (0, .int e), some (1, .lst (prs (bagU m e cs i))), x4]) (ρ := [some (0, .tup (nL cs)), some (0, .int m), some (0, .int e), some (1, .lst []), none]) rfl ⟨none, rfl⟩ (by
      rintro i ρ _ hi ⟨x4, rfl⟩
      refine ⟨[some (0, .tup (nL cs)), some (0, .int m), some (0, .int e), some (1, .lst (prs (bagU m e cs i))), some (0, .int i)], [some (0, .tup (nL cs)), some (0, .int m), some (0, .int e), some (1, .lst (prs (bagU m e cs (i + 1)))), some (0, .int i)], rfl, ?_, some (0, .int i), rfl⟩
      have g : eOp eIxF (eVar 0) (eVar 4) [some (0, .tup (nL cs)), some (0, .int m), some (0, .int e), some (1, .lst (prs (bagU m e cs i))), some (0, .int i)] = some (.int (at0 cs i), .fr 0) := (op_ev (x := (.tup (nL cs), .bo 0)) (y := (.int i, .bo 0)) rfl rfl).trans (ix_t i rfl (cs_get C hi) rfl)
      have t : (tBl (eOp iGt (eOp eIxF (eVar 0) (eVar 4)) (eC (.int 0)))) [some (0, .tup (nL cs)), some (0, .int m), some (0, .int e), some (1, .lst (prs (bagU m e cs i))), some (0, .int i)] = some (decide (0 < at0 cs i)) := by
        unfold tBl
        rw [op_ev (y := (.int 0, .fr 0)) g rfl, gt_i]
        show some _ = some _
        congr 1
        apply decide_eq_decide.mpr
        omega
      rw [bagU_succ]
      by_cases h : 0 < at0 cs i
      · rw [decide_eq_true h] at t
        rw [if_pos h, if_t t]
        have k1 : eOp eAddF (eOp eMulF (eVar 1) (eOp eAddF (eVar 4) (eC (.int 1)))) (eVar 2) [some (0, .tup (nL cs)), some (0, .int m), some (0, .int e), some (1, .lst (prs (bagU m e cs i))), some (0, .int i)] = some (.int ((m * (i + 1) + e : Nat) : Int), .fr 0) := by
          rw [op_ev (x := (.int ((m : Int) * ((i : Int) + 1)), .fr 0)) (y := (.int e, .bo 0)) ((op_ev (x := (.int m, .bo 0)) (y := (.int ((i : Int) + 1), .fr 0)) rfl rfl).trans (mul_l (by omega))) rfl, add_i]
          congr 3
        unfold sAppend
        rw [tup2_ev k1 g rfl rfl, Option.bind_some]
        have hl : (prs (bagU m e cs i)).length < sizeLine := by
          have := bagU_len m e cs i
          rw [show (prs (bagU m e cs i)).length = (bagU m e cs i).length from List.length_map .., sizeLine_eq]
          omega
        simp only [fnF, sSeq, sNil, sRet, sIf, sAsg, sAsgT, sPar, eVar, eC, eOp, eUn, eTup, eLst, aNil, aCons, eCall, tBl, tTru, tNotF, tAndF, tOrF, dBl, tru, add_i, sub_i, lt_i, le_i, gt_i, ge_i, int_i, abs_i, len_l, len_t, eq_i, ne_i, PF.scal, gTp, gNm, gsCons, gsNil, shr, eshr, elFl, pu_int, pu_bl, pu_str, pu_non, pu_tup, pu_nil, pu_cons, Option.bind_some, Option.map_some, Option.bind_none, List.getElem?_cons_zero, List.getElem?_cons_succ, List.set_cons_zero, List.set_cons_succ, List.length_cons, List.length_nil, List.map_cons, List.map_nil, List.replicate, List.cons_append, List.nil_append, if_true, if_false, Bool.false_eq_true, Bool.and_true, Bool.true_and, Bool.not_true, Bool.not_false, decide_true, decide_false, Nat.reduceAdd, Nat.reduceLT, Nat.zero_add, Nat.reduceLeDiff, ↓reduceIte, reduceCtorEq, Nat.reduceEqDiff]
        rw [if_pos hl]
        simp [prs, shr]
      · rw [decide_eq_false h] at t
        rw [if_neg h, if_f t]
        rfl)
  subst h2
  refine (seq_nx ((for_ev (range1_map (n := 6) (fl := .fr 0) rfl (by decide))).trans h1)).trans ?_
  refine (ret_fr (k := 0) (d := .tup (prs (bagP m e cs))) ?_)
  rw [un_ev (x := (.lst (prs (bagU m e cs 6)), .bo 1)) rfl]
  unfold eTupleF
  simp only
  rw [show eshr (.lst (prs (bagU m e cs 6))) (.bo 1) = true from rfl]
  rfl
/-- sums of products -/
def dot (a b : List Nat) : Nat := S fun k => at0 a k * at0 b k
theorem iL_sum (l : List Nat) : (l.map fun (c : Nat) => (c : Int)).sum = ((l.sum : Nat) : Int) := by
  induction l with
  | nil => rfl
  | cons x l ih => rw [List.map_cons, List.sum_cons, ih, List.sum_cons]; omega
theorem sumN_ev {f : EF} {ρ : PF.Env} {l : List Nat} {k : Nat} (h : f ρ = some (.lst (nL l), .fr k)) : eUn eSumF f ρ = some (.int ((l.sum : Nat) : Int), .fr 0) := by
  rw [un_ev h, nL_iL, sum_ev, iL_sum]
theorem dot_ok {a b : List Nat} (A : Cs a) (B : Cs b) : F__law_dot [.tup (nL a), .tup (nL b)] = some (.int (dot a b), 0) := by
  refine fn_rt (ret_fr (k := 0) (sumN_ev (k := 1) (l := (List.range 6).map fun k => at0 a k * at0 b k) ?_))
  have hl : (nL a).length = 6 := by simp [nL, A.len]
  refine (lc_all (l := List.range 6) (fun (i : Nat) => D.int (0 + (i : Int))) (fun i => D.int ((at0 a i * at0 b i : Nat) : Int)) (fun _ => .fr 0) (range1_map (n := 6) (fl := .fr 0) (by rw [un_ev (x := (.tup (nL a), .bo 0)) rfl, len_t, hl]) (by decide)) (fun i mi => ?_) (fun _ _ => ⟨rfl, .inl rfl⟩) (by rw [List.length_range, sizeLine_eq]; omega)).trans ?_
  · rw [List.mem_range] at mi
    refine ⟨[some (0, .tup (nL a)), some (0, .tup (nL b)), some (0, .int (0 + (i : Int)))], rfl, ?_⟩
    have ga : eOp eIxF (eVar 0) (eVar 2) [some (0, .tup (nL a)), some (0, .tup (nL b)), some (0, .int (0 + (i : Int)))] = some (.int (at0 a i), .fr 0) := (op_ev (x := (.tup (nL a), .bo 0)) (y := (.int (0 + (i : Int)), .bo 0)) rfl rfl).trans (ix_t i (by omega) (cs_get A mi) rfl)
    have gb : eOp eIxF (eVar 1) (eVar 2) [some (0, .tup (nL a)), some (0, .tup (nL b)), some (0, .int (0 + (i : Int)))] = some (.int (at0 b i), .fr 0) := (op_ev (x := (.tup (nL b), .bo 0)) (y := (.int (0 + (i : Int)), .bo 0)) rfl rfl).trans (ix_t i (by omega) (cs_get B mi) rfl)
    rw [op_ev ga gb, mul_l (by have := A.le i; unfold at0; omega)]
    rfl
  · simp only [nL, List.map_map]
    rfl
theorem dot_le {a b : List Nat} (A : Cs a) (B : Cs b) : dot a b ≤ 2400 := by
  unfold dot
  rw [S_eq]
  have h : ∀ k, at0 a k * at0 b k ≤ 20 * 20 := fun k => Nat.mul_le_mul (A.le k) (B.le k)
  have := h 0; have := h 1; have := h 2; have := h 3; have := h 4; have := h 5
  omega
end PFG

set_option Elab.async false
set_option linter.all false
set_option maxRecDepth 100000
set_option maxHeartbeats 4000000
namespace PFG
open PySem PySem.Spec PyProof.Rows L2 PF
abbrev d01 : D := .tup [.int 0, .int 1]
abbrev d11 : D := .tup [.int 1, .int 1]
theorem if_eq0 {i : Nat} {n : Nat} {ρ : PF.Env} {fl : Fl} {f : EF} (h : f ρ = some (.int n, fl)) : (tBl (eOp eEqF f (eC (.int 0)))) ρ = some (decide (n = 0)) := by
  unfold tBl
  rw [op_ev (y := (.int 0, .fr 0)) h rfl, eq_i]
  show some _ = some _
  congr 1
  apply decide_eq_decide.mpr
  omega
theorem like_of_ok {a b : List Nat} (A : Cs a) (B : Cs b) : F__law_like_of [.tup (nL a), .tup (nL b)] = some (if dot a a * dot b b = 0 then d01 else .tup [.int ((dot a b * dot a b : Nat) : Int), .int ((dot a a * dot b b : Nat) : Int)], 0) := by
  refine fn_rt ?_
  unfold B__law_like_of
  have h1 := dot_le A A
  have h2 := dot_le A B
  have h3 := dot_le B B
  have c1 := call2 (G := F__law_dot) (a := eVar 0) (b := eVar 1) (ρ := [some (0, .tup (nL a)), some (0, .tup (nL b)), none, none]) (x := (.tup (nL a), .bo 0)) (y := (.tup (nL b), .bo 0)) rfl rfl (dot_ok A B)
  refine (seq_nx (asg_fr (k := 0) (by simp) c1)).trans ?_
  have c2 := call2 (G := F__law_dot) (a := eVar 0) (b := eVar 0) (ρ := [some (0, .tup (nL a)), some (0, .tup (nL b)), some (0, .int (dot a b)), none]) (x := (.tup (nL a), .bo 0)) (y := (.tup (nL a), .bo 0)) rfl rfl (dot_ok A A)
  have c3 := call2 (G := F__law_dot) (a := eVar 1) (b := eVar 1) (ρ := [some (0, .tup (nL a)), some (0, .tup (nL b)), some (0, .int (dot a b)), none]) (x := (.tup (nL b), .bo 0)) (y := (.tup (nL b), .bo 0)) rfl rfl (dot_ok B B)
  refine (seq_nx (ρ' := [some (0, .tup (nL a)), some (0, .tup (nL b)), some (0, .int (dot a b)), some (0, .int ((dot a a * dot b b : Nat) : Int))]) (asg_fr (k := 0) (by simp) ((op_ev c2 c3).trans (mul_l (by omega))))).trans ?_
  have t := if_eq0 (i := 0) (n := dot a a * dot b b) (ρ := [some (0, .tup (nL a)), some (0, .tup (nL b)), some (0, .int (dot a b)), some (0, .int ((dot a a * dot b b : Nat) : Int))]) (fl := .bo 0) (f := eVar 3) rfl
  by_cases hz : dot a a * dot b b = 0
  · rw [decide_eq_true hz] at t
    rw [if_pos hz]
    exact seq_rt ((if_t t).trans (ret_fr (k := 0) (tup2_ev (x := (.int 0, .fr 0)) (y := (.int 1, .fr 0)) rfl rfl rfl rfl)))
  · rw [decide_eq_false hz] at t
    rw [if_neg hz]
    refine (seq_nx (if_f t)).trans (ret_fr (k := 0) (tup2_ev (x := (.int ((dot a b * dot a b : Nat) : Int), .fr 0)) (y := (.int ((dot a a * dot b b : Nat) : Int), .bo 0)) ?_ rfl rfl rfl))
    exact (op_ev (x := (.int (dot a b), .bo 0)) (y := (.int (dot a b), .bo 0)) rfl rfl).trans (mul_l (by omega))

/-! ### dicts of ints -/
abbrev kvI (l : List (Nat × Nat)) : List (D × D) := l.map fun p => (.int p.1, .int p.2)
def lkp (l : List (Nat × Nat)) (k : Nat) : Option Nat := (l.find? fun p => p.1 == k).map (·.2)
def get0 (l : List (Nat × Nat)) (k : Nat) : Nat := (lkp l k).getD 0
theorem deq_ii (a b : Nat) : deq (.int a) (.int b) = (a == b) := by
  show decide ((a : Int) = (b : Int)) = _
  by_cases h : a = b
  · subst h; simp
  · rw [decide_eq_false (by omega)]
    exact (beq_eq_false_iff_ne.mpr h).symm
theorem dGet_kvI (l : List (Nat × Nat)) (k : Nat) : dGet (kvI l) (.int k) = (lkp l k).map fun v => D.int v := by
  induction l with
  | nil => rfl
  | cons p l ih =>
    show (if deq (.int p.1) (.int k) then some (.int p.2) else dGet (kvI l) (.int k)) = _
    unfold lkp
    rw [deq_ii, List.find?_cons, ih]
    cases h : p.1 == k <;> simp [lkp]
theorem get_ev {f g : EF} {ρ : PF.Env} {l : List (Nat × Nat)} {k : Nat} {x y : Fl} (h1 : f ρ = some (.dic .k (kvI l), x)) (h2 : g ρ = some (.int k, y)) : eDGet2 f g (eC (.int 0)) ρ = some (.int (get0 l k), .fr 0) := by
  unfold eDGet2
  rw [h1, h2]
  simp only [Option.bind_some, eC]
  unfold eDGetF
  simp only
  rw [if_pos (by rfl), dGet_kvI]
  unfold get0
  cases lkp l k with
  | none => rfl
  | some v =>
    simp
    exact fl_shr rfl
theorem pairsD_prs (l : List (Nat × Nat)) : pairsD (prs l) = some (kvI l) := by
  induction l with
  | nil => rfl
  | cons p l ih =>
    show pairsD (.tup [.int p.1, .int p.2] :: prs l) = _
    unfold pairsD
    rw [if_pos (by rfl), ih]
    rfl
def Keys (l : List (Nat × Nat)) : Prop := (l.map (·.1)).Nodup
theorem dHas_kvI (l : List (Nat × Nat)) (k : Nat) : dHas (kvI l) (.int k) = l.any fun p => p.1 == k := by
  unfold dHas
  rw [List.any_map]
  congr 1
  funext p
  exact deq_ii _ _
theorem merge_nodup : ∀ (l acc : List (Nat × Nat)), Keys (acc ++ l) → (kvI l).foldl (fun acc p => dPut acc p.1 p.2) (kvI acc) = kvI (acc ++ l)
  | [], acc, _ => by simp
  | p :: l, acc, h => by
    have hn : dHas (kvI acc) (.int p.1) = false := by
      rw [dHas_kvI, List.any_eq_false]
      intro q mq
      unfold Keys at h
      rw [List.map_append, List.nodup_append] at h
      have := h.2.2 q.1 (List.mem_map.mpr ⟨q, mq, rfl⟩) p.1 (by simp)
      simpa using this
    have e : dPut (kvI acc) (.int p.1) (.int p.2) = kvI (acc ++ [p]) := by
      unfold dPut
      rw [hn]
      simp [kvI]
    show (kvI l).foldl _ (dPut (kvI acc) (.int p.1) (.int p.2)) = _
    rw [e, merge_nodup l (acc ++ [p]) (by simpa using h)]
    simp
theorem dict_ev {f : EF} {ρ : PF.Env} {l : List (Nat × Nat)} {x : Fl} (h : f ρ = some (.tup (prs l), x)) (hk : Keys l) : eUn eDictF f ρ = some (.dic .k (kvI l), .fr 1) := by
  rw [un_ev h]
  unfold eDictF
  simp only
  have e : dMerge (kvI l) = kvI l := merge_nodup l [] (by simpa using hk)
  rw [if_pos (show mB = true from rfl), pairsD_prs, Option.bind_some, e, if_pos]
  rw [List.map_map]
  exact pu_map fun x _ => rfl

/-! ### bags of counts -/
theorem key_inj {m e j k : Nat} (hm : 0 < m) (h : m * (j + 1) + e = m * (k + 1) + e) : j = k := by
  have : m * (j + 1) = m * (k + 1) := by omega
  have := Nat.eq_of_mul_eq_mul_left hm this
  omega
theorem bag_keys {m : Nat} (e : Nat) (cs : List Nat) (hm : 0 < m) : Keys (bagP m e cs) := by
  unfold Keys bagP bagU
  rw [List.map_map]
  refine List.Pairwise.map _ (fun j k hjk h => hjk (key_inj hm h)) (List.Nodup.sublist List.filter_sublist List.nodup_range)
theorem get_bag {m : Nat} (e : Nat) (cs : List Nat) (hm : 0 < m) {k : Nat} (hk : k < 6) : get0 (bagP m e cs) (m * (k + 1) + e) = at0 cs k := by
  unfold get0 lkp
  cases h : (bagP m e cs).find? fun p => p.1 == m * (k + 1) + e with
  | none =>
    rw [List.find?_eq_none] at h
    show 0 = at0 cs k
    by_cases h0 : 0 < at0 cs k
    · exfalso
      refine h (m * (k + 1) + e, at0 cs k) (List.mem_map.mpr ⟨k, List.mem_filter.mpr ⟨List.mem_range.mpr hk, by simpa using h0⟩, rfl⟩) ?_
      simp
    · omega
  | some p =>
    have h1 := List.find?_some h
    have h2 := List.mem_of_find?_eq_some h
    obtain ⟨j, mj, rfl⟩ := List.mem_map.mp h2
    simp only [beq_iff_eq] at h1
    have := key_inj hm h1
    subst this
    rfl
theorem sum_filter (g : Nat → Nat) (q : Nat → Bool) : ∀ l : List Nat, (∀ k ∈ l, q k = false → g k = 0) → ((l.filter q).map g).sum = (l.map g).sum
  | [], _ => rfl
  | k :: l, h => by
    have ih := sum_filter g q l fun j m => h j (List.mem_cons_of_mem _ m)
    by_cases hq : q k = true
    · rw [List.filter_cons_of_pos hq, List.map_cons, List.map_cons, List.sum_cons, List.sum_cons, ih]
    · rw [List.filter_cons_of_neg hq, List.map_cons, List.sum_cons, h k List.mem_cons_self (by simpa using hq), ih]
      omega
theorem bag_sum (m e : Nat) (cs : List Nat) (G : Nat × Nat → Nat) (h : ∀ k, k < 6 → at0 cs k = 0 → G (m * (k + 1) + e, 0) = 0) : ((bagP m e cs).map G).sum = S fun k => G (m * (k + 1) + e, at0 cs k) := by
  unfold bagP bagU S
  rw [List.map_map]
  refine sum_filter (G ∘ fun k => (m * (k + 1) + e, at0 cs k)) _ _ fun k mk hq => ?_
  have h0 : at0 cs k = 0 := by
    have : ¬ 0 < at0 cs k := by simpa using hq
    omega
  show G (m * (k + 1) + e, at0 cs k) = 0
  rw [h0]
  exact h k (List.mem_range.mp mk) h0
theorem S_congr {f g : Nat → Nat} (h : ∀ k, k < 6 → f k = g k) : S f = S g := by
  rw [S_eq, S_eq, h 0 (by decide), h 1 (by decide), h 2 (by decide), h 3 (by decide), h 4 (by decide), h 5 (by decide)]
/-- a walk over a bag's pairs -/
theorem bag_lc {it : IF} {g : GF} {vs : List Nat} {e : EF} {ρ : PF.Env} {l : List (Nat × Nat)} (F : Nat × Nat → Nat) (hi : it ρ = some (prs l))
    (h : ∀ p ∈ l, ∃ ρ1, g (.tup [.int p.1, .int p.2]) (wipeE ρ vs) = some ρ1 ∧ e ρ1 = some (.int (F p), .fr 0)) (hl : l.length ≤ 1000) : eUn eSumF (eLc it g tYesF vs e) ρ = some (.int (((l.map F).sum : Nat) : Int), .fr 0) := by
  refine sumN_ev (k := 1) ((lc_all (l := l) (fun p => .tup [.int p.1, .int p.2]) (fun p => .int (F p)) (fun _ => .fr 0) hi h (fun _ _ => ⟨rfl, .inl rfl⟩) (by rw [sizeLine_eq]; omega)).trans ?_)
  simp only [nL, List.map_map]
  rfl
theorem bag_lcB {it : IF} {g : GF} {vs : List Nat} {e : EF} {ρ : PF.Env} {l : List (Nat × Nat)} (F : Nat × Nat → Nat) (hi : it ρ = some (prs l))
    (h : ∀ p ∈ l, ∃ ρ1, g (.tup [.int p.1, .int p.2]) (wipeE ρ vs) = some ρ1 ∧ e ρ1 = some (.int (F p), .bo 0)) (hl : l.length ≤ 1000) : eUn eSumF (eLc it g tYesF vs e) ρ = some (.int (((l.map F).sum : Nat) : Int), .fr 0) := by
  refine sumN_ev (k := 1) ((lc_all (l := l) (fun p => .tup [.int p.1, .int p.2]) (fun p => .int (F p)) (fun _ => .bo 0) hi h (fun _ _ => ⟨rfl, .inr (.inl rfl)⟩) (by rw [sizeLine_eq]; omega)).trans ?_)
  simp only [nL, List.map_map]
  rfl
theorem bag_len (m e : Nat) (cs : List Nat) : (bagP m e cs).length ≤ 1000 := by have := bagU_len m e cs 6; unfold bagP; omega
def tot (a : List Nat) : Nat := S (at0 a)
theorem size_ok (m e : Nat) (a : List Nat) : F__size [.tup (prs (bagP m e a))] = some (.int (tot a), 0) := by
  refine fn_rt (ret_fr (k := 0) ((bag_lcB (l := bagP m e a) (fun p => p.2) rfl (fun p _ => ⟨[some (0, .tup (prs (bagP m e a))), some (0, .int p.1), some (0, .int p.2)], rfl, rfl⟩) (bag_len m e a)).trans ?_))
  rw [bag_sum m e a (fun p => p.2) fun k _ _ => rfl]
  rfl
theorem square_ok (m e : Nat) {a : List Nat} (A : Cs a) : F__square [.tup (prs (bagP m e a))] = some (.int (dot a a), 0) := by
  have hp : ∀ p ∈ bagP m e a, p.2 ≤ 20 := fun p mp => by
    obtain ⟨k, _, rfl⟩ := List.mem_map.mp mp
    exact A.le k
  refine fn_rt (ret_fr (k := 0) ((bag_lc (l := bagP m e a) (fun p => p.2 * p.2) rfl (fun p mp => ⟨[some (0, .tup (prs (bagP m e a))), some (0, .int p.1), some (0, .int p.2)], rfl, ?_⟩) (bag_len m e a)).trans ?_))
  · exact (op_ev (x := (.int p.2, .bo 0)) (y := (.int p.2, .bo 0)) rfl rfl).trans (mul_l (by have := hp p mp; omega))
  · rw [bag_sum m e a (fun p => p.2 * p.2) fun k _ _ => rfl]
    rfl
/-! ### likeness, the shared part -/
theorem th_at (m e : Nat) (a : List Nat) {p : Nat × Nat} (mp : p ∈ bagP m e a) : ∃ k, k < 6 ∧ p = (m * (k + 1) + e, at0 a k) ∧ 0 < at0 a k := by
  obtain ⟨k, mk, rfl⟩ := List.mem_map.mp mp
  obtain ⟨h1, h2⟩ := List.mem_filter.mp mk
  exact ⟨k, List.mem_range.mp h1, rfl, by simpa using h2⟩
theorem dot0 {a : List Nat} (h : bagP 1 0 a = []) : dot a a = 0 := by
  have : ∀ k, k < 6 → at0 a k = 0 := fun k hk => by
    by_cases h0 : 0 < at0 a k
    · have : (1 * (k + 1) + 0, at0 a k) ∈ bagP 1 0 a := List.mem_map.mpr ⟨k, List.mem_filter.mpr ⟨List.mem_range.mpr hk, by simpa using h0⟩, rfl⟩
      rw [h] at this
      cases this
    · omega
  unfold dot
  rw [S_congr (g := fun _ => 0) fun k hk => by rw [this k hk]]
  rfl
theorem bag_nil {m e : Nat} {a : List Nat} : bagP m e a = [] ↔ dot a a = 0 := by
  constructor
  · intro h
    refine dot0 ?_
    unfold bagP bagU at h ⊢
    rw [List.map_eq_nil_iff] at h ⊢
    exact h
  · intro h
    unfold dot at h
    rw [S_eq] at h
    unfold bagP bagU
    rw [List.map_eq_nil_iff, List.filter_eq_nil_iff]
    intro k mk
    have hk := List.mem_range.mp mk
    have : at0 a k * at0 a k = 0 := by
      have h6 : k = 0 ∨ k = 1 ∨ k = 2 ∨ k = 3 ∨ k = 4 ∨ k = 5 := by omega
      rcases h6 with rfl | rfl | rfl | rfl | rfl | rfl <;> omega
    have : at0 a k = 0 := by
      rcases Nat.mul_eq_zero.mp this with h | h <;> exact h
    simp [this]
def likD (a b : List Nat) : D := if dot a a * dot b b = 0 then d01 else ratD (dot a b * dot a b) (dot a a * dot b b)
theorem tru_prs (l : List (Nat × Nat)) : tru (.tup (prs l)) = some !l.isEmpty := by cases l <;> rfl
theorem like_ok2 {m : Nat} (e : Nat) {a b : List Nat} (A : Cs a) (B : Cs b) (hm : 0 < m) : F_likeness [.tup (prs (bagP m e a)), .tup (prs (bagP m e b))] = some (likD a b, 0) := by
  have h1 := dot_le A A
  have h2 := dot_le A B
  have h3 := dot_le B B
  refine fn_rt ?_
  unfold B_likeness
  have t : (tOrF (tNotF (tTru (eVar 0))) (tNotF (tTru (eVar 1)))) [some (0, .tup (prs (bagP m e a))), some (0, .tup (prs (bagP m e b))), none, none, none, none] = some (decide (dot a a * dot b b = 0)) := by
    have u : ∀ (l : List (Nat × Nat)) (c : List Nat), l = bagP m e c → (tru (.tup (prs l))).bind (fun k => some !k) = some (decide (dot c c = 0)) := fun l c hl => by
      rw [tru_prs]
      show some (!!l.isEmpty) = _
      rw [Bool.not_not]
      congr 1
      by_cases hz : dot c c = 0
      · rw [decide_eq_true hz, hl, bag_nil.mpr hz]
        rfl
      · rw [decide_eq_false hz]
        cases l with
        | nil => exact absurd (bag_nil.mp hl.symm) hz
        | cons _ _ => rfl
    have ua := u _ a rfl
    have ub := u _ b rfl
    show ((tru (.tup (prs (bagP m e a)))).bind (fun k => some !k)).bind (fun k => if k = true then some true else (tru (.tup (prs (bagP m e b)))).bind (fun k => some !k)) = _
    rw [ua, ub, Option.bind_some]
    by_cases ha : dot a a = 0
    · simp [ha]
    · by_cases hb : dot b b = 0
      · simp [ha, hb]
      · have hab : ¬ dot a a * dot b b = 0 := Nat.mul_ne_zero ha hb
        simp [ha, hb, hab]
  by_cases hz : dot a a * dot b b = 0
  · rw [decide_eq_true hz] at t
    unfold likD
    rw [if_pos hz]
    exact seq_rt ((if_t t).trans (ret_fr (k := 0) (tup2_ev (x := (.int 0, .fr 0)) (y := (.int 1, .fr 0)) rfl rfl rfl rfl)))
  · rw [decide_eq_false hz] at t
    unfold likD
    rw [if_neg hz]
    refine (seq_nx (if_f t)).trans ((seq_nx (asg_fr (k := 1) (by simp) (dict_ev (l := bagP m e b) (x := .bo 0) rfl (bag_keys e b hm)))).trans ?_)
    have sm : eUn eSumF (eLc (iSeqC (eVar 0)) (gTp 2 (gsCons (gNm 4) (gsCons (gNm 5) gsNil))) tYesF [4, 5] (eOp eMulF (eVar 5) (eDGet2 (eVar 2) (eVar 4) (eC (.int 0))))) [some (0, .tup (prs (bagP m e a))), some (0, .tup (prs (bagP m e b))), some (1, .dic .k (kvI (bagP m e b))), none, none, none] = some (.int (dot a b), .fr 0) := by
      refine (bag_lc (l := bagP m e a) (fun p => p.2 * get0 (bagP m e b) p.1) rfl (fun p mp => ⟨[some (0, .tup (prs (bagP m e a))), some (0, .tup (prs (bagP m e b))), some (1, .dic .k (kvI (bagP m e b))), none, some (0, .int p.1), some (0, .int p.2)], rfl, ?_⟩) (bag_len m e a)).trans ?_
      · obtain ⟨k, hk, rfl, h0⟩ := th_at m e a mp
        refine (op_ev (x := (.int (at0 a k), .bo 0)) rfl (get_ev (l := bagP m e b) (x := .bo 1) (y := .bo 0) rfl rfl)).trans (mul_l ?_)
        have := A.le k
        unfold at0
        omega
      · rw [bag_sum m e a _ fun k _ _ => by simp]
        congr 4
        exact S_congr fun k hk => by simp only [get_bag e b hm hk]
    refine (seq_nx (asg_fr (k := 0) (by simp) sm)).trans ?_
    have c1 := call1 (G := F__square) (a := eVar 0) (ρ := [some (0, .tup (prs (bagP m e a))), some (0, .tup (prs (bagP m e b))), some (1, .dic .k (kvI (bagP m e b))), some (0, .int (dot a b)), none, none]) (x := (.tup (prs (bagP m e a)), .bo 0)) rfl (square_ok m e A)
    have c2 := call1 (G := F__square) (a := eVar 1) (ρ := [some (0, .tup (prs (bagP m e a))), some (0, .tup (prs (bagP m e b))), some (1, .dic .k (kvI (bagP m e b))), some (0, .int (dot a b)), none, none]) (x := (.tup (prs (bagP m e b)), .bo 0)) rfl (square_ok m e B)
    have c3 := (op_ev (op := eMulF) (x := (.int (dot a b), .bo 0)) (y := (.int (dot a b), .bo 0)) (f := eVar 3) (g := eVar 3) (ρ := [some (0, .tup (prs (bagP m e a))), some (0, .tup (prs (bagP m e b))), some (1, .dic .k (kvI (bagP m e b))), some (0, .int (dot a b)), none, none]) rfl rfl).trans (mul_l (by omega))
    have c4 := (op_ev (op := eMulF) c1 c2).trans (mul_l (by omega))
    refine ret_fr (k := 0) ((call2 c3 c4 (ratio_ok (dot a b * dot a b) (dot a a * dot b b) (by omega) ?_)).trans ?_)
    · have : dot a a * dot b b ≤ 2400 * 2400 := Nat.mul_le_mul h1 h3
      omega
    · rw [callFl_pu rfl]
end PFG

set_option Elab.async false
set_option linter.all false
set_option maxRecDepth 100000
set_option maxHeartbeats 4000000
namespace PFG
open PySem PySem.Spec PyProof.Rows L2 PF
def leastS (a b : List Nat) : Nat := S fun k => min (at0 a k) (at0 b k)
def mostS (a b : List Nat) : Nat := S fun k => max (at0 a k) (at0 b k)
theorem S_add (f g : Nat → Nat) : S f + S g = S fun k => f k + g k := by
  simp only [S_eq]
  omega
theorem S_le {f g : Nat → Nat} (h : ∀ k, f k ≤ g k) : S f ≤ S g := by
  simp only [S_eq]
  have := h 0; have := h 1; have := h 2; have := h 3; have := h 4; have := h 5
  omega
theorem least_most (a b : List Nat) : tot a + tot b = leastS a b + mostS a b := by
  unfold tot leastS mostS
  rw [S_add, S_add]
  exact S_congr fun k _ => by omega
def difS (a b : List Nat) : Nat := S fun k => (at0 a k - at0 b k) + (at0 b k - at0 a k)
theorem most_dif (a b : List Nat) : mostS a b = leastS a b + difS a b := by
  unfold leastS mostS difS
  rw [S_add]
  exact S_congr fun k _ => by omega
theorem most_le {a b : List Nat} (A : Cs a) (B : Cs b) : mostS a b ≤ 120 := by
  unfold mostS
  rw [S_eq]
  have h : ∀ k, max (at0 a k) (at0 b k) ≤ 20 := fun k => Nat.max_le.mpr ⟨A.le k, B.le k⟩
  have := h 0; have := h 1; have := h 2; have := h 3; have := h 4; have := h 5
  omega
theorem least_le (a b : List Nat) : leastS a b ≤ mostS a b := by have := most_dif a b; omega
def shD (a b : List Nat) : D := if mostS a b = 0 then d11 else ratD (leastS a b) (mostS a b)
theorem min_ev {f g : EF} {ρ : PF.Env} {i j : Nat} {x y : Fl} (h1 : f ρ = some (.int i, x)) (h2 : g ρ = some (.int j, y)) : eOp eMin2F f g ρ = some (.int ((min i j : Nat) : Int), .fr 0) := by
  rw [op_ev h1 h2]
  simp only [iop, Option.bind_some, PF.scal]
  congr 3
  split <;> omega
theorem max_ev {f g : EF} {ρ : PF.Env} {i j : Nat} {x y : Fl} (h1 : f ρ = some (.int i, x)) (h2 : g ρ = some (.int j, y)) : eOp eMax2F f g ρ = some (.int ((max i j : Nat) : Int), .fr 0) := by
  rw [op_ev h1 h2]
  simp only [iop, Option.bind_some, PF.scal]
  congr 3
  split <;> omega
theorem shared_ok {m : Nat} (e : Nat) {a b : List Nat} (A : Cs a) (B : Cs b) (hm : 0 < m) : F_shared_part [.tup (prs (bagP m e a)), .tup (prs (bagP m e b))] = some (shD a b, 0) := by
  have hml := most_le A B
  have hll := least_le a b
  refine fn_rt ?_
  unfold B_shared_part
  refine (seq_nx (asg_fr (k := 1) (by simp) (dict_ev (l := bagP m e b) (x := .bo 0) rfl (bag_keys e b hm)))).trans ?_
  have sm : eUn eSumF (eLc (iSeqC (eVar 0)) (gTp 2 (gsCons (gNm 4) (gsCons (gNm 5) gsNil))) tYesF [4, 5] (eOp eMin2F (eVar 5) (eDGet2 (eVar 2) (eVar 4) (eC (.int 0))))) [some (0, .tup (prs (bagP m e a))), some (0, .tup (prs (bagP m e b))), some (1, .dic .k (kvI (bagP m e b))), none, none, none, none] = some (.int (leastS a b), .fr 0) := by
    refine (bag_lc (l := bagP m e a) (fun p => min p.2 (get0 (bagP m e b) p.1)) rfl (fun p mp => ⟨[some (0, .tup (prs (bagP m e a))), some (0, .tup (prs (bagP m e b))), some (1, .dic .k (kvI (bagP m e b))), none, some (0, .int p.1), some (0, .int p.2), none], rfl, ?_⟩) (bag_len m e a)).trans ?_
    · exact min_ev (x := .bo 0) rfl (get_ev (l := bagP m e b) (x := .bo 1) (y := .bo 0) rfl rfl)
    · rw [bag_sum m e a _ fun k _ _ => by simp]
      congr 4
      exact S_congr fun k hk => by simp only [get_bag e b hm hk]
  refine (seq_nx (asg_fr (k := 0) (by simp) sm)).trans ?_
  have c1 := call1 (G := F__size) (a := eVar 0) (ρ := [some (0, .tup (prs (bagP m e a))), some (0, .tup (prs (bagP m e b))), some (1, .dic .k (kvI (bagP m e b))), some (0, .int (leastS a b)), none, none, none]) (x := (.tup (prs (bagP m e a)), .bo 0)) rfl (size_ok m e a)
  have c2 := call1 (G := F__size) (a := eVar 1) (ρ := [some (0, .tup (prs (bagP m e a))), some (0, .tup (prs (bagP m e b))), some (1, .dic .k (kvI (bagP m e b))), some (0, .int (leastS a b)), none, none, none]) (x := (.tup (prs (bagP m e b)), .bo 0)) rfl (size_ok m e b)
  have c3 := (op_ev (op := iSub) (y := (.int (leastS a b), .bo 0)) (g := eVar 3) ((op_ev (op := eAddF) c1 c2).trans add_i) rfl).trans sub_i
  have e1 : ((tot a : Int) + (tot b : Int) - (leastS a b : Int)) = (mostS a b : Int) := by have := least_most a b; omega
  rw [e1] at c3
  refine (seq_nx (ρ' := [some (0, .tup (prs (bagP m e a))), some (0, .tup (prs (bagP m e b))), some (1, .dic .k (kvI (bagP m e b))), some (0, .int (leastS a b)), none, none, some (0, .int (mostS a b))]) (asg_fr (k := 0) (by simp) c3)).trans ?_
  have t := if_eq0 (i := 0) (n := mostS a b) (ρ := [some (0, .tup (prs (bagP m e a))), some (0, .tup (prs (bagP m e b))), some (1, .dic .k (kvI (bagP m e b))), some (0, .int (leastS a b)), none, none, some (0, .int (mostS a b))]) (fl := .bo 0) (f := eVar 6) rfl
  unfold shD
  by_cases hz : mostS a b = 0
  · rw [decide_eq_true hz] at t
    rw [if_pos hz]
    exact seq_rt ((if_t t).trans (ret_fr (k := 0) (tup2_ev (x := (.int 1, .fr 0)) (y := (.int 1, .fr 0)) rfl rfl rfl rfl)))
  · rw [decide_eq_false hz] at t
    rw [if_neg hz]
    refine (seq_nx (if_f t)).trans (ret_fr (k := 0) ((call2 (x := (.int (leastS a b), .bo 0)) (y := (.int (mostS a b), .bo 0)) rfl rfl (ratio_ok (leastS a b) (mostS a b) (by omega) (by omega))).trans ?_))
    rw [callFl_pu rfl]

/-! ### far by steps -/
theorem zip_nL {a b : List Nat} (A : Cs a) (B : Cs b) : zipD (nL a) (nL b) = (List.range 6).map fun k => D.wtp [.int (at0 a k), .int (at0 b k)] := by
  apply List.ext_getElem?
  intro k
  unfold zipD
  rw [List.getElem?_zipWith]
  by_cases hk : k < 6
  · rw [cs_get A hk, cs_get B hk, List.getElem?_map, List.getElem?_range hk]
    rfl
  · have ha : (nL a)[k]? = none := by rw [List.getElem?_eq_none_iff]; simp [nL, A.len]; omega
    have hr : ((List.range 6).map fun k => D.wtp [.int (at0 a k), .int (at0 b k)])[k]? = none := by
      rw [List.getElem?_eq_none_iff, List.length_map, List.length_range]
      omega
    rw [ha, hr]
theorem far_ok {a b : List Nat} (A : Cs a) (B : Cs b) : F_far [.str "steps", .tup (nL a), .tup (nL b)] = some (.int ((mostS a b - leastS a b : Nat) : Int), 0) := by
  refine fn_rt ?_
  unfold B_far
  have zi : iZipF true (eVar 1) (eVar 2) [some (0, .str "steps"), some (0, .tup (nL a)), some (0, .tup (nL b)), none, none, none, none, none, none, none, none] = some ((List.range 6).map fun k => D.wtp [.int (at0 a k), .int (at0 b k)]) := by
    rw [← zip_nL A B]
    rfl
  have st : (eLc (iZipF true (eVar 1) (eVar 2)) (gTp 2 (gsCons (gNm 4) (gsCons (gNm 5) gsNil))) tYesF [4, 5] (eOp iSub (eVar 4) (eVar 5))) [some (0, .str "steps"), some (0, .tup (nL a)), some (0, .tup (nL b)), none, none, none, none, none, none, none, none] = some (.lst (PF.iL ((List.range 6).map fun k => (at0 a k : Int) - (at0 b k : Int))), .fr 1) := by
    refine (lc_all (l := List.range 6) _ (fun k => .int ((at0 a k : Int) - (at0 b k : Int))) (fun _ => .fr 0) zi (fun k mk => ⟨[some (0, .str "steps"), some (0, .tup (nL a)), some (0, .tup (nL b)), none, some (0, .int (at0 a k)), some (0, .int (at0 b k)), none, none, none, none, none], rfl, rfl⟩) (fun _ _ => ⟨rfl, .inl rfl⟩) (by rw [List.length_range, sizeLine_eq]; omega)).trans ?_
    simp only [PF.iL, List.map_map]
    rfl
  refine (seq_nx (asg_fr (k := 1) (by simp) st)).trans ?_
  refine seq_rt ((if_t (by kernel_rfl)).trans (ret_fr (k := 0) ((un_ev (x := (.lst (PF.iL ((List.range 6).map fun k => ((at0 a k - at0 b k : Nat) : Int) + ((at0 b k - at0 a k : Nat) : Int))), .fr 1)) ?_).trans ?_)))
  · refine (lc_all (l := (List.range 6).map fun k => (at0 a k : Int) - (at0 b k : Int)) D.int (fun i => .int (if i < 0 then -i else i)) (fun _ => .fr 0) rfl (fun i mi => ⟨[some (0, .str "steps"), some (0, .tup (nL a)), some (0, .tup (nL b)), some (1, .lst (PF.iL ((List.range 6).map fun k => (at0 a k : Int) - (at0 b k : Int)))), none, none, some (0, .int i), none, none, none, none], rfl, rfl⟩) (fun _ _ => ⟨rfl, .inl rfl⟩) (by simp [sizeLine_eq])).trans ?_
    simp only [PF.iL, List.map_map]
    congr 3
    apply List.map_congr_left
    intro k _
    simp only [Function.comp]
    congr 1
    split <;> omega
  · rw [sum_ev]
    have e1 : mostS a b - leastS a b = difS a b := by have := most_dif a b; omega
    have e2 : ((List.range 6).map fun k => ((at0 a k - at0 b k : Nat) : Int) + ((at0 b k - at0 a k : Nat) : Int)) = ((List.range 6).map fun k => (at0 a k - at0 b k) + (at0 b k - at0 a k)).map fun (c : Nat) => (c : Int) := by
      rw [List.map_map]
      rfl
    rw [e2, iL_sum, e1]
    rfl
end PFG

set_option Elab.async false
set_option linter.all false
set_option maxRecDepth 100000
set_option maxHeartbeats 4000000
namespace PFG
open PySem PySem.Spec PyProof.Rows L2 PF
theorem forF_nx {g : GF} {b : SF} {d : D} {ds : List D} {ρ ρ1 ρ' : PF.Env} (h1 : g d ρ = some ρ1) (h2 : b ρ1 = some (.nx ρ')) : forF g b (d :: ds) ρ = forF g b ds ρ' := by
  rw [forF, h1, Option.bind_some, h2, Option.bind_some]
theorem forF_rt {g : GF} {b : SF} {d x : D} {k : Nat} {ds : List D} {ρ ρ1 : PF.Env} (h1 : g d ρ = some ρ1) (h2 : b ρ1 = some (.rt x k)) : forF g b (d :: ds) ρ = some (.rt x k) := by
  rw [forF, h1, Option.bind_some, h2, Option.bind_some]
/-! ### the determinant of two rows of two -/
abbrev t2 (p q r : Nat) (s : Int) : List D := [.lst [.int p, .int q], .lst [.int r, .int s]]
/-- rows[i][j], rows owned or not -/
theorem ix2 {ρ : PF.Env} {f g : EF} {rows cells : List D} {i j : Nat} {x : Int} {u v : Fl} (h0 : ρ[1]? = some (some (2, .lst rows))) (h1 : f ρ = some (.int i, u)) (h2 : g ρ = some (.int j, v)) (e1 : rows[i]? = some (.lst cells)) (e2 : cells[j]? = some (.int x)) :
    eOp eIxF (eOp eIxF (eVar 1) f) g ρ = some (.int x, .bo 0) := by
  have e0 : eVar 1 ρ = some (.lst rows, .bo 2) := by unfold eVar; rw [h0]
  exact (op_ev ((op_ev e0 h1).trans (ix_l i rfl e1)) h2).trans (ix_l j rfl e2)
abbrev EE (T : D) (R : List D) (b pl x6 x7 x8 x9 : Option (Nat × D)) : PF.Env := [some (0, T), some (2, .lst R), none, some (0, .int 1), b, pl, x6, x7, x8, x9]
abbrev nt (i : Nat) : Option (Nat × D) := some (0, .int i)
theorem heads_ev {T : D} {rows : List D} {b x6 x7 x8 x9 : Option (Nat × D)} {pl : Nat} {l : List Nat} {v : Nat → Int} (hv : ∀ i ∈ l, ∃ cells, rows[i]? = some (.lst cells) ∧ cells[pl]? = some (.int (v i)))
    (hi : iRange2 (eVar 5) (eUn eLenF (eVar 1)) (EE T rows b (nt pl) x6 x7 x8 x9) = some (l.map fun (i : Nat) => D.int (i : Int))) (hl : l.length ≤ 1000) :
    eLc (iRange2 (eVar 5) (eUn eLenF (eVar 1))) (gNm 7) (tBl (eOp eNeF (eOp eIxF (eOp eIxF (eVar 1) (eVar 7)) (eVar 5)) (eC (.int 0)))) [7] (eVar 7) (EE T rows b (nt pl) x6 x7 x8 x9) = some (.lst (nL (l.filter fun i => !decide (v i = 0))), .fr 1) := by
  refine lc_ev (l := l) (fun (i : Nat) => D.int (i : Int)) (fun i => !decide (v i = 0)) (fun (i : Nat) => D.int (i : Int)) (fun _ => .bo 0) hi (fun i mi => ?_) (fun _ _ => ⟨rfl, .inr (.inl rfl)⟩) (by rw [sizeLine_eq]; omega)
  obtain ⟨cells, e1, e2⟩ := hv i mi
  refine ⟨EE T rows b (nt pl) x6 (nt i) x8 x9, rfl, ?_, fun _ => rfl⟩
  unfold tBl
  rw [op_ev (y := (.int 0, .fr 0)) (ix2 (f := eVar 7) (g := eVar 5) (u := .bo 0) (v := .bo 0) rfl rfl rfl e1 e2) rfl, ne_i]
  rfl
abbrev BF : SF := (sSeq (sAsg 6 (eLc (iRange2 (eVar 5) (eUn eLenF (eVar 1))) (gNm 7) (tBl (eOp eNeF (eOp eIxF (eOp eIxF (eVar 1) (eVar 7)) (eVar 5)) (eC (.int 0)))) [7] (eVar 7)))
    (sSeq (sIf (tNotF (tTru (eVar 6)))
    (sRet (eC (.int 0)))
    sNil)
    (sSeq (sIf (tBl (eOp eNeF (eOp eIxF (eVar 6) (eC (.int 0))) (eVar 5)))
    sNever
    sNil)
    (sSeq (sFor (iRange2 (eOp eAddF (eVar 5) (eC (.int 1))) (eUn eLenF (eVar 1))) (gNm 7)
    (sFor (iRange2 (eOp eAddF (eVar 5) (eC (.int 1))) (eUn eLenF (eVar 1))) (gNm 8)
    (sSeq (sAsg 9 (eOp iSub (eOp eMulF (eOp eIxF (eOp eIxF (eVar 1) (eVar 7)) (eVar 8)) (eOp eIxF (eOp eIxF (eVar 1) (eVar 5)) (eVar 5))) (eOp eMulF (eOp eIxF (eOp eIxF (eVar 1) (eVar 7)) (eVar 5)) (eOp eIxF (eOp eIxF (eVar 1) (eVar 5)) (eVar 8)))))
    (sSet2 1 (eVar 7) (eVar 8) (eOp iDiv (eVar 9) (eVar 4))))))
    (sAsg 4 (eOp eIxF (eOp eIxF (eVar 1) (eVar 5)) (eVar 5)))))))
theorem r01 {T : D} {p q r : Nat} {s : Int} {b x6 x7 x8 x9 : Option (Nat × D)} : iRange2 (eVar 5) (eUn eLenF (eVar 1)) (EE T (t2 p q r s) b (nt 0) x6 x7 x8 x9) = some ([0, 1].map fun (i : Nat) => D.int (i : Int)) :=
  range2_ev (a := 0) (b := 2) (x := .bo 0) (y := .fr 0) rfl rfl (by decide) (by decide)
theorem r1 {T : D} {p q r : Nat} {s : Int} {b x6 x7 x8 x9 : Option (Nat × D)} : iRange2 (eVar 5) (eUn eLenF (eVar 1)) (EE T (t2 p q r s) b (nt 1) x6 x7 x8 x9) = some ([1].map fun (i : Nat) => D.int (i : Int)) :=
  range2_ev (a := 1) (b := 2) (x := .bo 0) (y := .fr 0) rfl rfl (by decide) (by decide)
theorem q1 {T : D} {p q r : Nat} {s : Int} {b x6 x7 x8 x9 : Option (Nat × D)} : iRange2 (eOp eAddF (eVar 5) (eC (.int 1))) (eUn eLenF (eVar 1)) (EE T (t2 p q r s) b (nt 0) x6 x7 x8 x9) = some [.int 1] :=
  range2_ev (a := 1) (b := 2) (x := .fr 0) (y := .fr 0) rfl rfl (by decide) (by decide)
theorem q2 {T : D} {p q r : Nat} {s : Int} {b x6 x7 x8 x9 : Option (Nat × D)} : iRange2 (eOp eAddF (eVar 5) (eC (.int 1))) (eUn eLenF (eVar 1)) (EE T (t2 p q r s) b (nt 1) x6 x7 x8 x9) = some [] :=
  range2_ev (a := 2) (b := 2) (x := .fr 0) (y := .fr 0) rfl rfl (by decide) (by decide)
theorem vor_ok (p q r s : Nat) (hp : p < 2 ^ 30) (hq : q < 2 ^ 30) (hr : r < 2 ^ 30) (hs : s < 2 ^ 30) (h0 : p = 0 → r = 0) :
    F_value_of_rows [.lst (t2 p q r s)] = some (.int (if p = 0 then 0 else (s : Int) * p - r * q), 0) := by
  refine fn_rt ?_
  unfold B_value_of_rows
  have ha : sAsg 1 (eLc (iSeqC (eVar 0)) (gNm 2) tYesF [2] (eUn eListF (eVar 2))) [some (0, .lst (t2 p q r s)), none, none, none, none, none, none, none, none, none] = some (.nx [some (0, .lst (t2 p q r s)), some (2, .lst (t2 p q r s)), none, none, none, none, none, none, none, none]) := rfl
  refine (seq_nx ha).trans ((seq_nx (ρ' := EE (.lst (t2 p q r s)) (t2 p q r s) (some (0, .int 1)) none none none none none) rfl).trans ?_)
  have fe := for_ev (g := gNm 5) (b := BF) (ρ := EE (.lst (t2 p q r s)) (t2 p q r s) (some (0, .int 1)) none none none none none) (items := [.int 0, .int 1]) (it := iRange1 (eUn eLenF (eVar 1))) (range1_map (n := 2) (fl := .fr 0) rfl (by decide))
  have hd := heads_ev (T := .lst (t2 p q r s)) (rows := t2 p q r s) (b := some (0, .int 1)) (x6 := none) (x7 := none) (x8 := none) (x9 := none) (pl := 0) (l := [0, 1]) (v := fun i => if i = 0 then (p : Int) else r) (fun i mi => by
    simp at mi
    rcases mi with rfl | rfl
    · exact ⟨_, rfl, rfl⟩
    · exact ⟨_, rfl, rfl⟩) r01 (by decide)
  by_cases hz : p = 0
  · subst hz
    have hr0 := h0 rfl
    subst hr0
    rw [if_pos rfl]
    refine seq_rt (fe.trans ?_)
    unfold forF
    have g0 : gNm 5 (.int 0) (EE (.lst (t2 0 q 0 s)) (t2 0 q 0 s) (some (0, .int 1)) none none none none none) = some (EE (.lst (t2 0 q 0 s)) (t2 0 q 0 s) (some (0, .int 1)) (nt 0) none none none none) := rfl
    have hb : BF (EE (.lst (t2 0 q 0 s)) (t2 0 q 0 s) (some (0, .int 1)) (nt 0) none none none none) = some (.rt (.int 0) 0) := (seq_nx (ρ' := EE (.lst (t2 0 q 0 s)) (t2 0 q 0 s) (some (0, .int 1)) (nt 0) (some (1, .lst [])) none none none) ((asg_fr (k := 1) (by simp) hd).trans rfl)).trans (seq_rt rfl)
    rw [g0, Option.bind_some, hb]
    rfl
  · rw [if_neg hz]
    generalize hdet : (s : Int) * p - r * q = det
    have hf : ([0, 1].filter fun i : Nat => !decide ((if i = 0 then (p : Int) else r) = 0)) = 0 :: ([1].filter fun i : Nat => !decide ((if i = 0 then (p : Int) else r) = 0)) := List.filter_cons_of_pos (by simp; omega)
    rw [hf] at hd
    generalize ([1].filter fun i : Nat => !decide ((if i = 0 then (p : Int) else r) = 0)) = tl at hd
    -- the first turn
    have g0 : gNm 5 (.int 0) (EE (.lst (t2 p q r s)) (t2 p q r s) (some (0, .int 1)) none none none none none) = some (EE (.lst (t2 p q r s)) (t2 p q r s) (some (0, .int 1)) (nt 0) none none none none) := rfl
    have chk : ∀ (R : List D) (b x7 x8 x9 : Option (Nat × D)) (pl : Nat) (tl : List Nat), (tBl (eOp eNeF (eOp eIxF (eVar 6) (eC (.int 0))) (eVar 5))) (EE (.lst (t2 p q r s)) R b (nt pl) (some (1, .lst (nL (pl :: tl)))) x7 x8 x9) = some false := fun R b x7 x8 x9 pl tl => by
      unfold tBl
      rw [op_ev (x := (.int pl, .bo 0)) (y := (.int pl, .bo 0)) ((op_ev (x := (.lst (nL (pl :: tl)), .bo 1)) (y := (.int 0, .fr 0)) rfl rfl).trans (ix_l 0 rfl rfl)) rfl, ne_i, decide_eq_true rfl]
      rfl
    have body : sSeq (sAsg 9 (eOp iSub (eOp eMulF (eOp eIxF (eOp eIxF (eVar 1) (eVar 7)) (eVar 8)) (eOp eIxF (eOp eIxF (eVar 1) (eVar 5)) (eVar 5))) (eOp eMulF (eOp eIxF (eOp eIxF (eVar 1) (eVar 7)) (eVar 5)) (eOp eIxF (eOp eIxF (eVar 1) (eVar 5)) (eVar 8)))))
        (sSet2 1 (eVar 7) (eVar 8) (eOp iDiv (eVar 9) (eVar 4))) (EE (.lst (t2 p q r s)) (t2 p q r s) (some (0, .int 1)) (nt 0) (some (1, .lst (nL (0 :: tl)))) (nt 1) (nt 1) none) = some (.nx (EE (.lst (t2 p q r s)) (t2 p q r det) (some (0, .int 1)) (nt 0) (some (1, .lst (nL (0 :: tl)))) (nt 1) (nt 1) (some (0, .int det)))) := by
      have k1 := (op_ev (op := eMulF) (ix2 (ρ := EE (.lst (t2 p q r s)) (t2 p q r s) (some (0, .int 1)) (nt 0) (some (1, .lst (nL (0 :: tl)))) (nt 1) (nt 1) none) (f := eVar 7) (g := eVar 8) (i := 1) (j := 1) (u := .bo 0) (v := .bo 0) rfl rfl rfl rfl rfl) (ix2 (ρ := EE (.lst (t2 p q r s)) (t2 p q r s) (some (0, .int 1)) (nt 0) (some (1, .lst (nL (0 :: tl)))) (nt 1) (nt 1) none) (f := eVar 5) (g := eVar 5) (i := 0) (j := 0) (u := .bo 0) (v := .bo 0) rfl rfl rfl rfl rfl)).trans (mul_l (by omega))
      have k2 := (op_ev (op := eMulF) (ix2 (ρ := EE (.lst (t2 p q r s)) (t2 p q r s) (some (0, .int 1)) (nt 0) (some (1, .lst (nL (0 :: tl)))) (nt 1) (nt 1) none) (f := eVar 7) (g := eVar 5) (i := 1) (j := 0) (u := .bo 0) (v := .bo 0) rfl rfl rfl rfl rfl) (ix2 (ρ := EE (.lst (t2 p q r s)) (t2 p q r s) (some (0, .int 1)) (nt 0) (some (1, .lst (nL (0 :: tl)))) (nt 1) (nt 1) none) (f := eVar 5) (g := eVar 8) (i := 0) (j := 1) (u := .bo 0) (v := .bo 0) rfl rfl rfl rfl rfl)).trans (mul_l (by omega))
      have k3 := (op_ev (op := iSub) k1 k2).trans sub_i
      rw [hdet] at k3
      refine (seq_nx (ρ' := EE (.lst (t2 p q r s)) (t2 p q r s) (some (0, .int 1)) (nt 0) (some (1, .lst (nL (0 :: tl)))) (nt 1) (nt 1) (some (0, .int det))) ((asg_fr (k := 0) (by simp) k3).trans rfl)).trans ?_
      have k4 : eOp iDiv (eVar 9) (eVar 4) (EE (.lst (t2 p q r s)) (t2 p q r s) (some (0, .int 1)) (nt 0) (some (1, .lst (nL (0 :: tl)))) (nt 1) (nt 1) (some (0, .int det))) = some (.int det, .fr 0) := by
        rw [op_ev (x := (.int det, .bo 0)) (y := (.int 1, .bo 0)) rfl rfl, iDiv_lit (by decide) (by decide), Int.ediv_one]
      unfold sSet2
      rw [k4]
      rfl
    have hb1 : BF (EE (.lst (t2 p q r s)) (t2 p q r s) (some (0, .int 1)) (nt 0) none none none none) = some (.nx (EE (.lst (t2 p q r s)) (t2 p q r det) (some (0, .int p)) (nt 0) (some (1, .lst (nL (0 :: tl)))) (nt 1) (nt 1) (some (0, .int det)))) := by
      refine (seq_nx (ρ' := EE (.lst (t2 p q r s)) (t2 p q r s) (some (0, .int 1)) (nt 0) (some (1, .lst (nL (0 :: tl)))) none none none) ((asg_fr (k := 1) (by simp) hd).trans rfl)).trans ?_
      refine (seq_nx (ρ' := EE (.lst (t2 p q r s)) (t2 p q r s) (some (0, .int 1)) (nt 0) (some (1, .lst (nL (0 :: tl)))) none none none) rfl).trans ((seq_nx (ρ' := EE (.lst (t2 p q r s)) (t2 p q r s) (some (0, .int 1)) (nt 0) (some (1, .lst (nL (0 :: tl)))) none none none) (if_f (chk _ _ _ _ _ 0 tl))).trans ?_)
      refine (seq_nx (ρ' := EE (.lst (t2 p q r s)) (t2 p q r det) (some (0, .int 1)) (nt 0) (some (1, .lst (nL (0 :: tl)))) (nt 1) (nt 1) (some (0, .int det))) ?_).trans ?_
      · refine (for_ev q1).trans ?_
        unfold forF
        rw [show gNm 7 (.int 1) (EE (.lst (t2 p q r s)) (t2 p q r s) (some (0, .int 1)) (nt 0) (some (1, .lst (nL (0 :: tl)))) none none none) = some (EE (.lst (t2 p q r s)) (t2 p q r s) (some (0, .int 1)) (nt 0) (some (1, .lst (nL (0 :: tl)))) (nt 1) none none) from rfl, Option.bind_some, for_ev q1]
        have inn : forF (gNm 8) (sSeq (sAsg 9 (eOp iSub (eOp eMulF (eOp eIxF (eOp eIxF (eVar 1) (eVar 7)) (eVar 8)) (eOp eIxF (eOp eIxF (eVar 1) (eVar 5)) (eVar 5))) (eOp eMulF (eOp eIxF (eOp eIxF (eVar 1) (eVar 7)) (eVar 5)) (eOp eIxF (eOp eIxF (eVar 1) (eVar 5)) (eVar 8)))))
            (sSet2 1 (eVar 7) (eVar 8) (eOp iDiv (eVar 9) (eVar 4)))) [.int 1] (EE (.lst (t2 p q r s)) (t2 p q r s) (some (0, .int 1)) (nt 0) (some (1, .lst (nL (0 :: tl)))) (nt 1) none none) = some (.nx (EE (.lst (t2 p q r s)) (t2 p q r det) (some (0, .int 1)) (nt 0) (some (1, .lst (nL (0 :: tl)))) (nt 1) (nt 1) (some (0, .int det)))) := by
          unfold forF
          rw [show gNm 8 (.int 1) (EE (.lst (t2 p q r s)) (t2 p q r s) (some (0, .int 1)) (nt 0) (some (1, .lst (nL (0 :: tl)))) (nt 1) none none) = some (EE (.lst (t2 p q r s)) (t2 p q r s) (some (0, .int 1)) (nt 0) (some (1, .lst (nL (0 :: tl)))) (nt 1) (nt 1) none) from rfl, Option.bind_some, body]
          rfl
        rw [inn]
        rfl
      · exact (asg_sh (fl := .bo 0) (by simp) (ix2 (i := 0) (j := 0) (u := .bo 0) (v := .bo 0) rfl rfl rfl rfl rfl) (fun k z => by cases z) rfl).trans rfl
    -- the second turn
    have hd2 := heads_ev (T := .lst (t2 p q r s)) (rows := t2 p q r det) (b := some (0, .int p)) (x6 := some (1, .lst (nL (0 :: tl)))) (x7 := nt 1) (x8 := nt 1) (x9 := some (0, .int det)) (pl := 1) (l := [1]) (v := fun _ => det) (fun i mi => by
      simp at mi
      subst mi
      exact ⟨_, rfl, rfl⟩) r1 (by decide)
    by_cases hz2 : det = 0
    · have hd3 : ([1].filter fun i : Nat => !decide (det = 0)) = [] := by simp [hz2]
      rw [hd3] at hd2
      have hb2 : BF (EE (.lst (t2 p q r s)) (t2 p q r det) (some (0, .int p)) (nt 1) (some (1, .lst (nL (0 :: tl)))) (nt 1) (nt 1) (some (0, .int det))) = some (.rt (.int 0) 0) := (seq_nx (ρ' := EE (.lst (t2 p q r s)) (t2 p q r det) (some (0, .int p)) (nt 1) (some (1, .lst [])) (nt 1) (nt 1) (some (0, .int det))) ((asg_fr (k := 1) (by simp) hd2).trans rfl)).trans (seq_rt rfl)
      rw [hz2]
      exact seq_rt (fe.trans ((forF_nx g0 hb1).trans (forF_rt (show gNm 5 (.int 1) (EE (.lst (t2 p q r s)) (t2 p q r det) (some (0, .int p)) (nt 0) (some (1, .lst (nL (0 :: tl)))) (nt 1) (nt 1) (some (0, .int det))) = some (EE (.lst (t2 p q r s)) (t2 p q r det) (some (0, .int p)) (nt 1) (some (1, .lst (nL (0 :: tl)))) (nt 1) (nt 1) (some (0, .int det))) from rfl) hb2)))
    · have hd3 : ([1].filter fun i : Nat => !decide (det = 0)) = [1] := by simp [hz2]
      rw [hd3] at hd2
      have hb2 : BF (EE (.lst (t2 p q r s)) (t2 p q r det) (some (0, .int p)) (nt 1) (some (1, .lst (nL (0 :: tl)))) (nt 1) (nt 1) (some (0, .int det))) = some (.nx (EE (.lst (t2 p q r s)) (t2 p q r det) (some (0, .int det)) (nt 1) (some (1, .lst (nL [1]))) (nt 1) (nt 1) (some (0, .int det)))) := by
        refine (seq_nx (ρ' := EE (.lst (t2 p q r s)) (t2 p q r det) (some (0, .int p)) (nt 1) (some (1, .lst (nL [1]))) (nt 1) (nt 1) (some (0, .int det))) ((asg_fr (k := 1) (by simp) hd2).trans rfl)).trans ?_
        refine (seq_nx (ρ' := EE (.lst (t2 p q r s)) (t2 p q r det) (some (0, .int p)) (nt 1) (some (1, .lst (nL [1]))) (nt 1) (nt 1) (some (0, .int det))) rfl).trans ((seq_nx (ρ' := EE (.lst (t2 p q r s)) (t2 p q r det) (some (0, .int p)) (nt 1) (some (1, .lst (nL [1]))) (nt 1) (nt 1) (some (0, .int det))) (if_f (chk _ _ _ _ _ 1 []))).trans ?_)
        refine (seq_nx ((for_ev q2).trans rfl)).trans ?_
        exact (asg_sh (fl := .bo 0) (by simp) (ix2 (i := 1) (j := 1) (u := .bo 0) (v := .bo 0) rfl rfl rfl rfl rfl) (fun k z => by cases z) rfl).trans rfl
      refine (seq_nx (ρ' := EE (.lst (t2 p q r s)) (t2 p q r det) (some (0, .int det)) (nt 1) (some (1, .lst (nL [1]))) (nt 1) (nt 1) (some (0, .int det))) (fe.trans ?_)).trans (ret_fr (k := 0) ?_)
      · exact (forF_nx g0 hb1).trans ((forF_nx (show gNm 5 (.int 1) (EE (.lst (t2 p q r s)) (t2 p q r det) (some (0, .int p)) (nt 0) (some (1, .lst (nL (0 :: tl)))) (nt 1) (nt 1) (some (0, .int det))) = some (EE (.lst (t2 p q r s)) (t2 p q r det) (some (0, .int p)) (nt 1) (some (1, .lst (nL (0 :: tl)))) (nt 1) (nt 1) (some (0, .int det))) from rfl) hb2).trans rfl)
      · rw [op_ev (x := (.int 1, .bo 0)) (y := (.int det, .bo 0)) rfl rfl, mul_l (by decide), Int.one_mul]
end PFG

set_option Elab.async false
set_option linter.all false
set_option maxRecDepth 100000
set_option maxHeartbeats 4000000
namespace PFG
open PySem PySem.Spec PyProof.Rows L2 PF
theorem zipdot {ρ : PF.Env} {a b : List Nat} (A : Cs a) (B : Cs b) (T : D) (h : ρ = [some (0, T), some (0, .tup (nL a)), some (0, .tup (nL b)), none, none]) :
    eUn eSumF (eLc (iZipF true (eVar 1) (eVar 2)) (gTp 2 (gsCons (gNm 3) (gsCons (gNm 4) gsNil))) tYesF [3, 4] (eOp eMulF (eVar 3) (eVar 4))) ρ = some (.int (dot a b), .fr 0) := by
  subst h
  have zi : iZipF true (eVar 1) (eVar 2) [some (0, T), some (0, .tup (nL a)), some (0, .tup (nL b)), none, none] = some ((List.range 6).map fun k => D.wtp [.int (at0 a k), .int (at0 b k)]) := by
    rw [← zip_nL A B]
    rfl
  refine sumN_ev (k := 1) (l := (List.range 6).map fun k => at0 a k * at0 b k) ?_
  refine (lc_all (l := List.range 6) _ (fun k => .int ((at0 a k * at0 b k : Nat) : Int)) (fun _ => .fr 0) zi (fun k mk => ⟨[some (0, T), some (0, .tup (nL a)), some (0, .tup (nL b)), some (0, .int (at0 a k)), some (0, .int (at0 b k))], rfl, ?_⟩) (fun _ _ => ⟨rfl, .inl rfl⟩) (by rw [List.length_range, sizeLine_eq]; omega)).trans ?_
  · exact (op_ev (x := (.int (at0 a k), .bo 0)) (y := (.int (at0 b k), .bo 0)) rfl rfl).trans (mul_l (by have := A.le k; unfold at0; omega))
  · simp only [nL, List.map_map]
    rfl
theorem dot_comm (a b : List Nat) : dot a b = dot b a := by
  unfold dot
  exact S_congr fun k _ => Nat.mul_comm _ _
def detI (a b : List Nat) : Int := (dot a a : Int) * (dot b b : Int) - (dot a b : Int) * (dot a b : Int)
theorem dot_aa0 {a : List Nat} (h : dot a a = 0) (b : List Nat) : dot a b = 0 := by
  have h1 : ∀ k, k < 6 → at0 a k = 0 := fun k hk => by
    have := h
    unfold dot at this
    rw [S_eq] at this
    have h6 : k = 0 ∨ k = 1 ∨ k = 2 ∨ k = 3 ∨ k = 4 ∨ k = 5 := by omega
    have : at0 a k * at0 a k = 0 := by rcases h6 with rfl | rfl | rfl | rfl | rfl | rfl <;> omega
    rcases Nat.mul_eq_zero.mp this with h | h <;> exact h
  unfold dot
  rw [S_congr (g := fun _ => 0) fun k hk => by rw [h1 k hk, Nat.zero_mul]]
  rfl
theorem span_ok {a b : List Nat} (A : Cs a) (B : Cs b) : F_span_volume [.tup [.tup (nL a), .tup (nL b)]] = some (.int (detI a b), 0) := by
  have h1 := dot_le A A
  have h2 := dot_le A B
  have h3 := dot_le B B
  refine fn_rt (ret_fr (k := 0) ?_)
  have rowE : ∀ (u : List Nat), Cs u → eLc (iSeqC (eVar 0)) (gNm 2) tYesF [2] (eUn eSumF (eLc (iZipF true (eVar 1) (eVar 2)) (gTp 2 (gsCons (gNm 3) (gsCons (gNm 4) gsNil))) tYesF [3, 4] (eOp eMulF (eVar 3) (eVar 4)))) [some (0, .tup [.tup (nL a), .tup (nL b)]), some (0, .tup (nL u)), none, none, none] = some (.lst [.int (dot u a), .int (dot u b)], .fr 1) := fun u U => by
    refine (lc_all (l := [a, b]) (fun v => .tup (nL v)) (fun v => .int (dot u v)) (fun _ => .fr 0) rfl (fun v mv => ⟨[some (0, .tup [.tup (nL a), .tup (nL b)]), some (0, .tup (nL u)), some (0, .tup (nL v)), none, none], rfl, ?_⟩) (fun _ _ => ⟨rfl, .inl rfl⟩) (by rw [sizeLine_eq]; simp)).trans rfl
    simp at mv
    rcases mv with rfl | rfl
    · exact zipdot U A _ rfl
    · exact zipdot U B _ rfl
  have tab : eLc (iSeqC (eVar 0)) (gNm 1) tYesF [1] (eLc (iSeqC (eVar 0)) (gNm 2) tYesF [2] (eUn eSumF (eLc (iZipF true (eVar 1) (eVar 2)) (gTp 2 (gsCons (gNm 3) (gsCons (gNm 4) gsNil))) tYesF [3, 4] (eOp eMulF (eVar 3) (eVar 4))))) [some (0, .tup [.tup (nL a), .tup (nL b)]), none, none, none, none] = some (.lst (t2 (dot a a) (dot a b) (dot b a) (dot b b)), .fr 2) := by
    refine (lc_step (items := [a, b].map fun v => .tup (nL v)) rfl (compL_ev (l := [a, b]) (fun v => .tup (nL v)) (fun _ => true) (fun v => .lst [.int (dot v a), .int (dot v b)]) (fun _ => .fr 1) (fun v mv => ⟨[some (0, .tup [.tup (nL a), .tup (nL b)]), some (0, .tup (nL v)), none, none, none], rfl, rfl, fun _ => ?_⟩))).trans rfl
    simp at mv
    rcases mv with rfl | rfl
    · exact rowE _ A
    · exact rowE _ B
  refine (call1 (G := F_value_of_rows) tab (vor_ok (dot a a) (dot a b) (dot b a) (dot b b) (by omega) (by omega) (by rw [dot_comm b a]; omega) (by omega) fun h => by rw [dot_comm b a]; exact dot_aa0 h b)).trans ?_
  rw [callFl_pu rfl]
  congr 3
  unfold detI
  rw [dot_comm b a]
  by_cases hz : dot a a = 0
  · rw [if_pos hz, hz, dot_aa0 hz b]
    simp
  · rw [if_neg hz, Int.mul_comm]
/-- like of two data, each that datum -/
theorem lk2 {f g : EF} {ρ : PF.Env} {d : D} {x y : Fl} (h1 : f ρ = some (d, x)) (h2 : g ρ = some (d, y)) (hd : lkD 5 d = true) : (tNotF (tTru (eCall (F__law_like 6) (aCons f (aCons g aNil))))) ρ = some false := by
  have := call2 (G := F__law_like 6) h1 h2 (like_ok 5 d hd)
  unfold tNotF tTru
  rw [this]
  rfl
abbrev P4 (a b A B : D) (x4 x5 x6 x7 x8 x9 x10 : Option (Nat × D)) : PF.Env := [some (0, a), some (0, b), some (0, A), some (0, B), x4, x5, x6, x7, x8, x9, x10]
theorem asgT_ev {g : GF} {f : EF} {ρ ρ' : PF.Env} {x : DF} (h : f ρ = some x) (hs : shr x.1 x.2 = true) (hg : g x.1 ρ = some ρ') : sAsgT g f ρ = some (.nx ρ') := by
  unfold sAsgT
  rw [h, Option.bind_some, if_pos hs, hg]
  rfl
theorem or_ff {t u : TF} {ρ : PF.Env} (h1 : t ρ = some false) (h2 : u ρ = some false) : tOrF t u ρ = some false := by
  unfold tOrF
  rw [h1, Option.bind_some, h2]
  rfl
theorem lk_lik (a b : List Nat) : lkD 5 (likD a b) = true := by unfold likD; split <;> rfl
theorem lk_sh (a b : List Nat) : lkD 5 (shD a b) = true := by unfold shD; split <;> rfl
theorem ratD01 : ratD 0 1 = d01 := rfl
theorem pair_ok {m : Nat} (e : Nat) {a b : List Nat} (A : Cs a) (B : Cs b) (hm : 0 < m) : F__law_pair_right [.tup (nL a), .tup (nL b), .tup (prs (bagP m e a)), .tup (prs (bagP m e b))] = some (.bl true, 0) := by
  have h1 := dot_le A A
  have h2 := dot_le A B
  have h3 := dot_le B B
  have h4 := most_le A B
  have h5 := least_le a b
  have h6 : dot a a * dot b b ≤ 2400 * 2400 := Nat.mul_le_mul h1 h3
  have h7 : dot a b * dot a b ≤ 2400 * 2400 := Nat.mul_le_mul h2 h2
  -- over, under
  obtain ⟨ov, un, hun, hov, hun2, e1, e2⟩ : ∃ ov un : Nat, 0 < un ∧ ov ≤ 5760000 ∧ un ≤ 5760000 ∧ F__law_like_of [.tup (nL a), .tup (nL b)] = some (.tup [.int ov, .int un], 0) ∧ likD a b = ratD ov un := by
    have := like_of_ok A B
    unfold likD
    by_cases hz : dot a a * dot b b = 0
    · rw [if_pos hz] at this ⊢
      exact ⟨0, 1, by decide, by decide, by decide, this, rfl⟩
    · rw [if_neg hz] at this ⊢
      exact ⟨_, _, by omega, by omega, by omega, this, rfl⟩
  have symL : likD b a = likD a b := by
    unfold likD
    rw [dot_comm b a, Nat.mul_comm (dot b b)]
  have symS : shD b a = shD a b := by
    unfold shD
    have e3 : mostS b a = mostS a b := by unfold mostS; exact S_congr fun k _ => Nat.max_comm _ _
    have e4 : leastS b a = leastS a b := by unfold leastS; exact S_congr fun k _ => Nat.min_comm _ _
    rw [e3, e4]
  have hpow : ov * un < 2 ^ 1000 := by
    have : ov * un ≤ 5760000 * 5760000 := Nat.mul_le_mul hov hun2
    have h8 : 5760000 * 5760000 < 2 ^ 1000 := by decide +kernel
    omega
  have rat := law_ratio_ok ov un hun hpow (by omega)
  have c1 := call2 (G := F__law_like_of) (a := eVar 0) (b := eVar 1) (ρ := P4 (.tup (nL a)) (.tup (nL b)) (.tup (prs (bagP m e a))) (.tup (prs (bagP m e b))) none none none none none none none) (x := (.tup (nL a), .bo 0)) (y := (.tup (nL b), .bo 0)) rfl rfl e1
  refine fn_rt ?_
  unfold B__law_pair_right
  refine (seq_nx (ρ' := P4 (.tup (nL a)) (.tup (nL b)) (.tup (prs (bagP m e a))) (.tup (prs (bagP m e b))) (nt ov) (nt un) none none none none none) (asgT_ev c1 (shr_pu rfl) rfl)).trans ?_
  -- the likenesses
  have rt := call2 (G := F__law_ratio) (a := eVar 4) (b := eVar 5) (ρ := P4 (.tup (nL a)) (.tup (nL b)) (.tup (prs (bagP m e a))) (.tup (prs (bagP m e b))) (nt ov) (nt un) none none none none none) (x := (.int ov, .bo 0)) (y := (.int un, .bo 0)) rfl rfl rat
  rw [← e2] at rt
  have l1 := call2 (G := F_likeness) (a := eVar 2) (b := eVar 3) (ρ := P4 (.tup (nL a)) (.tup (nL b)) (.tup (prs (bagP m e a))) (.tup (prs (bagP m e b))) (nt ov) (nt un) none none none none none) (x := (.tup (prs (bagP m e a)), .bo 0)) (y := (.tup (prs (bagP m e b)), .bo 0)) rfl rfl (like_ok2 e A B hm)
  have l2 := call2 (G := F_likeness) (a := eVar 3) (b := eVar 2) (ρ := P4 (.tup (nL a)) (.tup (nL b)) (.tup (prs (bagP m e a))) (.tup (prs (bagP m e b))) (nt ov) (nt un) none none none none none) (x := (.tup (prs (bagP m e b)), .bo 0)) (y := (.tup (prs (bagP m e a)), .bo 0)) rfl rfl (like_ok2 e B A hm)
  rw [symL] at l2
  refine (seq_nx (ρ' := P4 (.tup (nL a)) (.tup (nL b)) (.tup (prs (bagP m e a))) (.tup (prs (bagP m e b))) (nt ov) (nt un) none none none none none) ((if_f (lk2 l1 rt (lk_lik a b))).trans rfl)).trans ?_
  refine (seq_nx (ρ' := P4 (.tup (nL a)) (.tup (nL b)) (.tup (prs (bagP m e a))) (.tup (prs (bagP m e b))) (nt ov) (nt un) none none none none none) ((if_f (lk2 l2 rt (lk_lik a b))).trans rfl)).trans ?_
  -- least, most
  have gk : ∀ (x6 x8 : Option (Nat × D)) (k : Nat), k < 6 → eOp eIxF (eVar 0) (eVar 7) (P4 (.tup (nL a)) (.tup (nL b)) (.tup (prs (bagP m e a))) (.tup (prs (bagP m e b))) (nt ov) (nt un) x6 (some (0, .int (0 + (k : Int)))) x8 none none) = some (.int (at0 a k), .fr 0) ∧ eOp eIxF (eVar 1) (eVar 7) (P4 (.tup (nL a)) (.tup (nL b)) (.tup (prs (bagP m e a))) (.tup (prs (bagP m e b))) (nt ov) (nt un) x6 (some (0, .int (0 + (k : Int)))) x8 none none) = some (.int (at0 b k), .fr 0) := fun x6 x8 k hk =>
    ⟨(op_ev (x := (.tup (nL a), .bo 0)) (y := (.int (0 + (k : Int)), .bo 0)) rfl rfl).trans (ix_t k (by omega) (cs_get A hk) rfl), (op_ev (x := (.tup (nL b), .bo 0)) (y := (.int (0 + (k : Int)), .bo 0)) rfl rfl).trans (ix_t k (by omega) (cs_get B hk) rfl)⟩
  have sl : eUn eSumF (eLc (iRange1 (eC (.int 6))) (gNm 7) tYesF [7] (eOp eMin2F (eOp eIxF (eVar 0) (eVar 7)) (eOp eIxF (eVar 1) (eVar 7)))) (P4 (.tup (nL a)) (.tup (nL b)) (.tup (prs (bagP m e a))) (.tup (prs (bagP m e b))) (nt ov) (nt un) none none none none none) = some (.int (leastS a b), .fr 0) := by
    refine sumN_ev (k := 1) (l := (List.range 6).map fun k => min (at0 a k) (at0 b k)) ((lc_all (l := List.range 6) (fun (i : Nat) => D.int (0 + (i : Int))) (fun k => .int ((min (at0 a k) (at0 b k) : Nat) : Int)) (fun _ => .fr 0) (range1_map (n := 6) (fl := .fr 0) rfl (by decide)) (fun k mk => ⟨_, rfl, min_ev (gk none none k (List.mem_range.mp mk)).1 (gk none none k (List.mem_range.mp mk)).2⟩) (fun _ _ => ⟨rfl, .inl rfl⟩) (by rw [List.length_range, sizeLine_eq]; omega)).trans ?_)
    simp only [nL, List.map_map]
    rfl
  refine (seq_nx (ρ' := P4 (.tup (nL a)) (.tup (nL b)) (.tup (prs (bagP m e a))) (.tup (prs (bagP m e b))) (nt ov) (nt un) (nt (leastS a b)) none none none none) ((asg_fr (k := 0) (by simp) sl).trans rfl)).trans ?_
  have sg : eUn eSumF (eLc (iRange1 (eC (.int 6))) (gNm 7) tYesF [7] (eOp eMax2F (eOp eIxF (eVar 0) (eVar 7)) (eOp eIxF (eVar 1) (eVar 7)))) (P4 (.tup (nL a)) (.tup (nL b)) (.tup (prs (bagP m e a))) (.tup (prs (bagP m e b))) (nt ov) (nt un) (nt (leastS a b)) none none none none) = some (.int (mostS a b), .fr 0) := by
    refine sumN_ev (k := 1) (l := (List.range 6).map fun k => max (at0 a k) (at0 b k)) ((lc_all (l := List.range 6) (fun (i : Nat) => D.int (0 + (i : Int))) (fun k => .int ((max (at0 a k) (at0 b k) : Nat) : Int)) (fun _ => .fr 0) (range1_map (n := 6) (fl := .fr 0) rfl (by decide)) (fun k mk => ⟨_, rfl, max_ev (gk (nt (leastS a b)) none k (List.mem_range.mp mk)).1 (gk (nt (leastS a b)) none k (List.mem_range.mp mk)).2⟩) (fun _ _ => ⟨rfl, .inl rfl⟩) (by rw [List.length_range, sizeLine_eq]; omega)).trans ?_)
    simp only [nL, List.map_map]
    rfl
  refine (seq_nx (ρ' := P4 (.tup (nL a)) (.tup (nL b)) (.tup (prs (bagP m e a))) (.tup (prs (bagP m e b))) (nt ov) (nt un) (nt (leastS a b)) none (nt (mostS a b)) none none) ((asg_fr (k := 0) (by simp) sg).trans rfl)).trans ?_
  refine (seq_nx (ρ' := P4 (.tup (nL a)) (.tup (nL b)) (.tup (prs (bagP m e a))) (.tup (prs (bagP m e b))) (nt ov) (nt un) (nt (leastS a b)) none (nt (mostS a b)) (some (0, d11)) none) rfl).trans ?_
  have due : sIf (tBl (eOp iGt (eVar 8) (eC (.int 0)))) (sAsg 9 (eCall F__law_ratio (aCons (eVar 6) (aCons (eVar 8) aNil)))) sNil (P4 (.tup (nL a)) (.tup (nL b)) (.tup (prs (bagP m e a))) (.tup (prs (bagP m e b))) (nt ov) (nt un) (nt (leastS a b)) none (nt (mostS a b)) (some (0, d11)) none) = some (.nx (P4 (.tup (nL a)) (.tup (nL b)) (.tup (prs (bagP m e a))) (.tup (prs (bagP m e b))) (nt ov) (nt un) (nt (leastS a b)) none (nt (mostS a b)) (some (0, shD a b)) none)) := by
    have t : (tBl (eOp iGt (eVar 8) (eC (.int 0)))) (P4 (.tup (nL a)) (.tup (nL b)) (.tup (prs (bagP m e a))) (.tup (prs (bagP m e b))) (nt ov) (nt un) (nt (leastS a b)) none (nt (mostS a b)) (some (0, d11)) none) = some (decide (0 < mostS a b)) := by
      unfold tBl
      rw [op_ev (x := (.int (mostS a b), .bo 0)) (y := (.int 0, .fr 0)) rfl rfl, gt_i]
      exact congrArg some (decide_eq_decide.mpr (by omega))
    by_cases hz : mostS a b = 0
    · rw [decide_eq_false (by omega)] at t
      unfold shD
      rw [if_pos hz, if_f t]
      rfl
    · rw [decide_eq_true (by omega)] at t
      unfold shD
      rw [if_neg hz, if_t t]
      have h8 : leastS a b * mostS a b < 2 ^ 1000 := by
        have : leastS a b * mostS a b ≤ 120 * 120 := Nat.mul_le_mul (by omega) h4
        have h9 : 120 * 120 < 2 ^ 1000 := by decide +kernel
        omega
      exact (asg_fr (k := 0) (by simp) (call2 (x := (.int (leastS a b), .bo 0)) (y := (.int (mostS a b), .bo 0)) rfl rfl (law_ratio_ok (leastS a b) (mostS a b) (by omega) h8 (by omega)))).trans rfl
  refine (seq_nx due).trans ?_
  -- the shared parts
  have s1 := call2 (G := F_shared_part) (a := eVar 2) (b := eVar 3) (ρ := P4 (.tup (nL a)) (.tup (nL b)) (.tup (prs (bagP m e a))) (.tup (prs (bagP m e b))) (nt ov) (nt un) (nt (leastS a b)) none (nt (mostS a b)) (some (0, shD a b)) none) (x := (.tup (prs (bagP m e a)), .bo 0)) (y := (.tup (prs (bagP m e b)), .bo 0)) rfl rfl (shared_ok e A B hm)
  have s2 := call2 (G := F_shared_part) (a := eVar 3) (b := eVar 2) (ρ := P4 (.tup (nL a)) (.tup (nL b)) (.tup (prs (bagP m e a))) (.tup (prs (bagP m e b))) (nt ov) (nt un) (nt (leastS a b)) none (nt (mostS a b)) (some (0, shD a b)) none) (x := (.tup (prs (bagP m e b)), .bo 0)) (y := (.tup (prs (bagP m e a)), .bo 0)) rfl rfl (shared_ok e B A hm)
  rw [symS] at s2
  refine (seq_nx (ρ' := P4 (.tup (nL a)) (.tup (nL b)) (.tup (prs (bagP m e a))) (.tup (prs (bagP m e b))) (nt ov) (nt un) (nt (leastS a b)) none (nt (mostS a b)) (some (0, shD a b)) none) ((if_f (or_ff (lk2 s1 (y := .bo 0) rfl (lk_sh a b)) (lk2 s2 (y := .bo 0) rfl (lk_sh a b)))).trans rfl)).trans ?_
  -- far
  have f1 := call3 (G := F_far) (a := eC (.str "steps")) (b := eVar 0) (c := eVar 1) (ρ := P4 (.tup (nL a)) (.tup (nL b)) (.tup (prs (bagP m e a))) (.tup (prs (bagP m e b))) (nt ov) (nt un) (nt (leastS a b)) none (nt (mostS a b)) (some (0, shD a b)) none) (x := (.str "steps", .fr 0)) (y := (.tup (nL a), .bo 0)) (z := (.tup (nL b), .bo 0)) rfl rfl rfl (far_ok A B)
  have f2 : eOp iSub (eVar 8) (eVar 6) (P4 (.tup (nL a)) (.tup (nL b)) (.tup (prs (bagP m e a))) (.tup (prs (bagP m e b))) (nt ov) (nt un) (nt (leastS a b)) none (nt (mostS a b)) (some (0, shD a b)) none) = some (.int ((mostS a b - leastS a b : Nat) : Int), .fr 0) := by
    have e9 : ((mostS a b : Int) - (leastS a b : Int)) = ((mostS a b - leastS a b : Nat) : Int) := by omega
    rw [op_ev (x := (.int (mostS a b), .bo 0)) (y := (.int (leastS a b), .bo 0)) rfl rfl, sub_i, e9]
  refine (seq_nx (ρ' := P4 (.tup (nL a)) (.tup (nL b)) (.tup (prs (bagP m e a))) (.tup (prs (bagP m e b))) (nt ov) (nt un) (nt (leastS a b)) none (nt (mostS a b)) (some (0, shD a b)) none) ((if_f (lk2 f1 f2 rfl)).trans rfl)).trans ?_
  -- the volume
  have da := call2 (G := F__law_dot) (a := eVar 0) (b := eVar 0) (ρ := P4 (.tup (nL a)) (.tup (nL b)) (.tup (prs (bagP m e a))) (.tup (prs (bagP m e b))) (nt ov) (nt un) (nt (leastS a b)) none (nt (mostS a b)) (some (0, shD a b)) none) (x := (.tup (nL a), .bo 0)) (y := (.tup (nL a), .bo 0)) rfl rfl (dot_ok A A)
  have db := call2 (G := F__law_dot) (a := eVar 1) (b := eVar 1) (ρ := P4 (.tup (nL a)) (.tup (nL b)) (.tup (prs (bagP m e a))) (.tup (prs (bagP m e b))) (nt ov) (nt un) (nt (leastS a b)) none (nt (mostS a b)) (some (0, shD a b)) none) (x := (.tup (nL b), .bo 0)) (y := (.tup (nL b), .bo 0)) rfl rfl (dot_ok B B)
  have dd := call2 (G := F__law_dot) (a := eVar 0) (b := eVar 1) (ρ := P4 (.tup (nL a)) (.tup (nL b)) (.tup (prs (bagP m e a))) (.tup (prs (bagP m e b))) (nt ov) (nt un) (nt (leastS a b)) none (nt (mostS a b)) (some (0, shD a b)) none) (x := (.tup (nL a), .bo 0)) (y := (.tup (nL b), .bo 0)) rfl rfl (dot_ok A B)
  have rest := (op_ev (op := iSub) ((op_ev (op := eMulF) da db).trans (mul_l (by omega))) ((op_ev (op := eMulF) dd dd).trans (mul_l (by omega)))).trans sub_i
  refine (seq_nx (ρ' := P4 (.tup (nL a)) (.tup (nL b)) (.tup (prs (bagP m e a))) (.tup (prs (bagP m e b))) (nt ov) (nt un) (nt (leastS a b)) none (nt (mostS a b)) (some (0, shD a b)) (some (0, .int (detI a b)))) ((asg_fr (k := 0) (by simp) rest).trans rfl)).trans ?_
  have v1 := call1 (G := F_span_volume) (a := eTup (aCons (eVar 0) (aCons (eVar 1) aNil))) (ρ := P4 (.tup (nL a)) (.tup (nL b)) (.tup (prs (bagP m e a))) (.tup (prs (bagP m e b))) (nt ov) (nt un) (nt (leastS a b)) none (nt (mostS a b)) (some (0, shD a b)) (some (0, .int (detI a b)))) (tup2_ev (x := (.tup (nL a), .bo 0)) (y := (.tup (nL b), .bo 0)) rfl rfl rfl rfl) (span_ok A B)
  exact ret_fr (k := 0) ((call2 (G := F__law_like 6) v1 (y := (.int (detI a b), .bo 0)) rfl (like_ok 5 _ rfl)).trans rfl)
end PFG

set_option Elab.async false
set_option linter.all false
set_option maxRecDepth 100000
set_option maxHeartbeats 4000000
namespace PFG
open PySem PySem.Spec PyProof.Rows L2 PF
def putN (l : List (Nat × Nat)) (k v : Nat) : List (Nat × Nat) := if l.any (fun p => p.1 == k) then l.map (fun p => if p.1 == k then (p.1, v) else p) else l ++ [(k, v)]
theorem dPut_kvI (l : List (Nat × Nat)) (k v : Nat) : dPut (kvI l) (.int k) (.int v) = kvI (putN l k v) := by
  unfold dPut putN
  rw [dHas_kvI]
  split
  · simp only [kvI, List.map_map]
    apply List.map_congr_left
    intro p _
    simp only [Function.comp, deq_ii]
    split <;> rfl
  · simp [kvI]
theorem lkp_put (l : List (Nat × Nat)) (k v j : Nat) : lkp (putN l k v) j = if j = k then some v else lkp l j := by
  unfold putN
  by_cases h : l.any (fun p => p.1 == k) = true
  · rw [if_pos h]
    induction l with
    | nil => simp at h
    | cons p l ih =>
      by_cases hp : p.1 = k
      · by_cases hj : j = k
        · subst hj
          rw [if_pos rfl]
          simp [lkp, hp]
        · rw [if_neg hj]
          have hpj : ¬ p.1 = j := fun z => hj (by rw [← z, hp])
          unfold lkp
          rw [List.map_cons]
          simp only [hp, beq_self_eq_true, if_true]
          rw [List.find?_cons_of_neg (by simpa using fun z => hj z.symm), List.find?_cons_of_neg (by simpa using hpj)]
          by_cases h2 : l.any (fun p => p.1 == k) = true
          · have := ih h2
            rw [if_neg hj] at this
            exact this
          · have h3 : ∀ q ∈ l, ¬ q.1 = k := fun q mq z => h2 (List.any_eq_true.mpr ⟨q, mq, by simpa using z⟩)
            have h4 : l.map (fun p => if p.1 == k then (p.1, v) else p) = l := by
              conv => rhs; rw [← List.map_id l]
              apply List.map_congr_left
              intro q mq
              simp [h3 q mq]
            rw [h4]
      · have h2 : l.any (fun p => p.1 == k) = true := by simpa [hp] using h
        have ih := ih h2
        unfold lkp at ih ⊢
        rw [List.map_cons]
        have e : (p.1 == k) = false := beq_eq_false_iff_ne.mpr hp
        simp only [e, Bool.false_eq_true, if_false]
        by_cases hpj : p.1 = j
        · rw [List.find?_cons_of_pos (by simpa using hpj), List.find?_cons_of_pos (by simpa using hpj), if_neg fun z => hp (by rw [hpj, z])]
        · rw [List.find?_cons_of_neg (by simpa using hpj), List.find?_cons_of_neg (by simpa using hpj)]
          exact ih
  · rw [if_neg h]
    have h3 : ∀ q ∈ l, ¬ q.1 = k := fun q mq z => h (List.any_eq_true.mpr ⟨q, mq, by simpa using z⟩)
    unfold lkp
    rw [List.find?_append]
    by_cases hj : j = k
    · subst hj
      rw [if_pos rfl, List.find?_eq_none.mpr fun q mq => by simpa using h3 q mq]
      simp
    · rw [if_neg hj]
      cases hf : l.find? fun p => p.1 == j with
      | none =>
        rw [Option.none_or, List.find?_cons_of_neg (by simpa using fun z => hj z.symm)]
        rfl
      | some p => rfl
theorem put_keys {l : List (Nat × Nat)} (h : Keys l) (k v : Nat) : Keys (putN l k v) := by
  unfold putN
  split
  · have : (l.map (fun p => if p.1 == k then (p.1, v) else p)).map (·.1) = l.map (·.1) := by
      rw [List.map_map]
      apply List.map_congr_left
      intro p _
      simp only [Function.comp]
      split <;> rfl
    unfold Keys
    rw [this]
    exact h
  · rename_i hn
    unfold Keys at h ⊢
    rw [List.map_append, List.nodup_append]
    refine ⟨h, by simp, fun a ha b hb e => hn (List.any_eq_true.mpr ?_)⟩
    obtain ⟨p, mp, rfl⟩ := List.mem_map.mp ha
    simp at hb
    exact ⟨p, mp, by simp [e, hb]⟩
theorem put_len (l : List (Nat × Nat)) (k v : Nat) : (putN l k v).length ≤ l.length + 1 := by
  unfold putN
  split <;> simp
theorem mem_lkp {l : List (Nat × Nat)} (h : Keys l) {k v : Nat} : (k, v) ∈ l ↔ lkp l k = some v := by
  unfold lkp
  constructor
  · intro m
    cases hf : l.find? fun p => p.1 == k with
    | none => exact absurd (List.find?_eq_none.mp hf _ m) (by simp)
    | some p =>
      have h1 := List.find?_some hf
      have h2 := List.mem_of_find?_eq_some hf
      simp only [beq_iff_eq] at h1
      have : p = (k, v) := by
        induction l with
        | nil => cases m
        | cons q l ih =>
          unfold Keys at h
          rw [List.map_cons, List.nodup_cons] at h
          have key : ∀ x ∈ l, ∀ y, y = q → x.1 = y.1 → False := fun x mx y ey e => h.1 (by rw [← ey, ← e]; exact List.mem_map.mpr ⟨x, mx, rfl⟩)
          rcases List.mem_cons.mp m with e1 | m1
          · rcases List.mem_cons.mp h2 with e2 | m2
            · rw [e2, e1]
            · exact (key p m2 (k, v) e1 h1).elim
          · rcases List.mem_cons.mp h2 with e2 | m2
            · exact (key (k, v) m1 p e2 h1.symm).elim
            · refine ih h.2 m1 ?_ m2
              rw [List.find?_cons_of_neg] at hf
              · exact hf
              · intro z
                simp only [beq_iff_eq] at z
                exact key (k, v) m1 q rfl z.symm
      rw [this]
      rfl
  · intro e
    cases hf : l.find? fun p => p.1 == k with
    | none => rw [hf] at e; cases e
    | some p =>
      rw [hf] at e
      cases e
      have h1 := List.find?_some hf
      simp only [beq_iff_eq] at h1
      have h2 := List.mem_of_find?_eq_some hf
      rw [← h1]
      exact h2
/-- the counts of what was met -/
structure Cnt (l : List (Nat × Nat)) (xs : List Nat) : Prop where
  keys : Keys l
  val : ∀ k, lkp l k = if 0 < xs.count k then some (xs.count k) else none
  len : l.length ≤ xs.length
theorem cnt_step {l : List (Nat × Nat)} {xs : List Nat} (C : Cnt l xs) (k : Nat) : Cnt (putN l k (get0 l k + 1)) (xs ++ [k]) := by
  refine ⟨put_keys C.keys _ _, fun j => ?_, ?_⟩
  · rw [lkp_put, List.count_append]
    have g : get0 l k = xs.count k := by
      unfold get0
      rw [C.val]
      split
      · rfl
      · simp only [Option.getD_none]
        omega
    by_cases hj : j = k
    · subst hj
      rw [if_pos rfl, g, List.count_singleton_self, if_pos (by omega)]
    · rw [if_neg hj, C.val]
      have : [k].count j = 0 := List.count_eq_zero.mpr (by simpa using hj)
      rw [this, Nat.add_zero]
  · have := put_len l k (get0 l k + 1)
    have := C.len
    rw [List.length_append]
    simp only [List.length_cons, List.length_nil]
    omega
end PFG

set_option Elab.async false
set_option linter.all false
set_option maxRecDepth 100000
set_option maxHeartbeats 4000000
namespace PFG
open PySem PySem.Spec PyProof.Rows L2 PF
theorem cmp_int (n : Nat) (a b : Int) : cmpB n (.int a) (.int b) = true := by cases n <;> rfl
theorem cmp_pair (a b c d : Int) : cmpB 8 (.tup [.int a, .int b]) (.tup [.int c, .int d]) = true := by
  have e : ∀ x y : Int, (deq (.int x) (.int y) == decide (enc (.int x) = enc (.int y))) = true := fun x y => by
    have : decide (enc (.int x) = enc (.int y)) = decide (x = y) := by
      apply decide_eq_decide.mpr
      simp [enc]
    rw [this]
    show (decide (x = y) == decide (x = y)) = true
    simp
  show cmpB.go 7 [.int a, .int b] [.int c, .int d] = true
  simp only [cmpB.go, e, cmp_int, Bool.or_true, Bool.and_true]
theorem sort_prs (l : List (Nat × Nat)) : sortOk (prs l) = true := by
  unfold sortOk
  have h1 : (prs l).all (okD 60) = true := by
    rw [List.all_eq_true]
    intro d m
    obtain ⟨p, _, rfl⟩ := List.mem_map.mp m
    rfl
  have h2 : (prs l).all (headT · == some 0) = true := by
    rw [List.all_eq_true]
    intro d m
    obtain ⟨p, _, rfl⟩ := List.mem_map.mp m
    rfl
  have h3 : ((prs l).all fun x => (prs l).all fun y => cmpB 8 x y) = true := by
    rw [List.all_eq_true]
    intro d m
    rw [List.all_eq_true]
    intro d' m'
    obtain ⟨p, _, rfl⟩ := List.mem_map.mp m
    obtain ⟨p', _, rfl⟩ := List.mem_map.mp m'
    exact cmp_pair _ _ _ _
  rw [pu_prs, h1, h2, h3]
  simp
theorem prD_kvI (l : List (Nat × Nat)) : PF.prD (kvI l) = prs l := by unfold PF.prD; rw [List.map_map]; rfl
abbrev BB : SF := sPut 1 (eVar 2) (eOp eAddF (eDGet2 (eVar 1) (eVar 2) (eC (.int 0))) (eC (.int 1)))
theorem bag_loop (T : D) : ∀ (xs pre : List Nat) (l : List (Nat × Nat)) (x2 : Option (Nat × D)), Cnt l pre → pre.length + xs.length ≤ 1000 →
    ∃ l' x2', forF (gNm 2) BB (nL xs) [some (0, T), some (1, .dic .k (kvI l)), x2] = some (.nx [some (0, T), some (1, .dic .k (kvI l')), x2']) ∧ Cnt l' (pre ++ xs)
  | [], pre, l, x2, C, _ => ⟨l, x2, rfl, by simpa using C⟩
  | k :: xs, pre, l, x2, C, hl => by
    have hb : BB [some (0, T), some (1, .dic .k (kvI l)), some (0, .int k)] = some (.nx [some (0, T), some (1, .dic .k (kvI (putN l k (get0 l k + 1)))), some (0, .int k)]) := by
      have e1 : eOp eAddF (eDGet2 (eVar 1) (eVar 2) (eC (.int 0))) (eC (.int 1)) [some (0, T), some (1, .dic .k (kvI l)), some (0, .int k)] = some (.int ((get0 l k + 1 : Nat) : Int), .fr 0) := by
        rw [op_ev (y := (.int 1, .fr 0)) (get_ev (l := l) (k := k) (x := .bo 1) (y := .bo 0) rfl rfl) rfl, add_i]
        rfl
      have e2 : eVar 2 [some (0, T), some (1, .dic .k (kvI l)), some (0, .int k)] = some (.int k, .bo 0) := rfl
      have h3 : (kvI l).length < sizeLine := by
        rw [show (kvI l).length = l.length from List.length_map .., sizeLine_eq]
        have := C.len
        simp only [List.length_cons] at hl
        omega
      show sPut 1 (eVar 2) _ _ = _
      unfold sPut
      rw [e1, Option.bind_some, e2, Option.bind_some]
      simp only [List.getElem?_cons_succ, List.getElem?_cons_zero]
      rw [if_pos ⟨rfl, h3, rfl⟩, dPut_kvI]
      rfl
    obtain ⟨l', x2', h1, h2⟩ := bag_loop T xs (pre ++ [k]) _ (some (0, .int k)) (cnt_step C k) (by simp at hl ⊢; omega)
    exact ⟨l', x2', (forF_nx rfl hb).trans h1, by simpa using h2⟩
theorem bag_of_gen (xs : List Nat) (h : xs.length ≤ 1000) : ∃ l, Cnt l xs ∧ F_bag_of [.tup (nL xs)] = some (.tup (dsort (prs l)), 0) := by
  obtain ⟨l, x2, h1, h2⟩ := bag_loop (.tup (nL xs)) xs [] [] none ⟨List.nodup_nil, fun k => rfl, Nat.le_refl _⟩ (by simpa using h)
  refine ⟨l, by simpa using h2, fn_rt ?_⟩
  unfold B_bag_of
  refine (seq_nx (ρ' := [some (0, .tup (nL xs)), some (1, .dic .k (kvI [])), none]) rfl).trans ((seq_nx ((for_ev (items := nL xs) rfl).trans h1)).trans (ret_fr (k := 0) (tuple_ev (k := 1) ?_)))
  show eUn eSortItF (eVar 1) _ = _
  rw [un_ev (x := (.dic .k (kvI l), .bo 1)) rfl]
  unfold eSortItF
  simp only
  rw [prD_kvI, if_pos ⟨.inl trivial, sort_prs l⟩]
theorem dlt_pair (a b c d : Nat) : dlt (.tup [.int a, .int b]) (.tup [.int c, .int d]) = if a = c then decide (b < d) else decide (a < c) := by
  rw [dlt_tup]
  have e : ∀ x y : Nat, (enc (.int x) = enc (.int y)) ↔ x = y := fun x y => by simp [enc]; omega
  unfold dltL
  by_cases h : a = c
  · subst h
    rw [if_pos rfl, if_pos rfl]
    unfold dltL
    by_cases h2 : b = d
    · subst h2
      rw [if_pos rfl]
      simp [dltL]
    · rw [if_neg (by rw [e]; exact h2), dlt_int]
      apply decide_eq_decide.mpr
      omega
  · rw [if_neg (by rw [e]; exact h), if_neg h, dlt_int]
    apply decide_eq_decide.mpr
    omega
/-- the sorted pairs -/
theorem sort_to {l l' : List (Nat × Nat)} (p : l.Perm l') (hs : l'.Pairwise fun x y => x.1 < y.1) : dsort (prs l) = prs l' := by
  refine List.Perm.eq_of_pairwise (le := fun x y => dlt y x = false) (fun a b ma mb h1 h2 => ?_) (dsort_srtd _) ?_ ((dsort_perm _).trans (p.map _))
  · obtain ⟨p, _, rfl⟩ := List.mem_map.mp ((dsort_perm _).mem_iff.mp ma)
    obtain ⟨q, _, rfl⟩ := List.mem_map.mp mb
    rw [dlt_pair] at h1 h2
    by_cases h : p.1 = q.1
    · rw [if_pos h.symm] at h1
      rw [if_pos h] at h2
      have := of_decide_eq_false h1
      have := of_decide_eq_false h2
      rw [h, show p.2 = q.2 by omega]
    · rw [if_neg fun z => h z.symm] at h1
      rw [if_neg h] at h2
      have := of_decide_eq_false h1
      have := of_decide_eq_false h2
      omega
  · rw [List.pairwise_map]
    refine hs.imp fun {x y} hxy => ?_
    rw [dlt_pair, if_neg (by omega)]
    exact decide_eq_false (by omega)
theorem bag_sorted {m : Nat} (e : Nat) (cs : List Nat) (hm : 0 < m) : (bagP m e cs).Pairwise fun x y => x.1 < y.1 := by
  unfold bagP bagU
  rw [List.pairwise_map]
  refine (List.Pairwise.sublist List.filter_sublist List.pairwise_lt_range).imp fun {j k} h => ?_
  show m * (j + 1) + e < m * (k + 1) + e
  have := (Nat.mul_lt_mul_left hm).mpr (show j + 1 < k + 1 by omega)
  omega
theorem bag_of_ok {m : Nat} (e : Nat) {ts : List Nat} (T : Things 20 ts) (hm : 0 < m) : F_bag_of [.tup (nL (ts.map fun t => m * t + e))] = some (.tup (prs (bagP m e (cnt ts))), 0) := by
  obtain ⟨l, C, h⟩ := bag_of_gen (ts.map fun t => m * t + e) (by rw [List.length_map]; have := T.len; omega)
  rw [h, sort_to (l' := bagP m e (cnt ts)) ?_ (bag_sorted e (cnt ts) hm)]
  have inj : ∀ t u : Nat, m * t + e = m * u + e → t = u := fun t u h => Nat.eq_of_mul_eq_mul_left hm (by omega)
  have cm : ∀ t : Nat, (ts.map fun t => m * t + e).count (m * t + e) = ts.count t := fun t => by
    rw [List.count_eq_countP, List.countP_map, List.count_eq_countP]
    congr 1
    funext u
    show (m * u + e == m * t + e) = (u == t)
    by_cases hu : u = t
    · subst hu; simp
    · rw [beq_eq_false_iff_ne.mpr hu, beq_eq_false_iff_ne.mpr fun z => hu (inj _ _ z)]
  have ac : ∀ k, k < 6 → at0 (cnt ts) k = ts.count (1 + k) := fun k hk => by
    unfold at0 cnt
    simp [List.getD, hk]
  have nd : ∀ {l : List (Nat × Nat)}, Keys l → l.Nodup := fun {l} h => by
    unfold Keys at h
    exact (List.pairwise_map.mp h).imp fun {a b} hab z => hab (by rw [z])
  refine (List.perm_ext_iff_of_nodup (nd C.keys) (nd (bag_keys e _ hm))).mpr fun ⟨k, v⟩ => ?_
  rw [mem_lkp C.keys, C.val]
  constructor
  · intro h
    split at h
    · rename_i h0
      cases h
      obtain ⟨t, mt, rfl⟩ := List.mem_map.mp (List.count_pos_iff.mp h0)
      obtain ⟨t1, t6⟩ := T.ge t mt
      rw [cm] at h0 ⊢
      refine List.mem_map.mpr ⟨t - 1, List.mem_filter.mpr ⟨List.mem_range.mpr (by omega), ?_⟩, ?_⟩
      · rw [ac _ (by omega), show 1 + (t - 1) = t by omega]
        simpa using h0
      · rw [ac _ (by omega), show 1 + (t - 1) = t by omega, show t - 1 + 1 = t by omega]
    · cases h
  · intro h
    obtain ⟨j, hj, e1, h0⟩ := th_at m e _ h
    cases e1
    rw [ac j hj] at h0 ⊢
    rw [cm, show j + 1 = 1 + j by omega, if_pos h0]
end PFG

set_option Elab.async false
set_option linter.all false
set_option maxRecDepth 100000
set_option maxHeartbeats 4000000
namespace PFG
open PySem PySem.Spec PyProof.Rows L2 PF
theorem tw_iff {α : Type} {P : α → Bool} : ∀ {l : List α} {m : Nat} {x : α}, l.Pairwise (fun x y => P y = true → P x = true) → l[m]? = some x → (P x = true ↔ m < (l.takeWhile P).length)
  | [], m, x, _, e => by simp at e
  | a :: l, m, x, h, e => by
    obtain ⟨h1, h2⟩ := List.pairwise_cons.mp h
    by_cases ha : P a = true
    · rw [List.takeWhile_cons_of_pos ha, List.length_cons]
      cases m with
      | zero =>
        simp at e
        subst e
        simp [ha]
      | succ m =>
        rw [tw_iff h2 (by simpa using e)]
        omega
    · rw [List.takeWhile_cons_of_neg ha]
      cases m with
      | zero =>
        simp at e
        subst e
        simp [ha]
      | succ m =>
        have := h1 x (List.mem_of_getElem? (by simpa using e))
        simp only [List.length_nil, Nat.not_lt_zero, iff_false]
        exact fun z => ha (this z)
abbrev T3 := Nat × Nat × Nat
abbrev bD (l : List T3) : List D := l.map fun t => .tup [.int t.1, .int t.2.1, .int t.2.2]
def geP (ov un : Nat) (t : T3) : Bool := decide (ov * t.2.1 ≤ t.1 * un)
abbrev ER (l : List T3) (ov un lo hi : Nat) (m : Option (Nat × D)) : PF.Env := [some (0, .lst (bD l)), some (0, .int ov), some (0, .int un), nt lo, nt hi, m]
theorem rank_ok {l : List T3} {ov un : Nat} (hl : l.length ≤ 1000) (hb : ∀ t ∈ l, t.1 < 2 ^ 30 ∧ t.2.1 < 2 ^ 30) (ho : ov < 2 ^ 30) (hu : un < 2 ^ 30) (mono : l.Pairwise fun x y => geP ov un y = true → geP ov un x = true) :
    F__rank [.lst (bD l), .int ov, .int un] = some (.int ((l.takeWhile (geP ov un)).length : Nat), 0) := by
  have tl : (l.takeWhile (geP ov un)).length ≤ l.length := (List.takeWhile_sublist _).length_le
  have lb : (bD l).length = l.length := List.length_map ..
  refine fn_rt ?_
  unfold B__rank
  refine (seq_nx (ρ' := [some (0, .lst (bD l)), some (0, .int ov), some (0, .int un), nt 0, none, none]) rfl).trans ?_
  refine (seq_nx (ρ' := ER l ov un 0 l.length none) ((asg_fr (k := 0) (d := .int l.length) (by simp) (by rw [un_ev (x := (.lst (bD l), .bo 0)) rfl, len_l, lb])).trans rfl)).trans ?_
  obtain ⟨ρ', h1, m, h2⟩ := while_rule (t := tBl (eOp iLt (eVar 3) (eVar 4))) (b := sSeq (sAsg 5 (eOp iDiv (eOp eAddF (eVar 3) (eVar 4)) (eC (.int 2))))
    (sIf (tBl (eOp iGe (eOp eMulF (eOp eIxF (eOp eIxF (eVar 0) (eVar 5)) (eC (.int 0))) (eVar 2)) (eOp eMulF (eVar 1) (eOp eIxF (eOp eIxF (eVar 0) (eVar 5)) (eC (.int 1))))))
    (sAsg 3 (eOp eAddF (eVar 5) (eC (.int 1))))
    (sAsg 4 (eVar 5)))) (fun n ρ => ∃ lo hi m, ρ = ER l ov un lo hi m ∧ lo ≤ (l.takeWhile (geP ov un)).length ∧ (l.takeWhile (geP ov un)).length ≤ hi ∧ hi ≤ l.length ∧ n = hi - lo)
    (R := fun ρ => ∃ m, ρ = ER l ov un (l.takeWhile (geP ov un)).length (l.takeWhile (geP ov un)).length m) (n := l.length) (ρ := ER l ov un 0 l.length none) ⟨0, l.length, none, rfl, Nat.zero_le _, tl, Nat.le_refl _, rfl⟩ (by unfold FUEL; omega) (by
      rintro n ρ ⟨lo, hi, m, rfl, h1, h2, h3, rfl⟩
      have t : tBl (eOp iLt (eVar 3) (eVar 4)) (ER l ov un lo hi m) = some (decide (lo < hi)) := by
        unfold tBl
        rw [op_ev (x := (.int lo, .bo 0)) (y := (.int hi, .bo 0)) rfl rfl, lt_i]
        exact congrArg some (decide_eq_decide.mpr (by omega))
      by_cases hlt : lo < hi
      · refine .inr ⟨by rw [t, decide_eq_true hlt], ?_⟩
        have hm : (lo + hi) / 2 < l.length := by omega
        have em := List.getElem?_eq_getElem hm
        generalize hx : l[(lo + hi) / 2] = x at em
        obtain ⟨bx1, bx2⟩ := hb x (List.mem_of_getElem? em)
        have iff := tw_iff (P := geP ov un) mono em
        have ed : (bD l)[(lo + hi) / 2]? = some (.tup [.int x.1, .int x.2.1, .int x.2.2]) := by rw [List.getElem?_map, em]; rfl
        have mid : sAsg 5 (eOp iDiv (eOp eAddF (eVar 3) (eVar 4)) (eC (.int 2))) (ER l ov un lo hi m) = some (.nx (ER l ov un lo hi (nt ((lo + hi) / 2)))) := by
          refine (asg_fr (k := 0) (d := .int (((lo + hi) / 2 : Nat) : Int)) (by simp) ?_).trans rfl
          rw [op_ev (x := (.int ((lo : Int) + hi), .fr 0)) (y := (.int 2, .fr 0)) rfl rfl, iDiv_lit (by decide) (by decide)]
          rfl
        have g : ∀ (j : Nat) (v : Int), [D.int x.1, .int x.2.1, .int x.2.2][j]? = some (.int v) → eOp eIxF (eOp eIxF (eVar 0) (eVar 5)) (eC (.int j)) (ER l ov un lo hi (nt ((lo + hi) / 2))) = some (.int v, .fr 0) := fun j v e =>
          (op_ev (y := (.int j, .fr 0)) ((op_ev (x := (.lst (bD l), .bo 0)) (y := (.int (((lo + hi) / 2 : Nat) : Int), .bo 0)) rfl rfl).trans (ix_l _ rfl ed)) rfl).trans (ix_t j rfl e rfl)
        have c : tBl (eOp iGe (eOp eMulF (eOp eIxF (eOp eIxF (eVar 0) (eVar 5)) (eC (.int 0))) (eVar 2)) (eOp eMulF (eVar 1) (eOp eIxF (eOp eIxF (eVar 0) (eVar 5)) (eC (.int 1))))) (ER l ov un lo hi (nt ((lo + hi) / 2))) = some (geP ov un x) := by
          have g0 : eOp eIxF (eOp eIxF (eVar 0) (eVar 5)) (eC (.int 0)) (ER l ov un lo hi (nt ((lo + hi) / 2))) = some (.int x.1, .fr 0) := g 0 x.1 rfl
          have g1 : eOp eIxF (eOp eIxF (eVar 0) (eVar 5)) (eC (.int 1)) (ER l ov un lo hi (nt ((lo + hi) / 2))) = some (.int x.2.1, .fr 0) := g 1 x.2.1 rfl
          have k1 := (op_ev (op := eMulF) (y := (.int un, .bo 0)) (g := eVar 2) g0 rfl).trans (mul_l (by omega))
          have k2 := (op_ev (op := eMulF) (x := (.int ov, .bo 0)) (f := eVar 1) rfl g1).trans (mul_l (by omega))
          unfold tBl
          rw [op_ev k1 k2, ge_i]
          refine congrArg some (decide_eq_decide.mpr ?_)
          rw [← Int.natCast_mul, ← Int.natCast_mul]
          omega
        by_cases hp : geP ov un x = true
        · rw [hp] at c
          have := iff.mp hp
          refine ⟨ER l ov un ((lo + hi) / 2 + 1) hi (nt ((lo + hi) / 2)), hi - ((lo + hi) / 2 + 1), (seq_nx mid).trans ((if_t c).trans rfl), by omega, (lo + hi) / 2 + 1, hi, _, rfl, by omega, h2, h3, rfl⟩
        · have hp' : geP ov un x = false := by simpa using hp
          rw [hp'] at c
          have : ¬ (lo + hi) / 2 < (l.takeWhile (geP ov un)).length := fun z => hp (iff.mpr z)
          refine ⟨ER l ov un lo ((lo + hi) / 2) (nt ((lo + hi) / 2)), (lo + hi) / 2 - lo, (seq_nx mid).trans ((if_f c).trans rfl), by omega, lo, (lo + hi) / 2, _, rfl, h1, by omega, by omega, rfl⟩
      · refine .inl ⟨by rw [t, decide_eq_false hlt], m, ?_⟩
        have e1 : lo = (l.takeWhile (geP ov un)).length := by omega
        have e2 : hi = (l.takeWhile (geP ov un)).length := by omega
        rw [← e1, show hi = lo by omega])
  subst h2
  exact (seq_nx h1).trans (ret_bo (k := 0) rfl)
end PFG

set_option Elab.async false
set_option linter.all false
set_option maxRecDepth 100000
set_option maxHeartbeats 4000000
namespace PFG
open PySem PySem.Spec PyProof.Rows L2 PF
/-- put in behind the first ones that hold P -/
def insP {α : Type} (P : α → Bool) (t : α) : List α → List α
  | [] => [t]
  | x :: l => if P x then x :: insP P t l else t :: x :: l
theorem insP_eq {α : Type} (P : α → Bool) (t : α) : ∀ l : List α, l.take (l.takeWhile P).length ++ [t] ++ l.drop (l.takeWhile P).length = insP P t l
  | [] => rfl
  | x :: l => by
    unfold insP
    by_cases h : P x = true
    · rw [if_pos h, List.takeWhile_cons_of_pos h, List.length_cons, List.take_succ_cons, List.drop_succ_cons, ← insP_eq P t l]
      simp
    · rw [if_neg h, List.takeWhile_cons_of_neg h]
      simp
theorem insP_take {α : Type} (P : α → Bool) (t : α) : ∀ (l : List α) (K : Nat), (insP P t (l.take K)).take K = (insP P t l).take K
  | _, 0 => by simp
  | [], K + 1 => by simp
  | x :: l, K + 1 => by
    rw [List.take_succ_cons]
    unfold insP
    by_cases h : P x = true
    · rw [if_pos h, if_pos h, List.take_succ_cons, List.take_succ_cons, insP_take P t l K]
    · rw [if_neg h, if_neg h, List.take_succ_cons, List.take_succ_cons]
      congr 1
      cases K with
      | zero => simp
      | succ K => rw [List.take_succ_cons, List.take_succ_cons, List.take_take]; congr 2; omega
theorem insP_len {α : Type} (P : α → Bool) (t : α) : ∀ l : List α, (insP P t l).length = l.length + 1
  | [] => rfl
  | x :: l => by
    unfold insP
    split
    · rw [List.length_cons, insP_len P t l, List.length_cons]
    · simp
theorem insP_mem {α : Type} (P : α → Bool) (t : α) : ∀ {l : List α} {x : α}, x ∈ insP P t l → x = t ∨ x ∈ l
  | [], x, h => by simpa [insP] using h
  | y :: l, x, h => by
    unfold insP at h
    split at h
    · rcases List.mem_cons.mp h with rfl | h
      · exact .inr List.mem_cons_self
      · exact (insP_mem P t h).imp id (List.mem_cons_of_mem _)
    · rcases List.mem_cons.mp h with rfl | h
      · exact .inl rfl
      · exact .inr h
theorem insP_map {α β : Type} (f : α → β) (P : β → Bool) (Q : α → Bool) (t : α) : ∀ {l : List α}, (∀ x ∈ l, P (f x) = Q x) → insP P (f t) (l.map f) = (insP Q t l).map f
  | [], _ => rfl
  | x :: l, h => by
    rw [List.map_cons]
    unfold insP
    rw [h x List.mem_cons_self]
    split
    · rw [List.map_cons, insP_map f P Q t fun y m => h y (List.mem_cons_of_mem _ m)]
    · rfl
/-- x is at least y -/
def ge3 (x y : T3) : Prop := y.1 * x.2.1 ≤ x.1 * y.2.1
theorem ge3_tr {x y z : T3} (hy : 0 < y.2.1) (h1 : ge3 x y) (h2 : ge3 y z) : ge3 x z := by
  unfold ge3 at *
  have a1 : y.2.1 * (z.1 * x.2.1) ≤ y.2.1 * (x.1 * z.2.1) := by
    calc y.2.1 * (z.1 * x.2.1) = (z.1 * y.2.1) * x.2.1 := by rw [← Nat.mul_assoc, Nat.mul_comm y.2.1]
      _ ≤ (y.1 * z.2.1) * x.2.1 := Nat.mul_le_mul_right _ h2
      _ = (y.1 * x.2.1) * z.2.1 := by rw [Nat.mul_assoc, Nat.mul_comm z.2.1, ← Nat.mul_assoc]
      _ ≤ (x.1 * y.2.1) * z.2.1 := Nat.mul_le_mul_right _ h1
      _ = y.2.1 * (x.1 * z.2.1) := by rw [Nat.mul_comm x.1, Nat.mul_assoc]
  exact Nat.le_of_mul_le_mul_left a1 hy
theorem geP_iff {t x : T3} : geP t.1 t.2.1 x = true ↔ ge3 x t := by
  unfold geP ge3
  rw [decide_eq_true_iff]
structure Good (l : List T3) : Prop where
  pos : ∀ t ∈ l, 0 < t.2.1 ∧ t.1 < 2 ^ 30 ∧ t.2.1 < 2 ^ 30
  srt : l.Pairwise ge3
theorem good_mono {l : List T3} (G : Good l) (t : T3) : l.Pairwise fun x y => geP t.1 t.2.1 y = true → geP t.1 t.2.1 x = true := by
  refine List.Pairwise.imp_of_mem (fun {x y} mx my h => ?_) G.srt
  rw [geP_iff, geP_iff]
  exact fun h2 => ge3_tr (G.pos y my).1 h h2
theorem good_ins {t : T3} (ht : 0 < t.2.1 ∧ t.1 < 2 ^ 30 ∧ t.2.1 < 2 ^ 30) : ∀ {l : List T3}, Good l → Good (insP (geP t.1 t.2.1) t l) := fun {l} => by
  induction l with
  | nil => exact fun _ => ⟨fun x m => by simp [insP] at m; rw [m]; exact ht, List.pairwise_singleton _ _⟩
  | cons x l ih =>
    intro G
    obtain ⟨h1, h2⟩ := List.pairwise_cons.mp G.srt
    have Gl : Good l := ⟨fun y m => G.pos y (List.mem_cons_of_mem _ m), h2⟩
    unfold insP
    split
    · rename_i hx
      have I := ih Gl
      refine ⟨fun y m => (List.mem_cons.mp m).elim (fun e => by rw [e]; exact G.pos x List.mem_cons_self) (I.pos y), List.pairwise_cons.mpr ⟨fun y m => ?_, I.srt⟩⟩
      rcases insP_mem _ _ m with rfl | m
      · exact geP_iff.mp hx
      · exact h1 y m
    · rename_i hx
      have hx' : ge3 t x := by
        have : ¬ ge3 x t := fun z => hx (geP_iff.mpr z)
        unfold ge3 at this ⊢
        omega
      refine ⟨fun y m => (List.mem_cons.mp m).elim (fun e => by rw [e]; exact ht) (G.pos y), List.pairwise_cons.mpr ⟨fun y m => ?_, G.srt⟩⟩
      rcases List.mem_cons.mp m with rfl | m
      · exact hx'
      · exact ge3_tr (G.pos x List.mem_cons_self).1 hx' (h1 y m)
theorem good_take {l : List T3} (G : Good l) (K : Nat) : Good (l.take K) := ⟨fun t m => G.pos t (List.mem_of_mem_take m), G.srt.sublist (List.take_sublist _ _)⟩
end PFG

set_option Elab.async false
set_option linter.all false
set_option maxRecDepth 100000
set_option maxHeartbeats 4000000
namespace PFG
open PySem PySem.Spec PyProof.Rows L2 PF
def up (a b : List Nat) : Nat × Nat := if dot a a * dot b b = 0 then (0, 1) else (dot a b * dot a b, dot a a * dot b b)
def rp (a b : List Nat) : Nat × Nat := ((up a b).1 / Nat.gcd (up a b).1 (up a b).2, (up a b).2 / Nat.gcd (up a b).1 (up a b).2)
theorem up_ok {a b : List Nat} (A : Cs a) (B : Cs b) : 0 < (up a b).2 ∧ (up a b).1 ≤ 5760000 ∧ (up a b).2 ≤ 5760000 := by
  have h1 := dot_le A A
  have h2 := dot_le A B
  have h3 := dot_le B B
  have h6 : dot a a * dot b b ≤ 2400 * 2400 := Nat.mul_le_mul h1 h3
  have h7 : dot a b * dot a b ≤ 2400 * 2400 := Nat.mul_le_mul h2 h2
  unfold up
  split
  · exact ⟨by decide, by decide, by decide⟩
  · exact ⟨by omega, by simpa using h7, by simpa using h6⟩
theorem like_of_up {a b : List Nat} (A : Cs a) (B : Cs b) : F__law_like_of [.tup (nL a), .tup (nL b)] = some (.tup [.int (up a b).1, .int (up a b).2], 0) := by
  rw [like_of_ok A B]
  unfold up
  split <;> rfl
theorem lik_rp (a b : List Nat) : likD a b = .tup [.int (rp a b).1, .int (rp a b).2] := by
  unfold likD rp up
  split <;> rfl
theorem rp_ok {a b : List Nat} (A : Cs a) (B : Cs b) : 0 < (rp a b).2 ∧ (rp a b).1 < 2 ^ 30 ∧ (rp a b).2 < 2 ^ 30 ∧ ∃ g, 0 < g ∧ (up a b).1 = g * (rp a b).1 ∧ (up a b).2 = g * (rp a b).2 := by
  obtain ⟨h1, h2, h3⟩ := up_ok A B
  have gp : 0 < Nat.gcd (up a b).1 (up a b).2 := Nat.gcd_pos_of_pos_right _ h1
  have e1 := Nat.mul_div_cancel' (Nat.gcd_dvd_left (up a b).1 (up a b).2)
  have e2 := Nat.mul_div_cancel' (Nat.gcd_dvd_right (up a b).1 (up a b).2)
  unfold rp
  refine ⟨?_, ?_, ?_, _, gp, e1.symm, e2.symm⟩
  · exact Nat.div_pos (Nat.gcd_le_right _ h1) gp
  · have := Nat.div_le_self (up a b).1 (Nat.gcd (up a b).1 (up a b).2)
    simp only
    omega
  · have := Nat.div_le_self (up a b).2 (Nat.gcd (up a b).1 (up a b).2)
    simp only
    omega
section
variable (css : List (List Nat)) (q : List Nat)
def cat (i : Nat) : List Nat := css.getD i []
def tr3 (i : Nat) : T3 := ((rp (cat css i) q).1, (rp (cat css i) q).2, i)
def Qi (i j : Nat) : Bool := decide ((up (cat css i) q).1 * (up (cat css j) q).2 ≤ (up (cat css j) q).1 * (up (cat css i) q).2)
def RK : Nat → List Nat
  | 0 => []
  | i + 1 => insP (Qi css q i) i (RK i)
variable {css q}
theorem RK_len (i : Nat) : (RK css q i).length = i := by
  induction i with
  | zero => rfl
  | succ i ih => unfold RK; rw [insP_len, ih]
theorem RK_mem {i j : Nat} : j ∈ RK css q i → j < i := by
  induction i with
  | zero => intro h; cases h
  | succ i ih =>
    intro h
    rcases insP_mem _ _ h with rfl | h
    · omega
    · have := ih h; omega
theorem Q_eq (hc : ∀ i, i < css.length → Cs (cat css i)) (C : Cs q) {i j : Nat} (hi : i < css.length) (hj : j < css.length) : geP (tr3 css q i).1 (tr3 css q i).2.1 (tr3 css q j) = Qi css q i j := by
  obtain ⟨_, _, _, g, hg, e1, e2⟩ := rp_ok (hc i hi) C
  obtain ⟨_, _, _, k, hk, e3, e4⟩ := rp_ok (hc j hj) C
  unfold geP Qi tr3
  rw [e1, e2, e3, e4]
  apply decide_eq_decide.mpr
  simp only
  generalize (rp (cat css i) q).1 = a
  generalize (rp (cat css i) q).2 = b
  generalize (rp (cat css j) q).1 = c
  generalize (rp (cat css j) q).2 = d
  have x1 : g * a * (k * d) = (g * k) * (a * d) := by rw [Nat.mul_assoc, ← Nat.mul_assoc a, Nat.mul_comm a k, Nat.mul_assoc k, ← Nat.mul_assoc]
  have x2 : k * c * (g * b) = (g * k) * (c * b) := by rw [Nat.mul_assoc, ← Nat.mul_assoc c, Nat.mul_comm c g, Nat.mul_assoc g, ← Nat.mul_assoc, Nat.mul_comm k g]
  rw [x1, x2]
  exact ⟨fun h => Nat.mul_le_mul_left _ h, fun h => Nat.le_of_mul_le_mul_left h (Nat.mul_pos hg hk)⟩
theorem FL_succ (hc : ∀ i, i < css.length → Cs (cat css i)) (C : Cs q) {i : Nat} (hi : i < css.length) : (RK css q (i + 1)).map (tr3 css q) = insP (geP (tr3 css q i).1 (tr3 css q i).2.1) (tr3 css q i) ((RK css q i).map (tr3 css q)) := by
  show (insP (Qi css q i) i (RK css q i)).map _ = _
  rw [insP_map (tr3 css q) _ (Qi css q i) i fun j mj => Q_eq hc C hi (by have := RK_mem mj; omega)]
theorem FL_good (hc : ∀ i, i < css.length → Cs (cat css i)) (C : Cs q) : ∀ {i : Nat}, i ≤ css.length → Good ((RK css q i).map (tr3 css q))
  | 0, _ => ⟨fun _ m => (by cases m), List.Pairwise.nil⟩
  | i + 1, h => by
    rw [FL_succ hc C (by omega)]
    refine good_ins ?_ (FL_good hc C (by omega))
    obtain ⟨h1, h2, h3, _⟩ := rp_ok (hc i (by omega)) C
    exact ⟨h1, h2, h3⟩
end
theorem cat_get {css : List (List Nat)} {i : Nat} (h : i < css.length) : css[i]? = some (cat css i) := by
  rw [List.getElem?_eq_getElem h]
  unfold cat
  simp [List.getD, h]
theorem for_map {g : GF} {b : SF} (F : Nat → D) (W : Nat → PF.Env → Prop) {n : Nat} : ∀ {m lo : Nat} {ρ : PF.Env}, lo + m = n → W lo ρ → (∀ (i : Nat) (ρ : PF.Env), lo ≤ i → i < n → W i ρ → ∃ ρ1 ρ', g (F i) ρ = some ρ1 ∧ b ρ1 = some (.nx ρ') ∧ W (i + 1) ρ') →
    ∃ ρ', forF g b ((List.range m).map fun (j : Nat) => F (lo + j)) ρ = some (.nx ρ') ∧ W n ρ'
  | 0, lo, ρ, e, h, _ => ⟨ρ, rfl, by rw [← e]; exact h⟩
  | m + 1, lo, ρ, e, h, s => by
    obtain ⟨ρ1, ρ2, h1, h2, h3⟩ := s lo ρ (Nat.le_refl _) (by omega) h
    rw [List.range_succ_eq_map, List.map_cons, List.map_map]
    obtain ⟨ρ', h4, h5⟩ := for_map F W (m := m) (lo := lo + 1) (ρ := ρ2) (by omega) h3 fun i ρ a b w => s i ρ (by omega) b w
    have em : (List.range m).map ((fun (j : Nat) => F (lo + j)) ∘ Nat.succ) = (List.range m).map fun (j : Nat) => F (lo + 1 + j) := List.map_congr_left fun j _ => by
      simp only [Function.comp]
      congr 1
      omega
    rw [em]
    exact ⟨ρ', (forF_nx h1 h2).trans h4, h5⟩
theorem tup3_ev {f g h : EF} {ρ : PF.Env} {x y z : DF} (h1 : f ρ = some x) (h2 : g ρ = some y) (h3 : h ρ = some z) (s1 : shr x.1 x.2 = true) (s2 : shr y.1 y.2 = true) (s3 : shr z.1 z.2 = true) : eTup (aCons f (aCons g (aCons h aNil))) ρ = some (.tup [x.1, y.1, z.1], .fr 0) := by
  unfold eTup
  simp only [aCons, aNil, h1, h2, h3, Option.bind_some, s1, s2, s3, Bool.and_true, List.length_cons, List.length_nil]
  rw [if_pos (by rw [sizeLine_eq]; omega)]
  rfl
abbrev EN (B q : D) (K : Nat) (l : List D) (x4 x5 x6 x7 x8 : Option (Nat × D)) : PF.Env := [some (0, B), some (0, q), nt K, some (1, .lst l), x4, x5, x6, x7, x8]
/-- the nearest -/
theorem nearest_ok {m : Nat} (e : Nat) {css : List (List Nat)} {q : List Nat} (hc : ∀ i, i < css.length → Cs (cat css i)) (C : Cs q) (hm : 0 < m) (hl : css.length ≤ 100) (K : Nat) (hK : K ≤ 100) :
    F_nearest_bags [.tup (css.map fun cs => .tup (prs (bagP m e cs))), .tup (prs (bagP m e q)), .int K] = some (.tup (nL ((RK css q css.length).take K)), 0) := by
  generalize hB : (D.tup (css.map fun cs => .tup (prs (bagP m e cs)))) = B
  have items : iEnumD (eVar 0) (EN B (.tup (prs (bagP m e q))) K [] none none none none none) = some ((List.range css.length).map fun (j : Nat) => D.wtp [.int ((0 + j : Nat) : Int), .tup (prs (bagP m e (cat css (0 + j))))]) := by
    rw [← hB]
    show some (enumD (css.map fun cs => .tup (prs (bagP m e cs)))) = _
    congr 1
    apply List.ext_getElem?
    intro i
    unfold enumD
    rw [List.getElem?_mapIdx, List.getElem?_map]
    by_cases hi : i < css.length
    · rw [cat_get hi, List.getElem?_map, List.getElem?_range hi]
      simp
    · rw [List.getElem?_eq_none (by omega)]
      have : ((List.range css.length).map fun (j : Nat) => D.wtp [.int ((0 + j : Nat) : Int), .tup (prs (bagP m e (cat css (0 + j))))])[i]? = none := by
        rw [List.getElem?_eq_none_iff, List.length_map, List.length_range]
        omega
      rw [this]
      rfl
  refine fn_rt ?_
  unfold B_nearest_bags
  refine (seq_nx (ρ' := EN B (.tup (prs (bagP m e q))) K [] none none none none none) rfl).trans ?_
  obtain ⟨ρ', h1, x4, x5, x6, x7, h2⟩ := for_map (g := gTp 2 (gsCons (gNm 4) (gsCons (gNm 5) gsNil))) (b := (sSeq (sAsgT (gTp 2 (gsCons (gNm 6) (gsCons (gNm 7) gsNil))) (eCall F_likeness (aCons (eVar 5) (aCons (eVar 1) aNil))))
    (sSeq (sInsert 3 (eCall F__rank (aCons (eVar 3) (aCons (eVar 6) (aCons (eVar 7) aNil)))) (eTup (aCons (eVar 6) (aCons (eVar 7) (aCons (eVar 4) aNil)))))
    (sIf (tBl (eOp iGt (eUn eLenF (eVar 3)) (eVar 2)))
    (sPop 3)
    sNil)))) (fun i => D.wtp [.int ((i : Nat) : Int), .tup (prs (bagP m e (cat css i)))]) (n := css.length) (m := css.length) (lo := 0)
    (fun i ρ => ∃ x4 x5 x6 x7, ρ = EN B (.tup (prs (bagP m e q))) K (bD (((RK css q i).map (tr3 css q)).take K)) x4 x5 x6 x7 none) (ρ := EN B (.tup (prs (bagP m e q))) K [] none none none none none) (by omega) ⟨none, none, none, none, by simp [RK]⟩ (by
      rintro i ρ _ hi ⟨x4, x5, x6, x7, rfl⟩
      have G := good_take (FL_good hc C (show i ≤ css.length by omega)) K
      generalize hFL : ((RK css q i).map (tr3 css q)).take K = FL at G
      have lF : FL.length ≤ K := by rw [← hFL, List.length_take]; omega
      have hs := FL_succ hc C hi
      obtain ⟨r1, r2, r3, _⟩ := rp_ok (hc i hi) C
      refine ⟨EN B (.tup (prs (bagP m e q))) K (bD FL) (nt i) (some (0, .tup (prs (bagP m e (cat css i))))) x6 x7 none, EN B (.tup (prs (bagP m e q))) K (bD (((RK css q (i + 1)).map (tr3 css q)).take K)) (nt i) (some (0, .tup (prs (bagP m e (cat css i))))) (nt (rp (cat css i) q).1) (nt (rp (cat css i) q).2) none, rfl, ?_, _, _, _, _, rfl⟩
      have lk := call2 (G := F_likeness) (a := eVar 5) (b := eVar 1) (ρ := EN B (.tup (prs (bagP m e q))) K (bD FL) (nt i) (some (0, .tup (prs (bagP m e (cat css i))))) x6 x7 none) (x := (.tup (prs (bagP m e (cat css i))), .bo 0)) (y := (.tup (prs (bagP m e q)), .bo 0)) rfl rfl (like_ok2 e (hc i hi) C hm)
      rw [lik_rp] at lk
      refine (seq_nx (ρ' := EN B (.tup (prs (bagP m e q))) K (bD FL) (nt i) (some (0, .tup (prs (bagP m e (cat css i))))) (nt (rp (cat css i) q).1) (nt (rp (cat css i) q).2) none) (asgT_ev lk (shr_pu rfl) rfl)).trans ?_
      have rk := call3 (G := F__rank) (a := eVar 3) (b := eVar 6) (c := eVar 7) (ρ := EN B (.tup (prs (bagP m e q))) K (bD FL) (nt i) (some (0, .tup (prs (bagP m e (cat css i))))) (nt (rp (cat css i) q).1) (nt (rp (cat css i) q).2) none) (x := (.lst (bD FL), .bo 1)) (y := (.int (rp (cat css i) q).1, .bo 0)) (z := (.int (rp (cat css i) q).2, .bo 0)) rfl rfl rfl
        (rank_ok (l := FL) (by omega) (fun t mt => (G.pos t mt).2) r2 r3 (good_mono G (tr3 css q i)))
      have tp : eTup (aCons (eVar 6) (aCons (eVar 7) (aCons (eVar 4) aNil))) (EN B (.tup (prs (bagP m e q))) K (bD FL) (nt i) (some (0, .tup (prs (bagP m e (cat css i))))) (nt (rp (cat css i) q).1) (nt (rp (cat css i) q).2) none) = some (.tup [.int (rp (cat css i) q).1, .int (rp (cat css i) q).2, .int i], .fr 0) := tup3_ev (x := (.int (rp (cat css i) q).1, .bo 0)) (y := (.int (rp (cat css i) q).2, .bo 0)) (z := (.int i, .bo 0)) rfl rfl rfl rfl rfl rfl
      have ins : sInsert 3 (eCall F__rank (aCons (eVar 3) (aCons (eVar 6) (aCons (eVar 7) aNil)))) (eTup (aCons (eVar 6) (aCons (eVar 7) (aCons (eVar 4) aNil)))) (EN B (.tup (prs (bagP m e q))) K (bD FL) (nt i) (some (0, .tup (prs (bagP m e (cat css i))))) (nt (rp (cat css i) q).1) (nt (rp (cat css i) q).2) none) = some (.nx (EN B (.tup (prs (bagP m e q))) K (bD (insP (geP (tr3 css q i).1 (tr3 css q i).2.1) (tr3 css q i) FL)) (nt i) (some (0, .tup (prs (bagP m e (cat css i))))) (nt (rp (cat css i) q).1) (nt (rp (cat css i) q).2) none)) := by
        unfold sInsert
        rw [rk, Option.bind_some, tp, Option.bind_some]
        simp only [List.getElem?_cons_succ, List.getElem?_cons_zero]
        have tl : (FL.takeWhile (geP (rp (cat css i) q).1 (rp (cat css i) q).2)).length ≤ FL.length := (List.takeWhile_sublist _).length_le
        rw [if_pos ⟨by rw [show (bD FL).length = FL.length from List.length_map .., sizeLine_eq]; omega, by omega, by omega, rfl⟩]
        rw [Int.toNat_natCast, ← insP_eq (geP (tr3 css q i).1 (tr3 css q i).2.1) (tr3 css q i) FL]
        simp only [bD, List.map_append, List.map_take, List.map_drop, List.map_cons, List.map_nil]
        rfl
      refine (seq_nx ins).trans ?_
      have ln := insP_len (geP (tr3 css q i).1 (tr3 css q i).2.1) (tr3 css q i) FL
      have tk : (insP (geP (tr3 css q i).1 (tr3 css q i).2.1) (tr3 css q i) FL).take K = ((RK css q (i + 1)).map (tr3 css q)).take K := by
        rw [hs, ← hFL, insP_take]
      generalize insP (geP (tr3 css q i).1 (tr3 css q i).2.1) (tr3 css q i) FL = NL at ln tk
      have lb : (bD NL).length = NL.length := List.length_map ..
      have t : tBl (eOp iGt (eUn eLenF (eVar 3)) (eVar 2)) (EN B (.tup (prs (bagP m e q))) K (bD NL) (nt i) (some (0, .tup (prs (bagP m e (cat css i))))) (nt (rp (cat css i) q).1) (nt (rp (cat css i) q).2) none) = some (decide (K < NL.length)) := by
        unfold tBl
        rw [op_ev (x := (.int (bD NL).length, .fr 0)) (y := (.int K, .bo 0)) rfl rfl, gt_i, lb]
        exact congrArg some (decide_eq_decide.mpr (by omega))
      by_cases hk : K < NL.length
      · rw [if_t (by rw [t, decide_eq_true hk])]
        unfold sPop
        simp only [List.getElem?_cons_succ, List.getElem?_cons_zero]
        rw [if_neg (by
          intro z
          rw [List.isEmpty_iff] at z
          rw [z] at lb
          simp at lb
          omega)]
        have e1 : (bD NL).dropLast = bD (NL.take K) := by
          rw [List.dropLast_eq_take, lb, show NL.length - 1 = K by omega]
          simp [bD]
        rw [e1, tk]
        rfl
      · rw [if_f (by rw [t, decide_eq_false hk])]
        rw [← tk, List.take_of_length_le (by omega)]
        rfl)
  subst h2
  have e2 : (List.range css.length).map (fun (j : Nat) => D.wtp [.int ((0 + j : Nat) : Int), .tup (prs (bagP m e (cat css (0 + j))))]) = (List.range css.length).map fun j => (fun i => D.wtp [.int ((i : Nat) : Int), .tup (prs (bagP m e (cat css i)))]) (0 + j) := rfl
  refine (seq_nx ((for_ev items).trans h1)).trans (ret_fr (k := 0) (tuple_ev (k := 1) ?_))
  have hpl : ∀ l : List Nat, ((l.map (tr3 css q)).take K) = (l.take K).map (tr3 css q) := fun l => by rw [List.map_take]
  rw [hpl]
  refine (lc_all (l := (RK css q css.length).take K) (fun i => .tup [.int (tr3 css q i).1, .int (tr3 css q i).2.1, .int (tr3 css q i).2.2]) (fun (i : Nat) => D.int (i : Int)) (fun _ => .bo 0) ?_ (fun i mi => ⟨EN B (.tup (prs (bagP m e q))) K (bD (((RK css q css.length).take K).map (tr3 css q))) (nt i) x5 x6 x7 (some (0, .int (tr3 css q i).2.1)), rfl, rfl⟩) (fun _ _ => ⟨rfl, .inr (.inl rfl)⟩) (by rw [List.length_take, sizeLine_eq]; omega)).trans rfl
  show some (bD (((RK css q css.length).take K).map (tr3 css q))) = _
  simp only [bD, List.map_map]
  rfl
end PFG

set_option Elab.async false
set_option linter.all false
set_option maxRecDepth 100000
set_option maxHeartbeats 4000000
namespace PFG
open PySem PySem.Spec PyProof.Rows L2 PF
abbrev EK (R q : D) (LK : List D) (x3 : Option (Nat × D)) (rk : List D) (x5 x6 : Option (Nat × D)) : PF.Env := [some (0, R), some (0, q), some (1, .lst LK), x3, some (1, .lst rk), x5, x6]
abbrev upD (p : Nat × Nat) : D := .tup [.int p.1, .int p.2]
theorem lst1_ev {f : EF} {ρ : PF.Env} {x : DF} (h1 : f ρ = some x) (s1 : shr x.1 x.2 = true) : eLst (aCons f aNil) ρ = some (.lst [x.1], .fr 1) := by
  unfold eLst
  simp only [aCons, aNil, h1, Option.bind_some, s1, Bool.and_true, List.length_cons, List.length_nil]
  rw [if_pos (by rw [sizeLine_eq]; omega)]
  rfl
theorem sl_toL {f h : EF} {ρ : PF.Env} {k j : Nat} {fl : Fl} {ds : List D} (h1 : f ρ = some (.lst ds, .bo j)) (h2 : h ρ = some (.int k, fl)) (hj : j = 1 := by rfl) : eSl f oNone (oSome h) ρ = some (.lst (ds.take k), .fr 1) := by
  subst hj
  unfold eSl oSome oNone
  simp only [h1, h2, Option.bind_some, eSlF, cut_to]
  rfl
theorem sl_fromL {f h : EF} {ρ : PF.Env} {k j : Nat} {fl : Fl} {ds : List D} (h1 : f ρ = some (.lst ds, .bo j)) (h2 : h ρ = some (.int k, fl)) (hj : j = 1 := by rfl) : eSl f (oSome h) oNone ρ = some (.lst (ds.drop k), .fr 1) := by
  subst hj
  unfold eSl oSome oNone
  simp only [h1, h2, Option.bind_some, eSlF, cut_from]
  rfl
theorem add_lf {xs ys : List D} {j k : Nat} (hl : xs.length + ys.length ≤ sizeLine) : eAddF (.lst xs, .fr j) (.lst ys, .fr k) = some (.lst (xs ++ ys), .fr 1) := by
  simp only [eAddF]
  rw [if_pos hl]
  rfl
theorem ranked_ok {css : List (List Nat)} {q : List Nat} (hc : ∀ i, i < css.length → Cs (cat css i)) (C : Cs q) (hl : css.length ≤ 100) :
    F__law_ranked [.lst (css.map fun cs => .tup (nL cs)), .tup (nL q)] = some (.lst (nL (RK css q css.length)), 1) := by
  have hmem : ∀ cs ∈ css, Cs cs := fun cs m => by
    obtain ⟨i, hi, rfl⟩ := List.mem_iff_getElem.mp m
    have e := cat_get hi
    rw [List.getElem?_eq_getElem hi] at e
    rw [Option.some.inj e]
    exact hc i hi
  generalize hR : (D.lst (css.map fun cs => .tup (nL cs))) = R
  refine fn_rt ?_
  unfold B__law_ranked
  have lk : eLc (iSeqC (eVar 0)) (gNm 3) tYesF [3] (eCall F__law_like_of (aCons (eVar 3) (aCons (eVar 1) aNil))) [some (0, R), some (0, .tup (nL q)), none, none, none, none, none] = some (.lst (css.map fun cs => upD (up cs q)), .fr 1) := by
    refine lc_all (l := css) (fun cs => .tup (nL cs)) (fun cs => upD (up cs q)) (fun _ => .fr 0) (by rw [← hR]; rfl) (fun cs m => ⟨[some (0, R), some (0, .tup (nL q)), none, some (0, .tup (nL cs)), none, none, none], rfl, ?_⟩) (fun _ _ => ⟨rfl, .inl rfl⟩) (by rw [sizeLine_eq]; omega)
    exact (call2 (G := F__law_like_of) (x := (.tup (nL cs), .bo 0)) (y := (.tup (nL q), .bo 0)) rfl rfl (like_of_up (hmem cs m) C)).trans rfl
  have hLK : ∀ i, i < css.length → (css.map fun cs => upD (up cs q))[i]? = some (upD (up (cat css i) q)) := fun i hi => by
    rw [List.getElem?_map, cat_get hi]
    rfl
  generalize (css.map fun cs => upD (up cs q)) = LK at lk hLK
  refine (seq_nx (ρ' := [some (0, R), some (0, .tup (nL q)), some (1, .lst LK), none, none, none, none]) ((asg_fr (k := 1) (by simp) lk).trans rfl)).trans ((seq_nx (ρ' := EK R (.tup (nL q)) LK none [] none none) rfl).trans ?_)
  obtain ⟨ρ', h1, x5, x6, h2⟩ := for_range (g := gNm 5) (b := (sSeq (sAsg 6 (eC (.int 0)))
    (sSeq (sWhile (tAndF (tBl (eOp iLt (eVar 6) (eUn eLenF (eVar 4)))) (tBl (eOp iGe (eOp eMulF (eOp eIxF (eOp eIxF (eVar 2) (eOp eIxF (eVar 4) (eVar 6))) (eC (.int 0))) (eOp eIxF (eOp eIxF (eVar 2) (eVar 5)) (eC (.int 1)))) (eOp eMulF (eOp eIxF (eOp eIxF (eVar 2) (eVar 5)) (eC (.int 0))) (eOp eIxF (eOp eIxF (eVar 2) (eOp eIxF (eVar 4) (eVar 6))) (eC (.int 1)))))))
    (sAsg 6 (eOp eAddF (eVar 6) (eC (.int 1)))))
    (sAsg 4 (eOp eAddF (eOp eAddF (eSl (eVar 4) oNone (oSome (eVar 6))) (eLst (aCons (eVar 5) aNil))) (eSl (eVar 4) (oSome (eVar 6)) oNone)))))) (n := css.length) (m := css.length) (lo := 0)
    (fun i ρ => ∃ x5 x6, ρ = EK R (.tup (nL q)) LK none (nL (RK css q i)) x5 x6) (ρ := EK R (.tup (nL q)) LK none [] none none) (by omega) ⟨none, none, rfl⟩ (by
      rintro i ρ _ hi ⟨x5, x6, rfl⟩
      refine ⟨EK R (.tup (nL q)) LK none (nL (RK css q i)) (nt i) x6, EK R (.tup (nL q)) LK none (nL (RK css q (i + 1))) (nt i) (nt ((RK css q i).takeWhile (Qi css q i)).length), rfl, ?_, _, _, rfl⟩
      refine (seq_nx (ρ' := EK R (.tup (nL q)) LK none (nL (RK css q i)) (nt i) (nt 0)) rfl).trans ?_
      have lR := RK_len (css := css) (q := q) i
      have mR : ∀ j ∈ RK css q i, j < i := fun j m => RK_mem m
      generalize hrk : RK css q i = rk at lR mR
      have tl : (rk.takeWhile (Qi css q i)).length ≤ rk.length := (List.takeWhile_sublist _).length_le
      have lb : (nL rk).length = rk.length := List.length_map ..
      obtain ⟨ui1, ui2, ui3⟩ := up_ok (hc i hi) C
      obtain ⟨ρ', w1, w2⟩ := while_rule (t := (tAndF (tBl (eOp iLt (eVar 6) (eUn eLenF (eVar 4)))) (tBl (eOp iGe (eOp eMulF (eOp eIxF (eOp eIxF (eVar 2) (eOp eIxF (eVar 4) (eVar 6))) (eC (.int 0))) (eOp eIxF (eOp eIxF (eVar 2) (eVar 5)) (eC (.int 1)))) (eOp eMulF (eOp eIxF (eOp eIxF (eVar 2) (eVar 5)) (eC (.int 0))) (eOp eIxF (eOp eIxF (eVar 2) (eOp eIxF (eVar 4) (eVar 6))) (eC (.int 1)))))))) (b := (sAsg 6 (eOp eAddF (eVar 6) (eC (.int 1)))))
        (fun n ρ => ∃ p, ρ = EK R (.tup (nL q)) LK none (nL rk) (nt i) (nt p) ∧ p ≤ (rk.takeWhile (Qi css q i)).length ∧ n = (rk.takeWhile (Qi css q i)).length - p) (R := fun ρ => ρ = EK R (.tup (nL q)) LK none (nL rk) (nt i) (nt (rk.takeWhile (Qi css q i)).length)) (n := (rk.takeWhile (Qi css q i)).length) (ρ := EK R (.tup (nL q)) LK none (nL rk) (nt i) (nt 0)) ⟨0, rfl, Nat.zero_le _, rfl⟩ (by unfold FUEL; omega) (by
          rintro n ρ ⟨p, rfl, hp, rfl⟩
          have t1 : (tBl (eOp iLt (eVar 6) (eUn eLenF (eVar 4)))) (EK R (.tup (nL q)) LK none (nL rk) (nt i) (nt p)) = some (decide (p < rk.length)) := by
            unfold tBl
            rw [op_ev (x := (.int p, .bo 0)) (y := (.int (nL rk).length, .fr 0)) rfl rfl, lt_i, lb]
            exact congrArg some (decide_eq_decide.mpr (by omega))
          by_cases hpl : p < rk.length
          · have ej := List.getElem?_eq_getElem hpl
            generalize hj : rk[p] = j at ej
            have hji : j < i := mR j (List.mem_of_getElem? ej)
            obtain ⟨uj1, uj2, uj3⟩ := up_ok (hc j (by omega)) C
            have gj : ∀ (s : Nat) (v : Int), [D.int (up (cat css j) q).1, .int (up (cat css j) q).2][s]? = some (.int v) → eOp eIxF (eOp eIxF (eVar 2) (eOp eIxF (eVar 4) (eVar 6))) (eC (.int s)) (EK R (.tup (nL q)) LK none (nL rk) (nt i) (nt p)) = some (.int v, .fr 0) := fun s v e => by
              have k1 : eOp eIxF (eVar 4) (eVar 6) (EK R (.tup (nL q)) LK none (nL rk) (nt i) (nt p)) = some (.int j, .bo 0) := (op_ev (x := (.lst (nL rk), .bo 1)) (y := (.int p, .bo 0)) rfl rfl).trans (ix_l p rfl (by rw [List.getElem?_map, ej]; rfl))
              exact (op_ev (y := (.int s, .fr 0)) ((op_ev (x := (.lst LK, .bo 1)) (f := eVar 2) rfl k1).trans (ix_l j rfl (hLK j (by omega)))) rfl).trans (ix_t s rfl e rfl)
            have gi : ∀ (s : Nat) (v : Int), [D.int (up (cat css i) q).1, .int (up (cat css i) q).2][s]? = some (.int v) → eOp eIxF (eOp eIxF (eVar 2) (eVar 5)) (eC (.int s)) (EK R (.tup (nL q)) LK none (nL rk) (nt i) (nt p)) = some (.int v, .fr 0) := fun s v e =>
              (op_ev (y := (.int s, .fr 0)) ((op_ev (x := (.lst LK, .bo 1)) (y := (.int i, .bo 0)) rfl rfl).trans (ix_l i rfl (hLK i hi))) rfl).trans (ix_t s rfl e rfl)
            have j0 : eOp eIxF (eOp eIxF (eVar 2) (eOp eIxF (eVar 4) (eVar 6))) (eC (.int 0)) (EK R (.tup (nL q)) LK none (nL rk) (nt i) (nt p)) = some (.int (up (cat css j) q).1, .fr 0) := gj 0 _ rfl
            have j1 : eOp eIxF (eOp eIxF (eVar 2) (eOp eIxF (eVar 4) (eVar 6))) (eC (.int 1)) (EK R (.tup (nL q)) LK none (nL rk) (nt i) (nt p)) = some (.int (up (cat css j) q).2, .fr 0) := gj 1 _ rfl
            have i0 : eOp eIxF (eOp eIxF (eVar 2) (eVar 5)) (eC (.int 0)) (EK R (.tup (nL q)) LK none (nL rk) (nt i) (nt p)) = some (.int (up (cat css i) q).1, .fr 0) := gi 0 _ rfl
            have i1 : eOp eIxF (eOp eIxF (eVar 2) (eVar 5)) (eC (.int 1)) (EK R (.tup (nL q)) LK none (nL rk) (nt i) (nt p)) = some (.int (up (cat css i) q).2, .fr 0) := gi 1 _ rfl
            have t2 : (tBl (eOp iGe (eOp eMulF (eOp eIxF (eOp eIxF (eVar 2) (eOp eIxF (eVar 4) (eVar 6))) (eC (.int 0))) (eOp eIxF (eOp eIxF (eVar 2) (eVar 5)) (eC (.int 1)))) (eOp eMulF (eOp eIxF (eOp eIxF (eVar 2) (eVar 5)) (eC (.int 0))) (eOp eIxF (eOp eIxF (eVar 2) (eOp eIxF (eVar 4) (eVar 6))) (eC (.int 1)))))) (EK R (.tup (nL q)) LK none (nL rk) (nt i) (nt p)) = some (Qi css q i j) := by
              unfold tBl
              rw [op_ev ((op_ev (op := eMulF) j0 i1).trans (mul_l (by omega))) ((op_ev (op := eMulF) i0 j1).trans (mul_l (by omega))), ge_i]
              refine congrArg some (decide_eq_decide.mpr ?_)
              rw [← Int.natCast_mul, ← Int.natCast_mul]
              omega
            have iff : Qi css q i j = true ↔ p < (rk.takeWhile (Qi css q i)).length ∨ (p = (rk.takeWhile (Qi css q i)).length ∧ Qi css q i j = true) := by
              constructor
              · intro h
                by_cases e : p < (rk.takeWhile (Qi css q i)).length
                · exact .inl e
                · exact .inr ⟨by omega, h⟩
              · rintro (h | ⟨_, h⟩)
                · have e1 : (rk.takeWhile (Qi css q i))[p]? = some j := by
                    have := List.getElem?_eq_getElem h
                    rw [this]
                    have pre := List.takeWhile_prefix (l := rk) (Qi css q i)
                    rw [List.IsPrefix.getElem pre h, hj]
                  exact List.all_eq_true.mp List.all_takeWhile j (List.mem_of_getElem? e1)
                · exact h
            by_cases hq : p < (rk.takeWhile (Qi css q i)).length
            · have hQ := iff.mpr (.inl hq)
              refine .inr ⟨?_, EK R (.tup (nL q)) LK none (nL rk) (nt i) (nt (p + 1)), (rk.takeWhile (Qi css q i)).length - (p + 1), rfl, by omega, p + 1, rfl, by omega, rfl⟩
              unfold tAndF
              rw [t1, decide_eq_true hpl, Option.bind_some, if_pos rfl, t2, hQ]
            · have e0 : p = (rk.takeWhile (Qi css q i)).length := by omega
              have hQ : Qi css q i j = false := by
                have h0 := List.takeWhile_append_dropWhile (p := Qi css q i) (l := rk)
                have h1 : (rk.dropWhile (Qi css q i)) ≠ [] := fun z => by
                  rw [z, List.append_nil] at h0
                  rw [h0] at e0
                  omega
                have h2 := List.head_dropWhile_not (Qi css q i) h1
                have h3 : rk[p]? = (rk.dropWhile (Qi css q i)).head? := by
                  conv => lhs; rw [← h0]
                  rw [e0, List.getElem?_append_right (Nat.le_refl _), Nat.sub_self, List.head?_eq_getElem?]
                rw [ej, List.head?_eq_some_head h1] at h3
                cases h3
                exact h2
              refine .inl ⟨?_, by rw [← e0]⟩
              unfold tAndF
              rw [t1, decide_eq_true hpl, Option.bind_some, if_pos rfl, t2, hQ]
          · refine .inl ⟨?_, by rw [show p = (rk.takeWhile (Qi css q i)).length by omega]⟩
            unfold tAndF
            rw [t1, decide_eq_false hpl]
            rfl)
      subst w2
      refine (seq_nx w1).trans ?_
      have s1 := sl_toL (f := eVar 4) (h := eVar 6) (ρ := EK R (.tup (nL q)) LK none (nL rk) (nt i) (nt (rk.takeWhile (Qi css q i)).length)) (ds := nL rk) (k := (rk.takeWhile (Qi css q i)).length) (j := 1) (fl := .bo 0) rfl rfl
      have s2 := sl_fromL (f := eVar 4) (h := eVar 6) (ρ := EK R (.tup (nL q)) LK none (nL rk) (nt i) (nt (rk.takeWhile (Qi css q i)).length)) (ds := nL rk) (k := (rk.takeWhile (Qi css q i)).length) (j := 1) (fl := .bo 0) rfl rfl
      have s3 : eLst (aCons (eVar 5) aNil) (EK R (.tup (nL q)) LK none (nL rk) (nt i) (nt (rk.takeWhile (Qi css q i)).length)) = some (.lst [.int i], .fr 1) := lst1_ev (x := (.int i, .bo 0)) rfl rfl
      have a1 := (op_ev (op := eAddF) s1 s3).trans (add_lf (by rw [List.length_take, lb, sizeLine_eq]; simp; omega))
      have a2 := (op_ev (op := eAddF) a1 s2).trans (add_lf (by rw [List.length_append, List.length_take, List.length_drop, lb, sizeLine_eq]; simp; omega))
      refine (asg_fr (k := 1) (by simp) a2).trans ?_
      have e5 : (nL rk).take (rk.takeWhile (Qi css q i)).length ++ [D.int i] ++ (nL rk).drop (rk.takeWhile (Qi css q i)).length = nL (RK css q (i + 1)) := by
        show _ = nL (insP (Qi css q i) i (RK css q i))
        rw [hrk, ← insP_eq]
        simp [nL]
      rw [e5]
      rfl)
  subst h2
  exact (seq_nx ((for_ev (range1_map (n := css.length) (fl := .fr 0) (by
    show eUn eLenF (eVar 0) _ = _
    rw [un_ev (x := (R, .bo 0)) rfl, ← hR, len_l, List.length_map]) (by omega))).trans h1)).trans (ret_bo (k := 1) rfl)
end PFG

set_option Elab.async false
set_option linter.all false
set_option maxRecDepth 100000
set_option maxHeartbeats 4000000
namespace PFG
open PySem PySem.Spec PyProof.Rows L2 PF
abbrev EW (s : D) (row : List Int) (m e : Nat) (x4 x5 x6 x7 x8 x9 x10 x11 x12 x13 : Option (Nat × D)) : PF.Env := [some (0, s), some (1, .lst (PF.iL row)), nt m, nt e, x4, x5, x6, x7, x8, x9, x10, x11, x12, x13]
theorem row_ev1 {row : List Int} {f : EF} {ρ : PF.Env} {i x : Nat} {fl : Fl} (hx : row[i]? = some (x : Int)) (h0 : ρ[1]? = some (some (1, .lst (PF.iL row)))) (hf : f ρ = some (.int i, fl)) : eUn eIntF (eOp eIxF (eVar 1) f) ρ = some (.int x, .fr 0) := by
  have e0 : eVar 1 ρ = some (.lst (PF.iL row), .bo 1) := by unfold eVar; rw [h0]
  have hg : (PF.iL row)[i]? = some (.int x) := by rw [List.getElem?_map, hx]; rfl
  rw [un_ev (x := (.int x, .bo 0)) ((op_ev e0 hf).trans (ix_l i rfl hg)), int_i]
theorem pub_iL (l : List Int) : puBelow 1 (.lst (PF.iL l)) = true := by
  unfold puBelow
  rw [List.all_eq_true]
  intro d m
  obtain ⟨x, _, rfl⟩ := List.mem_map.mp m
  rfl
theorem pub_ts (l : List (List Nat)) : puBelow 1 (.lst (tsD l)) = true := by
  unfold puBelow
  rw [List.all_eq_true]
  intro d m
  obtain ⟨x, _, rfl⟩ := List.mem_map.mp m
  unfold puBelow
  rw [pu_tup, pu_nL]
/-- a test by a row's number -/
theorem test_ev {row : List Int} {ρ : PF.Env} {i x k r : Nat} (hx : row[i]? = some (x : Int)) (h0 : ρ[1]? = some (some (1, .lst (PF.iL row)))) (hk : 0 < k) : (tBl (eOp eEqF (eOp iMod (eUn eIntF (eOp eIxF (eVar 1) (eC (.int i)))) (eC (.int k))) (eC (.int r)))) ρ = some (decide (x % k = r)) := by
  unfold tBl
  rw [op_ev (y := (.int r, .fr 0)) ((op_ev (y := (.int k, .fr 0)) (row_ev1 (f := eC (.int i)) (fl := .fr 0) hx h0 rfl) rfl).trans (iMod_lit (by omega))) rfl, eq_i]
  exact congrArg some (decide_eq_decide.mpr (by omega))
theorem tups_map {α : Type} (f : α → List D) (l : List α) (h : ∀ a ∈ l, puL (f a) = true) : puL (l.map fun a => D.tup (f a)) = true := pu_map fun a m => by rw [pu_tup]; exact h a m
theorem lk_prs {l : List (Nat × Nat)} (h : l.length ≤ 1000) : lkD 5 (.tup (prs l)) = true := by
  unfold lkD
  rw [Bool.and_eq_true, decide_eq_true_eq, List.all_eq_true]
  refine ⟨by rw [show (prs l).length = l.length from List.length_map ..]; omega, fun d m => ?_⟩
  obtain ⟨p, _, rfl⟩ := List.mem_map.mp m
  rfl
theorem lk_nL {l : List Nat} (h : l.length ≤ 1000) : lkD 5 (.tup (nL l)) = true := by
  unfold lkD
  rw [Bool.and_eq_true, decide_eq_true_eq, List.all_eq_true]
  refine ⟨by rw [show (nL l).length = l.length from List.length_map ..]; omega, fun d m => ?_⟩
  obtain ⟨p, _, rfl⟩ := List.mem_map.mp m
  rfl
theorem main (ns : List Int) : ∃ k, F_law [.lst (PF.iL ns)] = some (.bl true, k) := by
  obtain ⟨row, hrow, rl, rg⟩ := row_ok ns 100 (by decide)
  have R : Row row := ⟨rl, rg⟩
  generalize hs : D.lst (PF.iL ns) = s at hrow ⊢
  refine ⟨0, fn_rt ?_⟩
  unfold B_law
  refine (seq_nx (ρ' := [some (0, s), some (1, .lst (PF.iL row)), none, none, none, none, none, none, none, none, none, none, none, none]) ((asg_fr (k := 1) (by simp) ((call2 (x := (s, .bo 0)) (y := (.int 100, .fr 0)) rfl rfl hrow).trans (by unfold callFl; rw [pub_iL]; rfl))).trans rfl)).trans ?_
  refine (seq_nx (ρ' := [some (0, s), some (1, .lst (PF.iL row)), nt 1, none, none, none, none, none, none, none, none, none, none, none]) rfl).trans ((seq_nx (ρ' := EW s row 1 0 none none none none none none none none none none) rfl).trans ?_)
  obtain ⟨x2, _, r2⟩ := row_at R (i := 2) (by decide)
  obtain ⟨x90, hx90, r90⟩ := row_at R (i := 90) (by decide)
  obtain ⟨x91, _, r91⟩ := row_at R (i := 91) (by decide)
  obtain ⟨x3, _, r3⟩ := row_at R (i := 3) (by decide)
  obtain ⟨x92, _, r92⟩ := row_at R (i := 92) (by decide)
  obtain ⟨x93, _, r93⟩ := row_at R (i := 93) (by decide)
  obtain ⟨m, e, hm, hm2, hme⟩ : ∃ m e : Nat, 0 < m ∧ m < 2 ^ 40 ∧ sIf (tBl (eOp eEqF (eOp iMod (eUn eIntF (eOp eIxF (eVar 1) (eC (.int 2)))) (eC (.int 3))) (eC (.int 0))))
    (sSeq (sAsg 2 (eOp eAddF (eC (.int 1)) (eUn eIntF (eOp eIxF (eVar 1) (eC (.int 90))))))
    (sAsg 3 (eUn eIntF (eOp eIxF (eVar 1) (eC (.int 91))))))
    sNil (EW s row 1 0 none none none none none none none none none none) = some (.nx (EW s row m e none none none none none none none none none none)) := by
    have t := test_ev (ρ := EW s row 1 0 none none none none none none none none none none) (k := 3) (r := 0) r2 rfl (by decide)
    by_cases h : x2 % 3 = 0
    · rw [decide_eq_true h] at t
      refine ⟨1 + x90, x91, by omega, by omega, (if_t t).trans ((seq_nx (ρ' := EW s row (1 + x90) 0 none none none none none none none none none none) ?_).trans ?_)⟩
      · refine (asg_fr (k := 0) (d := .int ((1 + x90 : Nat) : Int)) (by simp) ?_).trans rfl
        rw [op_ev (x := (.int 1, .fr 0)) rfl (row_ev1 (f := eC (.int 90)) (i := 90) (fl := .fr 0) r90 rfl rfl), add_i]
        rfl
      · exact (asg_fr (k := 0) (by simp) (row_ev1 (f := eC (.int 91)) (i := 91) (fl := .fr 0) r91 rfl rfl)).trans rfl
    · rw [decide_eq_false h] at t
      exact ⟨1, 0, by decide, by decide, (if_f t).trans rfl⟩
  refine (seq_nx hme).trans ?_
  obtain ⟨tss, l1, l6, hT, hall⟩ := all_things_ok R
  refine (seq_nx (ρ' := EW s row m e (some (1, .lst (tsD tss))) none none none none none none none none none) ((asg_fr (k := 1) (by simp) ((call1 (x := (.lst (PF.iL row), .bo 1)) rfl hall).trans (by unfold callFl; rw [pub_ts]; rfl))).trans rfl)).trans ?_
  -- rows
  have rowsE : eLc (iSeqC (eVar 4)) (gNm 6) tYesF [6] (eCall F__law_row_of (aCons (eVar 6) aNil)) (EW s row m e (some (1, .lst (tsD tss))) none none none none none none none none none) = some (.lst (tss.map fun ts => .tup (nL (cnt ts))), .fr 1) :=
    lc_all (l := tss) (fun ts => .tup (nL ts)) (fun ts => .tup (nL (cnt ts))) (fun _ => .fr 0) rfl (fun ts _ => ⟨EW s row m e (some (1, .lst (tsD tss))) none (some (0, .tup (nL ts))) none none none none none none none, rfl, (call1 (x := (.tup (nL ts), .bo 0)) rfl (row_of_ok ts)).trans (by rw [callFl_pu (by rw [pu_tup, pu_nL])])⟩) (fun _ _ => ⟨rfl, .inl rfl⟩) (by rw [sizeLine_eq]; omega)
  have hcs : (tss.map fun ts => D.tup (nL (cnt ts))) = (tss.map cnt).map fun cs => D.tup (nL cs) := by rw [List.map_map]; rfl
  rw [hcs] at rowsE
  have lcss : (tss.map cnt).length = tss.length := List.length_map ..
  have hc : ∀ i, i < (tss.map cnt).length → Cs (cat (tss.map cnt) i) := fun i hi => by
    have e1 := cat_get hi
    rw [List.getElem?_map] at e1
    cases et : tss[i]? with
    | none => rw [et] at e1; cases e1
    | some ts =>
      rw [et] at e1
      rw [← Option.some.inj e1]
      exact cnt_cs (hT ts (List.mem_of_getElem? et))
  have hct : ∀ i, i < tss.length → ∃ ts, tss[i]? = some ts ∧ Things 20 ts ∧ cat (tss.map cnt) i = cnt ts := fun i hi => by
    have et := List.getElem?_eq_getElem hi
    refine ⟨_, et, hT _ (List.getElem_mem hi), ?_⟩
    have e1 := cat_get (css := tss.map cnt) (i := i) (by omega)
    rw [List.getElem?_map, et] at e1
    exact (Option.some.inj e1).symm
  generalize tss.map cnt = css at rowsE lcss hc hct
  refine (seq_nx (ρ' := EW s row m e (some (1, .lst (tsD tss))) (some (1, .lst (css.map fun cs => .tup (nL cs)))) none none none none none none none none) ((asg_fr (k := 1) (by simp) rowsE).trans rfl)).trans ?_
  -- bags
  have bagsE : eLc (iSeqC (eVar 5)) (gNm 8) tYesF [8] (eCall F__law_bag (aCons (eVar 8) (aCons (eVar 2) (aCons (eVar 3) aNil)))) (EW s row m e (some (1, .lst (tsD tss))) (some (1, .lst (css.map fun cs => .tup (nL cs)))) none none none none none none none none) = some (.lst (css.map fun cs => .tup (prs (bagP m e cs))), .fr 1) :=
    lc_all (l := css) (fun cs => .tup (nL cs)) (fun cs => .tup (prs (bagP m e cs))) (fun _ => .fr 0) rfl (fun cs mc => by
      obtain ⟨i, hi, ei⟩ := List.mem_iff_getElem.mp mc
      have e1 := cat_get hi
      rw [List.getElem?_eq_getElem hi, ei] at e1
      have C := hc i hi
      rw [← Option.some.inj e1] at C
      exact ⟨EW s row m e (some (1, .lst (tsD tss))) (some (1, .lst (css.map fun cs => .tup (nL cs)))) none none (some (0, .tup (nL cs))) none none none none none, rfl, (call3 (x := (.tup (nL cs), .bo 0)) (y := (.int m, .bo 0)) (z := (.int e, .bo 0)) rfl rfl rfl (bag_ok C m e hm2)).trans (by rw [callFl_pu (by rw [pu_tup, pu_prs])])⟩) (fun _ _ => ⟨rfl, .inl rfl⟩) (by rw [sizeLine_eq]; omega)
  generalize hBG : (css.map fun cs => D.tup (prs (bagP m e cs))) = BG at bagsE
  have gBG : ∀ i, i < css.length → BG[i]? = some (.tup (prs (bagP m e (cat css i)))) := fun i hi => by
    rw [← hBG, List.getElem?_map, cat_get hi]
    rfl
  generalize hRW : (css.map fun cs => D.tup (nL cs)) = RW at bagsE
  have gRW : ∀ i, i < css.length → RW[i]? = some (.tup (nL (cat css i))) := fun i hi => by
    rw [← hRW, List.getElem?_map, cat_get hi]
    rfl
  have lRW : RW.length = css.length := by rw [← hRW, List.length_map]
  refine (seq_nx (ρ' := EW s row m e (some (1, .lst (tsD tss))) (some (1, .lst RW)) none (some (0, .tup BG)) none none none none none none) ((asg_fr (k := 0) (by simp) (tuple_ev bagsE)).trans rfl)).trans ?_
  have lenE : ∀ (x6 x8 x9 x10 x11 x12 x13 : Option (Nat × D)), eUn eLenF (eVar 5) (EW s row m e (some (1, .lst (tsD tss))) (some (1, .lst RW)) x6 (some (0, .tup BG)) x8 x9 x10 x11 x12 x13) = some (.int css.length, .fr 0) := fun x6 x8 x9 x10 x11 x12 x13 => by
    rw [un_ev (x := (.lst RW, .bo 1)) rfl, len_l, lRW]
  -- the first walk
  obtain ⟨ρ', f1, x6, x9, f2⟩ := for_range (g := gNm 9) (b := (sSeq (sAsg 6 (eUn eTupleF (eLc (iSeqC (eOp eIxF (eVar 4) (eVar 9))) (gNm 10) tYesF [10] (eOp eAddF (eOp eMulF (eVar 2) (eVar 10)) (eVar 3)))))
    (sIf (tNotF (tTru (eCall (F__law_like 6) (aCons (eCall F_bag_of (aCons (eVar 6) aNil)) (aCons (eOp eIxF (eVar 7) (eVar 9)) aNil)))))
    (sRet (eC (.bl false)))
    sNil))) (n := css.length) (m := css.length) (lo := 0) (fun i ρ => ∃ x6 x9, ρ = EW s row m e (some (1, .lst (tsD tss))) (some (1, .lst RW)) x6 (some (0, .tup BG)) none x9 none none none none) (ρ := EW s row m e (some (1, .lst (tsD tss))) (some (1, .lst RW)) none (some (0, .tup BG)) none none none none none none) (by omega) ⟨none, none, rfl⟩ (by
      rintro i ρ _ hi ⟨x6, x9, rfl⟩
      obtain ⟨ts, et, T, ec⟩ := hct i (by omega)
      refine ⟨EW s row m e (some (1, .lst (tsD tss))) (some (1, .lst RW)) x6 (some (0, .tup BG)) none (nt i) none none none none, EW s row m e (some (1, .lst (tsD tss))) (some (1, .lst RW)) (some (0, .tup (nL (ts.map fun t => m * t + e)))) (some (0, .tup BG)) none (nt i) none none none none, rfl, ?_, _, _, rfl⟩
      have g4 : eOp eIxF (eVar 4) (eVar 9) (EW s row m e (some (1, .lst (tsD tss))) (some (1, .lst RW)) x6 (some (0, .tup BG)) none (nt i) none none none none) = some (.tup (nL ts), .bo 0) := (op_ev (x := (.lst (tsD tss), .bo 1)) (y := (.int i, .bo 0)) rfl rfl).trans (ix_l i rfl (by rw [List.getElem?_map, et]; rfl))
      have it4 : iSeqC (eOp eIxF (eVar 4) (eVar 9)) (EW s row m e (some (1, .lst (tsD tss))) (some (1, .lst RW)) x6 (some (0, .tup BG)) none (nt i) none none none none) = some (ts.map fun (t : Nat) => D.int (t : Int)) := by
        unfold iSeqC
        rw [g4]
        rfl
      have th : eLc (iSeqC (eOp eIxF (eVar 4) (eVar 9))) (gNm 10) tYesF [10] (eOp eAddF (eOp eMulF (eVar 2) (eVar 10)) (eVar 3)) (EW s row m e (some (1, .lst (tsD tss))) (some (1, .lst RW)) x6 (some (0, .tup BG)) none (nt i) none none none none) = some (.lst (nL (ts.map fun t => m * t + e)), .fr 1) := by
        refine (lc_all (l := ts) (fun (t : Nat) => D.int (t : Int)) (fun t => D.int ((m * t + e : Nat) : Int)) (fun _ => .fr 0) it4 (fun t _ => ⟨EW s row m e (some (1, .lst (tsD tss))) (some (1, .lst RW)) x6 (some (0, .tup BG)) none (nt i) (nt t) none none none, rfl, ?_⟩) (fun _ _ => ⟨rfl, .inl rfl⟩) (by have := T.len; rw [sizeLine_eq]; omega)).trans ?_
        · rw [op_ev (y := (.int e, .bo 0)) ((op_ev (op := eMulF) (x := (.int m, .bo 0)) (y := (.int t, .bo 0)) rfl rfl).trans (mul_l (by omega))) rfl, add_i]
          rfl
        · simp only [nL, List.map_map]
          rfl
      refine (seq_nx (ρ' := EW s row m e (some (1, .lst (tsD tss))) (some (1, .lst RW)) (some (0, .tup (nL (ts.map fun t => m * t + e)))) (some (0, .tup BG)) none (nt i) none none none none) ((asg_fr (k := 0) (by simp) (tuple_ev th)).trans rfl)).trans ?_
      have bo := call1 (G := F_bag_of) (a := eVar 6) (ρ := EW s row m e (some (1, .lst (tsD tss))) (some (1, .lst RW)) (some (0, .tup (nL (ts.map fun t => m * t + e)))) (some (0, .tup BG)) none (nt i) none none none none) (x := (.tup (nL (ts.map fun t => m * t + e)), .bo 0)) rfl (bag_of_ok e T hm)
      have bx : eOp eIxF (eVar 7) (eVar 9) (EW s row m e (some (1, .lst (tsD tss))) (some (1, .lst RW)) (some (0, .tup (nL (ts.map fun t => m * t + e)))) (some (0, .tup BG)) none (nt i) none none none none) = some (.tup (prs (bagP m e (cnt ts))), .fr 0) := (op_ev (x := (.tup BG, .bo 0)) (y := (.int i, .bo 0)) rfl rfl).trans (ix_t i rfl (by rw [gBG i hi, ec]) rfl)
      exact (if_f (lk2 bo bx (lk_prs (bag_len m e _)))).trans rfl)
  subst f2
  refine (seq_nx ((for_ev (range1_map (n := css.length) (fl := .fr 0) (lenE _ _ _ _ _ _ _) (by omega))).trans f1)).trans ?_
  -- asked
  have cpos : 0 < css.length := by omega
  obtain ⟨q, x6', C, hq⟩ : ∃ (q : List Nat) (z : Nat), Cs q ∧ ∀ (f : SF), sSeq (sAsg 11 (eOp eIxF (eVar 5) (eOp iMod (eUn eIntF (eOp eIxF (eVar 1) (eC (.int 3)))) (eUn eLenF (eVar 5)))))
    (sSeq (sIf (tBl (eOp eEqF (eOp iMod (eUn eIntF (eOp eIxF (eVar 1) (eC (.int 92)))) (eC (.int 2))) (eC (.int 0))))
    (sAsg 11 (eCall F__law_row_of (aCons (eCall F__law_things (aCons (eVar 1) (aCons (eC (.int 77)) aNil))) aNil)))
    sNil) f) (EW s row m e (some (1, .lst (tsD tss))) (some (1, .lst RW)) x6 (some (0, .tup BG)) none x9 none none none none) = f (EW s row m e (some (1, .lst (tsD tss))) (some (1, .lst RW)) x6 (some (0, .tup BG)) none x9 none (some (0, .tup (nL q))) none none) := by
    have hlt : x3 % css.length < css.length := Nat.mod_lt _ cpos
    have k1 : eOp iMod (eUn eIntF (eOp eIxF (eVar 1) (eC (.int 3)))) (eUn eLenF (eVar 5)) (EW s row m e (some (1, .lst (tsD tss))) (some (1, .lst RW)) x6 (some (0, .tup BG)) none x9 none none none none) = some (.int ((x3 % css.length : Nat) : Int), .fr 0) := by
      rw [op_ev (row_ev1 (f := eC (.int 3)) (i := 3) (fl := .fr 0) r3 rfl rfl) (lenE _ _ _ _ _ _ _), iMod_lit (by omega)]
      rfl
    have k2 : sAsg 11 (eOp eIxF (eVar 5) (eOp iMod (eUn eIntF (eOp eIxF (eVar 1) (eC (.int 3)))) (eUn eLenF (eVar 5)))) (EW s row m e (some (1, .lst (tsD tss))) (some (1, .lst RW)) x6 (some (0, .tup BG)) none x9 none none none none) = some (.nx (EW s row m e (some (1, .lst (tsD tss))) (some (1, .lst RW)) x6 (some (0, .tup BG)) none x9 none (some (0, .tup (nL (cat css (x3 % css.length))))) none none)) :=
      (asg_sh (fl := .bo 0) (by simp) ((op_ev (x := (.lst RW, .bo 1)) (f := eVar 5) rfl k1).trans (ix_l _ rfl (gRW _ hlt))) (fun k z => by cases z) rfl).trans rfl
    have t := test_ev (ρ := EW s row m e (some (1, .lst (tsD tss))) (some (1, .lst RW)) x6 (some (0, .tup BG)) none x9 none (some (0, .tup (nL (cat css (x3 % css.length))))) none none) (k := 2) (r := 0) r92 rfl (by decide)
    by_cases h : x92 % 2 = 0
    · rw [decide_eq_true h] at t
      obtain ⟨ts, T, e1⟩ := things_ok R 77 (by decide)
      refine ⟨cnt ts, 0, cnt_cs ⟨by have := T.len; omega, T.ge⟩, fun f => (seq_nx k2).trans (seq_nx ((if_t t).trans ((asg_fr (k := 0) (d := .tup (nL (cnt ts))) (by simp) ?_).trans rfl)))⟩
      exact (call1 (call2 (x := (.lst (PF.iL row), .bo 1)) (y := (.int 77, .fr 0)) rfl rfl e1) (row_of_ok ts)).trans (by rw [callFl_pu (by rw [pu_tup, pu_nL])])
    · rw [decide_eq_false h] at t
      exact ⟨_, 0, hc _ hlt, fun f => (seq_nx k2).trans (seq_nx ((if_f t).trans rfl))⟩
  refine (hq _).trans ?_
  refine (seq_nx (ρ' := EW s row m e (some (1, .lst (tsD tss))) (some (1, .lst RW)) x6 (some (0, .tup BG)) none x9 none (some (0, .tup (nL q))) (some (0, .tup (prs (bagP m e q)))) none) ((asg_fr (k := 0) (by simp) ((call3 (x := (.tup (nL q), .bo 0)) (y := (.int m, .bo 0)) (z := (.int e, .bo 0)) rfl rfl rfl (bag_ok C m e hm2)).trans (by rw [callFl_pu (by rw [pu_tup, pu_prs])]))).trans rfl)).trans ?_
  -- the second walk
  obtain ⟨ρ', f3, x9', f4⟩ := for_range (g := gNm 9) (b := (sIf (tNotF (tTru (eCall F__law_pair_right (aCons (eOp eIxF (eVar 5) (eVar 9)) (aCons (eVar 11) (aCons (eOp eIxF (eVar 7) (eVar 9)) (aCons (eVar 12) aNil)))))))
    (sRet (eC (.bl false)))
    sNil)) (n := css.length) (m := css.length) (lo := 0) (fun i ρ => ∃ x9, ρ = EW s row m e (some (1, .lst (tsD tss))) (some (1, .lst RW)) x6 (some (0, .tup BG)) none x9 none (some (0, .tup (nL q))) (some (0, .tup (prs (bagP m e q)))) none) (ρ := EW s row m e (some (1, .lst (tsD tss))) (some (1, .lst RW)) x6 (some (0, .tup BG)) none x9 none (some (0, .tup (nL q))) (some (0, .tup (prs (bagP m e q)))) none) (by omega) ⟨x9, rfl⟩ (by
      rintro i ρ _ hi ⟨x9, rfl⟩
      refine ⟨EW s row m e (some (1, .lst (tsD tss))) (some (1, .lst RW)) x6 (some (0, .tup BG)) none (nt i) none (some (0, .tup (nL q))) (some (0, .tup (prs (bagP m e q)))) none, EW s row m e (some (1, .lst (tsD tss))) (some (1, .lst RW)) x6 (some (0, .tup BG)) none (nt i) none (some (0, .tup (nL q))) (some (0, .tup (prs (bagP m e q)))) none, rfl, ?_, nt i, rfl⟩
      have a1 : eOp eIxF (eVar 5) (eVar 9) (EW s row m e (some (1, .lst (tsD tss))) (some (1, .lst RW)) x6 (some (0, .tup BG)) none (nt i) none (some (0, .tup (nL q))) (some (0, .tup (prs (bagP m e q)))) none) = some (.tup (nL (cat css i)), .bo 0) := (op_ev (x := (.lst RW, .bo 1)) (y := (.int i, .bo 0)) rfl rfl).trans (ix_l i rfl (gRW i hi))
      have a2 : eOp eIxF (eVar 7) (eVar 9) (EW s row m e (some (1, .lst (tsD tss))) (some (1, .lst RW)) x6 (some (0, .tup BG)) none (nt i) none (some (0, .tup (nL q))) (some (0, .tup (prs (bagP m e q)))) none) = some (.tup (prs (bagP m e (cat css i))), .fr 0) := (op_ev (x := (.tup BG, .bo 0)) (y := (.int i, .bo 0)) rfl rfl).trans (ix_t i rfl (gBG i hi) rfl)
      have pr := call4 (G := F__law_pair_right) a1 (y := (.tup (nL q), .bo 0)) (b := eVar 11) rfl a2 (w := (.tup (prs (bagP m e q)), .bo 0)) (d := eVar 12) rfl (pair_ok e (hc i hi) C hm)
      refine (if_f ?_).trans rfl
      unfold tNotF tTru
      rw [pr]
      rfl)
  subst f4
  refine (seq_nx ((for_ev (range1_map (n := css.length) (fl := .fr 0) (lenE _ _ _ _ _ _ _) (by omega))).trans f3)).trans ?_
  -- the end
  have mny : eOp eAddF (eC (.int 1)) (eOp iMod (eUn eIntF (eOp eIxF (eVar 1) (eC (.int 93)))) (eUn eLenF (eVar 5))) (EW s row m e (some (1, .lst (tsD tss))) (some (1, .lst RW)) x6 (some (0, .tup BG)) none x9' none (some (0, .tup (nL q))) (some (0, .tup (prs (bagP m e q)))) none) = some (.int ((1 + x93 % css.length : Nat) : Int), .fr 0) := by
    rw [op_ev (x := (.int 1, .fr 0)) rfl ((op_ev (row_ev1 (f := eC (.int 93)) (i := 93) (fl := .fr 0) r93 rfl rfl) (lenE _ _ _ _ _ _ _)).trans (iMod_lit (by omega))), add_i]
    rfl
  have hmn : x93 % css.length < css.length := Nat.mod_lt _ cpos
  refine (seq_nx (ρ' := EW s row m e (some (1, .lst (tsD tss))) (some (1, .lst RW)) x6 (some (0, .tup BG)) none x9' none (some (0, .tup (nL q))) (some (0, .tup (prs (bagP m e q)))) (nt (1 + x93 % css.length))) ((asg_fr (k := 0) (by simp) mny).trans rfl)).trans ?_
  have n1 := call3 (G := F_nearest_bags) (a := eVar 7) (b := eVar 12) (c := eVar 13) (ρ := EW s row m e (some (1, .lst (tsD tss))) (some (1, .lst RW)) x6 (some (0, .tup BG)) none x9' none (some (0, .tup (nL q))) (some (0, .tup (prs (bagP m e q)))) (nt (1 + x93 % css.length))) (x := (.tup BG, .bo 0)) (y := (.tup (prs (bagP m e q)), .bo 0)) (z := (.int ((1 + x93 % css.length : Nat) : Int), .bo 0)) rfl rfl rfl (by
    rw [← hBG]
    exact nearest_ok e hc C hm (by omega) _ (by omega))
  have n2 := call2 (G := F__law_ranked) (a := eVar 5) (b := eVar 11) (ρ := EW s row m e (some (1, .lst (tsD tss))) (some (1, .lst RW)) x6 (some (0, .tup BG)) none x9' none (some (0, .tup (nL q))) (some (0, .tup (prs (bagP m e q)))) (nt (1 + x93 % css.length))) (x := (.lst RW, .bo 1)) (y := (.tup (nL q), .bo 0)) rfl rfl (by
    rw [← hRW]
    exact ranked_ok hc C (by omega))
  have n3 : eUn eTupleF (eSl (eCall F__law_ranked (aCons (eVar 5) (aCons (eVar 11) aNil))) oNone (oSome (eVar 13))) (EW s row m e (some (1, .lst (tsD tss))) (some (1, .lst RW)) x6 (some (0, .tup BG)) none x9' none (some (0, .tup (nL q))) (some (0, .tup (prs (bagP m e q)))) (nt (1 + x93 % css.length))) = some (.tup (nL ((RK css q css.length).take (1 + x93 % css.length))), .fr 0) := by
    have pb : callFl (.lst (nL (RK css q css.length))) 1 = .fr 1 := by
      unfold callFl
      rw [if_pos]
      rw [nL_iL]
      exact pub_iL _
    rw [pb] at n2
    refine tuple_ev (k := 1) ?_
    unfold eSl oNone oSome
    rw [n2]
    show some (D.lst (cutD (nL (RK css q css.length)) none (some ((1 + x93 % css.length : Nat) : Int))), Fl.fr 1) = _
    rw [cut_to]
    simp [nL]
  refine ret_fr (k := 0) ((call2 (G := F__law_like 6) n1 n3 (like_ok 5 _ (lk_nL ?_))).trans rfl)
  rw [List.length_take]
  omega
end PFG

open PySem PySem.W PyProof.Rows
set_option Elab.async false
set_option maxRecDepth 100000
set_option maxHeartbeats 0 in
theorem PySem.Challenge.cw_farkept_k60_whole_bags_holds : PySem.Challenge.rw_farkept_k60_whole_bags.Holds := by
  w_on; o_law; k_head; (case hw => w_witness2)
  k_fill
  refine L2.walk_ofB (l := PySem.Challenge.rw_farkept_k60_whole_bags) (n := 63) (k := 9) (x := "script") (CX := fun _ => L2.CX0) (sp := fun w => PF.spF _ 1 PFG.F_law) rfl (by decide) rfl ⟨rfl, by decide, by decide⟩ (fun w h Y => PySem.W.kIn_of Y) ?F (fun w H a ns hl hb _ hS => PFG.hsp_of hS (PFG.main ns)) (fun _ _ _ _ _ h => h)
  case F =>
    intro w mg fa h KX G hmg
    refine' PFG.all_mk KX G hmg ?a0 ?l0 ?c0 ?k0 ?a1 ?l1 ?c1 ?k1 ?a2 ?l2 ?c2 ?k2 ?a3 ?l3 ?c3 ?k3 ?a4 ?l4 ?c4 ?k4 ?a5 ?l5 ?c5 ?k5 ?a6 ?l6 ?c6 ?k6 ?a7 ?l7 ?c7 ?k7 ?a8 ?l8 ?c8 ?k8 ?a9 ?l9 ?c9 ?k9 ?a10 ?l10 ?c10 ?k10 ?a11 ?l11 ?c11 ?k11 ?a12 ?l12 ?c12 ?k12 ?a13 ?l13 ?c13 ?k13 ?a14 ?l14 ?c14 ?k14 ?a15 ?l15 ?c15 ?k15 ?a16 ?l16 ?c16 ?k16 ?a17 ?l17 ?c17 ?k17 ?a18 ?l18 ?c18 ?k18 ?a19 ?l19 ?c19 ?k19 ?a20 ?l20 ?c20 ?k20 ?a21 ?l21 ?c21 ?k21 ?a22 ?l22 ?c22 ?k22 ?a23 ?l23 ?c23 ?k23 ?a24 ?l24 ?c24 ?k24 ?a25 ?l25 ?c25 ?k25 ?z_abs ?z_all ?z_bool ?z_dict ?z_enumerate ?z_int ?z_isinstance ?z_len ?z_list ?z_max ?z_min ?z_range ?z_sorted ?z_str ?z_sum ?z_tuple ?z_zip ?z_gcd
    (case a0 => k_is); (case l0 => k_is); (case c0 => k_is); (case k0 => k_is); (case a1 => k_is); (case l1 => k_is); (case c1 => k_is); (case k1 => k_is); (case a2 => k_is); (case l2 => k_is); (case c2 => k_is); (case k2 => k_is); (case a3 => k_is); (case l3 => k_is); (case c3 => k_is); (case k3 => k_is); (case a4 => k_is); (case l4 => k_is); (case c4 => k_is); (case k4 => k_is); (case a5 => k_is); (case l5 => k_is); (case c5 => k_is); (case k5 => k_is); (case a6 => k_is); (case l6 => k_is); (case c6 => k_is); (case k6 => k_is); (case a7 => k_is); (case l7 => k_is); (case c7 => k_is); (case k7 => k_is); (case a8 => k_is); (case l8 => k_is); (case c8 => k_is); (case k8 => k_is); (case a9 => k_is); (case l9 => k_is); (case c9 => k_is); (case k9 => k_is); (case a10 => k_is); (case l10 => k_is); (case c10 => k_is); (case k10 => k_is); (case a11 => k_is); (case l11 => k_is); (case c11 => k_is); (case k11 => k_is); (case a12 => k_is); (case l12 => k_is); (case c12 => k_is); (case k12 => k_is); (case a13 => k_is); (case l13 => k_is); (case c13 => k_is); (case k13 => k_is); (case a14 => k_is); (case l14 => k_is); (case c14 => k_is); (case k14 => k_is); (case a15 => k_is); (case l15 => k_is); (case c15 => k_is); (case k15 => k_is); (case a16 => k_is); (case l16 => k_is); (case c16 => k_is); (case k16 => k_is); (case a17 => k_is); (case l17 => k_is); (case c17 => k_is); (case k17 => k_is); (case a18 => k_is); (case l18 => k_is); (case c18 => k_is); (case k18 => k_is); (case a19 => k_is); (case l19 => k_is); (case c19 => k_is); (case k19 => k_is); (case a20 => k_is); (case l20 => k_is); (case c20 => k_is); (case k20 => k_is); (case a21 => k_is); (case l21 => k_is); (case c21 => k_is); (case k21 => k_is); (case a22 => k_is); (case l22 => k_is); (case c22 => k_is); (case k22 => k_is); (case a23 => k_is); (case l23 => k_is); (case c23 => k_is); (case k23 => k_is); (case a24 => k_is); (case l24 => k_is); (case c24 => k_is); (case k24 => k_is); (case a25 => k_is); (case l25 => k_is); (case c25 => k_is); (case k25 => k_is); (case z_abs => k_is); (case z_all => k_is); (case z_bool => k_is); (case z_dict => k_is); (case z_enumerate => k_is); (case z_int => k_is); (case z_isinstance => k_is); (case z_len => k_is); (case z_list => k_is); (case z_max => k_is); (case z_min => k_is); (case z_range => k_is); (case z_sorted => k_is); (case z_str => k_is); (case z_sum => k_is); (case z_tuple => k_is); (case z_zip => k_is); (case z_gcd => k_is)
