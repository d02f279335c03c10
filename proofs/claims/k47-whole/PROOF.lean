import PyProof.Rows.All
import Wide.All
import OpenK.AllK
import Wide.FinOn
import HandS.ForMost
import HandS.TupAny
import HandS.Zip
import HandS.RevRange
import HandS.Exc
import HandS.TryOnly
import HandS.ExcInit
import KE.GoesMore
import HandS.More
import HandS.Sort
import HandS.Deep
import KE.SortUse
import KE.Datum
import HandS.Strs
import HandS.Wide
import HandS.Text
import PyProof.StrOps2
import HandS.Style
import HandS.ExcField
import HandS.ExcOwn
import HandS.WordsExc
import OpenK.KCls
import HandS.ForSpec
import PySem.Challenge.RW_focuswalk_k47_whole_each_reached_or_shut
set_option Elab.async false
set_option linter.all false
set_option maxRecDepth 100000
set_option maxHeartbeats 2000000
namespace FZ
open PySem L2

/-! ### data -/
inductive Dt where
  | non | bl (b : Bool) | int (i : Int) | str (x : Str) | lst (ds : List Dt) | tup (ds : List Dt) | dct (kvs : List (Str × Dt))

theorem Same.new {H : Hp} {p : Addr} {o : HO} (h : H p = none) : Same H (upd H p o) := fun a u e => by
  rw [upd_ne (ne_of_none e h)]; exact e
theorem same_rd {H H' : Hp} {a : Addr} {u : HO} (e : Same H H') (h : Rd H a u) : Rd H' a u := by
  rcases h with h | ⟨o, h⟩
  · exact Or.inl (e a _ h)
  · exact Or.inr ⟨o, e a _ h⟩
theorem same_t {K : PySem.W.Frag} {H H' : Hp} {a : Addr} {xs : List V} (e : Same H H') (h : SqT K H a xs) : SqT K H' a xs := by
  rcases h with h | h
  · exact Or.inl (same_rd e h)
  · exact Or.inr h
theorem same_l {K : PySem.W.Frag} {H H' : Hp} {a : Addr} {xs : List V} (e : Same H H') (h : SqL K H a xs) : SqL K H' a xs := by
  rcases h with h | h
  · exact Or.inl (same_rd e h)
  · exact Or.inr h

mutual
inductive D (K : PySem.W.Frag) (B : Hp) : V → Dt → Prop
  | non : D K B .non .non
  | bl (b : Bool) : D K B (.bl b) (.bl b)
  | int (i : Int) : D K B (.int i) (.int i)
  | str (x : Str) : D K B (.str x) (.str x)
  | lst {a : Addr} {xs : List V} {ds : List Dt} : B a = some (.lst xs) → Ds K B xs ds → D K B (.ref a) (.lst ds)
  | tup {a : Addr} {xs : List V} {ds : List Dt} : SqT K B a xs → Ds K B xs ds → D K B (.ref a) (.tup ds)
  | dct {a : Addr} {ks : List (Key × V)} {kvs : List (Str × Dt)} : B a = some (.dK ks) → Dk K B ks kvs → D K B (.ref a) (.dct kvs)
inductive Ds (K : PySem.W.Frag) (B : Hp) : List V → List Dt → Prop
  | nil : Ds K B [] []
  | cons {v : V} {vs : List V} {d : Dt} {ds : List Dt} : D K B v d → Ds K B vs ds → Ds K B (v :: vs) (d :: ds)
inductive Dk (K : PySem.W.Frag) (B : Hp) : List (Key × V) → List (Str × Dt) → Prop
  | nil : Dk K B [] []
  | cons {v : V} {k : Str} {ks : List (Key × V)} {d : Dt} {kvs : List (Str × Dt)} : D K B v d → Dk K B ks kvs → Dk K B ((Sum.inr k, v) :: ks) ((k, d) :: kvs)
end
section
variable {K : PySem.W.Frag} {B B' H H' : Hp}
mutual
theorem D.mono (e : Same B B') : ∀ (d : Dt) (v : V), D K B v d → D K B' v d
  | .non, _, h => by cases h; exact .non
  | .bl b, _, h => by cases h; exact .bl b
  | .int i, _, h => by cases h; exact .int i
  | .str x, _, h => by cases h; exact .str x
  | .lst ds, _, h => by
    cases h with
    | lst h1 h2 => exact .lst (e _ _ h1) (Ds.mono e ds _ h2)
  | .tup ds, _, h => by
    cases h with
    | tup h1 h2 => exact .tup (same_t e h1) (Ds.mono e ds _ h2)
  | .dct kvs, _, h => by
    cases h with
    | dct h1 h2 => exact .dct (e _ _ h1) (Dk.mono e kvs _ h2)
theorem Ds.mono (e : Same B B') : ∀ (ds : List Dt) (vs : List V), Ds K B vs ds → Ds K B' vs ds
  | [], _, h => by cases h; exact .nil
  | d :: ds, _, h => by
    cases h with
    | cons h1 h2 => exact .cons (D.mono e d _ h1) (Ds.mono e ds _ h2)
theorem Dk.mono (e : Same B B') : ∀ (kvs : List (Str × Dt)) (ks : List (Key × V)), Dk K B ks kvs → Dk K B' ks kvs
  | [], _, h => by cases h; exact .nil
  | (k, d) :: kvs, _, h => by
    cases h with
    | cons h1 h2 => exact .cons (D.mono e d _ h1) (Dk.mono e kvs _ h2)
end
theorem D.up {v : V} {d : Dt} (h : D K B v d) (e : Same B B') : D K B' v d := D.mono e d v h
theorem Ds.up {vs : List V} {ds : List Dt} (h : Ds K B vs ds) (e : Same B B') : Ds K B' vs ds := Ds.mono e ds vs h
theorem Dk.up {ks : List (Key × V)} {kvs : List (Str × Dt)} (h : Dk K B ks kvs) (e : Same B B') : Dk K B' ks kvs := Dk.mono e kvs ks h
theorem Ds.len {vs : List V} {ds : List Dt} (h : Ds K B vs ds) : vs.length = ds.length := by
  induction ds generalizing vs with
  | nil => cases h; rfl
  | cons d ds ih =>
    cases h with
    | cons h1 h2 => simp [ih h2]
theorem Ds.get {vs : List V} {ds : List Dt} (h : Ds K B vs ds) {i : Nat} {v : V} (e : vs[i]? = some v) : ∃ d, ds[i]? = some d ∧ D K B v d := by
  induction ds generalizing vs i with
  | nil => cases h; simp at e
  | cons d ds ih =>
    cases h with
    | cons h1 h2 =>
      cases i with
      | zero => simp at e; subst e; exact ⟨d, rfl, h1⟩
      | succ i => simpa using ih h2 (by simpa using e)
theorem Ds.get' {vs : List V} {ds : List Dt} (h : Ds K B vs ds) {i : Nat} {d : Dt} (e : ds[i]? = some d) : ∃ v, vs[i]? = some v ∧ D K B v d := by
  induction ds generalizing vs i with
  | nil => simp at e
  | cons d' ds ih =>
    cases h with
    | cons h1 h2 =>
      cases i with
      | zero => simp at e; subst e; exact ⟨_, rfl, h1⟩
      | succ i => simpa using ih h2 (by simpa using e)
theorem Ds.app {vs ws : List V} {ds es : List Dt} (h : Ds K B vs ds) (g : Ds K B ws es) : Ds K B (vs ++ ws) (ds ++ es) := by
  induction ds generalizing vs with
  | nil => cases h; exact g
  | cons d ds ih =>
    cases h with
    | cons h1 h2 => exact .cons h1 (ih h2)
theorem Ds.drop {vs : List V} {ds : List Dt} (h : Ds K B vs ds) (n : Nat) : Ds K B (vs.drop n) (ds.drop n) := by
  induction n generalizing vs ds with
  | zero => exact h
  | succ n ih =>
    cases h with
    | nil => exact .nil
    | cons h1 h2 => exact ih h2
theorem Ds.take {vs : List V} {ds : List Dt} (h : Ds K B vs ds) (n : Nat) : Ds K B (vs.take n) (ds.take n) := by
  induction n generalizing vs ds with
  | zero => exact .nil
  | succ n ih =>
    cases h with
    | nil => exact .nil
    | cons h1 h2 => exact .cons h1 (ih h2)
theorem Ds.set {vs : List V} {ds : List Dt} (h : Ds K B vs ds) {v : V} {d : Dt} (hv : D K B v d) (n : Nat) : Ds K B (vs.set n v) (ds.set n d) := by
  induction n generalizing vs ds with
  | zero =>
    cases h with
    | nil => exact .nil
    | cons h1 h2 => exact .cons hv h2
  | succ n ih =>
    cases h with
    | nil => exact .nil
    | cons h1 h2 => exact .cons h1 (ih h2)
theorem Ds.rev {vs : List V} {ds : List Dt} (h : Ds K B vs ds) : Ds K B vs.reverse ds.reverse := by
  induction ds generalizing vs with
  | nil => cases h; exact .nil
  | cons d ds ih =>
    cases h with
    | cons h1 h2 =>
      rw [List.reverse_cons, List.reverse_cons]
      exact (ih h2).app (.cons h1 .nil)
theorem Ds.strs {vs : List V} {ns : List Str} (h : Ds K B vs (ns.map Dt.str)) : vs = ns.map V.str := by
  induction ns generalizing vs with
  | nil => cases h; rfl
  | cons n ns ih =>
    cases h with
    | cons h1 h2 => cases h1; rw [ih h2]; rfl
theorem Ds.ints {vs : List V} {ns : List Int} (h : Ds K B vs (ns.map Dt.int)) : vs = ns.map V.int := by
  induction ns generalizing vs with
  | nil => cases h; rfl
  | cons n ns ih =>
    cases h with
    | cons h1 h2 => cases h1; rw [ih h2]; rfl
theorem Ds.bls {vs : List V} {ns : List Bool} (h : Ds K B vs (ns.map Dt.bl)) : vs = ns.map V.bl := by
  induction ns generalizing vs with
  | nil => cases h; rfl
  | cons n ns ih =>
    cases h with
    | cons h1 h2 => cases h1; rw [ih h2]; rfl
theorem Ds.ofStrs (ns : List Str) : Ds K B (ns.map V.str) (ns.map Dt.str) := by
  induction ns with
  | nil => exact .nil
  | cons n ns ih => exact .cons (.str n) ih
theorem Ds.ofInts (ns : List Int) : Ds K B (ns.map V.int) (ns.map Dt.int) := by
  induction ns with
  | nil => exact .nil
  | cons n ns ih => exact .cons (.int n) ih
def Dt.isNon : Dt → Bool
  | .non => true
  | _ => false
theorem D.isNon {v : V} {d : Dt} (h : D K B v d) : decide (v = .non) = d.isNon := by
  cases h <;> rfl
/-- dict look-up by data -/
theorem Dk.val {ks : List (Key × V)} {kvs : List (Str × Dt)} (h : Dk K B ks kvs) (k : Str) :
    match kvs.lookup k with
    | some d => ∃ v, valV ks (Sum.inr k) = some v ∧ D K B v d
    | none => valV ks (Sum.inr k) = none := by
  induction kvs generalizing ks with
  | nil => cases h; rfl
  | cons p kvs ih =>
    obtain ⟨k', d⟩ := p
    cases h with
    | @cons v _ ks' _ _ h1 h2 =>
      by_cases e : k = k'
      · subst e
        have : List.lookup k ((k, d) :: kvs) = some d := by simp [List.lookup]
        rw [this]
        exact ⟨v, valV_pos rfl, h1⟩
      · have e1 : (k == k') = false := by simpa using e
        have : List.lookup k ((k', d) :: kvs) = List.lookup k kvs := by simp [List.lookup, e1]
        rw [this]
        have e2 : valV ((Sum.inr k', v) :: ks') (Sum.inr k) = valV ks' (Sum.inr k) := valV_neg (fun q => e (Sum.inr.inj q).symm)
        rw [e2]
        exact ih h2
theorem Dk.len {ks : List (Key × V)} {kvs : List (Str × Dt)} (h : Dk K B ks kvs) : ks.length = kvs.length := by
  induction kvs generalizing ks with
  | nil => cases h; rfl
  | cons p kvs ih =>
    cases h with
    | cons h1 h2 => simp [ih h2]
/-- store by data -/
def dput (kvs : List (Str × Dt)) (k : Str) (d : Dt) : List (Str × Dt) :=
  if (kvs.lookup k).isSome then kvs.map (fun p => if p.1 = k then (p.1, d) else p) else kvs ++ [(k, d)]
theorem Dk.app {ks js : List (Key × V)} {kvs jvs : List (Str × Dt)} (h : Dk K B ks kvs) (g : Dk K B js jvs) : Dk K B (ks ++ js) (kvs ++ jvs) := by
  induction kvs generalizing ks with
  | nil => cases h; exact g
  | cons p kvs ih =>
    cases h with
    | cons h1 h2 => exact .cons h1 (ih h2)
theorem Dk.repl {ks : List (Key × V)} {kvs : List (Str × Dt)} (h : Dk K B ks kvs) (k : Str) {v : V} {d : Dt} (hv : D K B v d) :
    Dk K B (ks.map fun kv => if kv.1 = Sum.inr k then (kv.1, v) else kv) (kvs.map fun p => if p.1 = k then (p.1, d) else p) := by
  induction kvs generalizing ks with
  | nil => cases h; exact .nil
  | cons p kvs ih =>
    obtain ⟨k', d'⟩ := p
    cases h with
    | @cons v' _ ks' _ _ h1 h2 =>
      rw [List.map_cons, List.map_cons]
      by_cases e : k' = k
      · subst e
        rw [if_pos rfl, if_pos rfl]
        exact .cons hv (ih h2)
      · rw [if_neg (fun q => e (Sum.inr.inj q)), if_neg e]
        exact .cons h1 (ih h2)
theorem Dk.put {ks : List (Key × V)} {kvs : List (Str × Dt)} (h : Dk K B ks kvs) (k : Str) {v : V} {d : Dt} (hv : D K B v d) : Dk K B (putK ks (Sum.inr k) v) (dput kvs k d) := by
  have q := h.val k
  unfold putK dput
  rw [valV_any]
  cases e : kvs.lookup k with
  | none =>
    rw [e] at q
    have q' : valV ks (Sum.inr k) = none := q
    rw [q', if_neg (by decide), if_neg (by decide)]
    exact h.app (.cons hv .nil)
  | some d0 =>
    rw [e] at q
    obtain ⟨v0, e0, _⟩ := q
    rw [e0, if_pos (show (some v0).isSome = true from rfl), if_pos (show (some d0).isSome = true from rfl)]
    exact h.repl k hv
theorem dput_len (kvs : List (Str × Dt)) (k : Str) (d : Dt) : (dput kvs k d).length ≤ kvs.length + 1 := by
  unfold dput
  split
  · rw [List.length_map]; omega
  · rw [List.length_append]; simp
end

/-! ### slots and the state -/
inductive Slot where
  | un | fz (d : Dt) | ow (ds : List Dt) | od (kvs : List (Str × Dt)) | oa (a : Addr) (ds : List Dt) | oda (a : Addr) (kvs : List (Str × Dt)) | fd (a : Addr) (n : Nat)
def Slot.own : Slot → Bool
  | .ow _ => true
  | .od _ => true
  | .oa _ _ => true
  | .oda _ _ => true
  | .fd _ _ => true
  | _ => false
/-- the law's feed behind at most n draws -/
def FeedOk (n : Nat) (kvs : List (Str × Dt)) : Prop := ∃ (cells : List Int) (a x : Int), kvs = ([("cells", Dt.lst (cells.map Dt.int)), ("at", Dt.int a), ("left", Dt.int x)] : List (Str × Dt)) ∧ 0 ≤ a ∧ a ≤ n ∧ 0 ≤ x ∧ cells.length ≤ 63
theorem FeedOk.mono {n m : Nat} {kvs : List (Str × Dt)} (h : FeedOk n kvs) (l : n ≤ m) : FeedOk m kvs := by
  obtain ⟨c, a, x, e, h1, h2, h3, h4⟩ := h
  exact ⟨c, a, x, e, h1, by omega, h3, h4⟩
structure Fr where
  B0 : Hp
  H0 : Hp
  W : Addr → Prop
section
variable (K : PySem.W.Frag)
def SlotOk (B H : Hp) (o : Option V) : Slot → Prop
  | .un => True
  | .fz d => ∃ v, o = some v ∧ D K B v d
  | .ow ds => ∃ l xs, o = some (.ref l) ∧ H l = some (.lst xs) ∧ Ds K B xs ds
  | .od kvs => ∃ l ks, o = some (.ref l) ∧ H l = some (.dK ks) ∧ Dk K B ks kvs
  | .oa a ds => ∃ l xs, o = some (.ref l) ∧ H l = some (.lst xs) ∧ Ds K B xs ds ∧ l = a
  | .oda a kvs => ∃ l ks, o = some (.ref l) ∧ H l = some (.dK ks) ∧ Dk K B ks kvs ∧ l = a
  | .fd a n => ∃ l ks, o = some (.ref l) ∧ H l = some (.dK ks) ∧ (∃ kvs, Dk K B ks kvs ∧ FeedOk n kvs) ∧ l = a
structure SA (F : Fr) (sl : List Slot) (σ : L2.St) (B H : Hp) : Prop where
  len : σ.length = sl.length
  ok : ∀ (i : Nat) (s : Slot), sl[i]? = some s → ∃ o, σ[i]? = some o ∧ SlotOk K B H o s
  ow : ∀ (i : Nat) (s : Slot) (l : Addr), sl[i]? = some s → s.own = true → σ[i]? = some (some (.ref l)) → B l = none ∧ (F.H0 l = none ∨ F.W l)
  dis : ∀ (i j : Nat) (s t : Slot) (l : Addr), sl[i]? = some s → sl[j]? = some t → s.own = true → t.own = true → σ[i]? = some (some (.ref l)) → σ[j]? = some (some (.ref l)) → i = j
  b0 : Same F.B0 B
  bh : Same B H
  nn : ∀ a, F.H0 a ≠ none → F.B0 a = none → B a = none
  kp : ∀ a o, F.H0 a = some o → ¬ F.W a → H a = some o
  th : ∀ a, F.H0 a ≠ none → H a ≠ none
end
section
variable {K : PySem.W.Frag} {F : Fr} {sl : List Slot} {σ : L2.St} {B B' H H' : Hp}
theorem SlotOk.up {o : Option V} {s : Slot} (h : SlotOk K B H o s) (e1 : Same B B') (e2 : Same H H') : SlotOk K B' H' o s := by
  cases s with
  | un => trivial
  | fz d => obtain ⟨v, a, b⟩ := h; exact ⟨v, a, b.up e1⟩
  | ow ds => obtain ⟨l, xs, a, b, c⟩ := h; exact ⟨l, xs, a, e2 _ _ b, c.up e1⟩
  | od kvs => obtain ⟨l, xs, a, b, c⟩ := h; exact ⟨l, xs, a, e2 _ _ b, c.up e1⟩
  | oa m ds => obtain ⟨l, xs, a, b, c, z⟩ := h; exact ⟨l, xs, a, e2 _ _ b, c.up e1, z⟩
  | oda m kvs => obtain ⟨l, xs, a, b, c, z⟩ := h; exact ⟨l, xs, a, e2 _ _ b, c.up e1, z⟩
  | fd m n => obtain ⟨l, xs, a, b, ⟨kvs, c, y⟩, z⟩ := h; exact ⟨l, xs, a, e2 _ _ b, ⟨kvs, c.up e1, y⟩, z⟩
/-- an owned slot's address -/
theorem SA.addr (h : SA K F sl σ B H) {i : Nat} {s : Slot} (hs : sl[i]? = some s) (ho : s.own = true) : ∃ l, σ[i]? = some (some (.ref l)) ∧ B l = none ∧ (F.H0 l = none ∨ F.W l) ∧ ∃ o, H l = some o := by
  obtain ⟨o, e, ok⟩ := h.ok i s hs
  cases s with
  | un => cases ho
  | fz d => cases ho
  | ow ds =>
    obtain ⟨l, xs, rfl, b, c⟩ := ok
    obtain ⟨h1, h2⟩ := h.ow i _ l hs rfl e
    exact ⟨l, e, h1, h2, _, b⟩
  | od kvs =>
    obtain ⟨l, xs, rfl, b, c⟩ := ok
    obtain ⟨h1, h2⟩ := h.ow i _ l hs rfl e
    exact ⟨l, e, h1, h2, _, b⟩
  | oa m ds =>
    obtain ⟨l, xs, rfl, b, c⟩ := ok
    obtain ⟨h1, h2⟩ := h.ow i _ l hs rfl e
    exact ⟨l, e, h1, h2, _, b⟩
  | oda m kvs =>
    obtain ⟨l, xs, rfl, b, c⟩ := ok
    obtain ⟨h1, h2⟩ := h.ow i _ l hs rfl e
    exact ⟨l, e, h1, h2, _, b⟩
  | fd m n =>
    obtain ⟨l, xs, rfl, b, c⟩ := ok
    obtain ⟨h1, h2⟩ := h.ow i _ l hs rfl e
    exact ⟨l, e, h1, h2, _, b⟩
theorem SA.step (h : SA K F sl σ B H) (e1 : Same B B') (e2 : Same B' H') (e3 : Same H H') (e4 : ∀ a, H a ≠ none → B a = none → B' a = none) : SA K F sl σ B' H' where
  len := h.len
  ok := fun i s hs => by
    obtain ⟨o, e, ok⟩ := h.ok i s hs
    exact ⟨o, e, ok.up e1 e3⟩
  ow := fun i s l hs ho e => by
    obtain ⟨l', e', b, w, o, hl⟩ := h.addr hs ho
    rw [e] at e'
    cases e'
    exact ⟨e4 l (by rw [hl]; exact fun q => nomatch q) b, w⟩
  dis := h.dis
  b0 := h.b0.trans e1
  bh := e2
  nn := fun a h0 b0 => e4 a (h.th a h0) (h.nn a h0 b0)
  kp := fun a o h0 w => e3 a o (h.kp a o h0 w)
  th := fun a h0 q => by
    cases e : H a with
    | none => exact h.th a h0 e
    | some o => rw [e3 a o e] at q; cases q
/-- a new frozen object -/
theorem SA.new (h : SA K F sl σ B H) {p : Addr} {o : HO} (hp : H p = none) : SA K F sl σ (upd B p o) (upd H p o) ∧ Same B (upd B p o) ∧ Same H (upd H p o) := by
  have hb : B p = none := h.bh.free hp
  have e1 : Same B (upd B p o) := Same.new hb
  have e3 : Same H (upd H p o) := Same.new hp
  refine ⟨h.step e1 (fun a u e => ?_) e3 (fun a n b => ?_), e1, e3⟩
  · by_cases q : a = p
    · subst q; rw [upd_same] at e ⊢; exact e
    · rw [upd_ne q] at e ⊢; exact h.bh a u e
  · have q : a ≠ p := fun q => n (q ▸ hp)
    rw [upd_ne q]; exact b
/-- a new object that is not frozen -/
theorem SA.newO (h : SA K F sl σ B H) {p : Addr} {o : HO} (hp : H p = none) : SA K F sl σ B (upd H p o) ∧ Same H (upd H p o) := by
  have e3 : Same H (upd H p o) := Same.new hp
  exact ⟨h.step (Same.refl B) (h.bh.trans e3) e3 (fun a _ b => b), e3⟩
theorem SA.notOwn (h : SA K F sl σ B H) {p : Addr} (hp : H p = none) : ∀ (i : Nat) (s : Slot), sl[i]? = some s → s.own = true → σ[i]? ≠ some (some (.ref p)) := fun i s hs ho e => by
  obtain ⟨l, e', _, _, o, hl⟩ := h.addr hs ho
  rw [e] at e'
  cases e'
  rw [hp] at hl
  cases hl
/-- a slot is set to a frozen value -/
theorem SA.set (h : SA K F sl σ B H) {i : Nat} {v : V} {d : Dt} (hi : i < sl.length) (hv : D K B v d) : SA K F (sl.set i (.fz d)) (σ.set i (some v)) B H where
  len := by rw [List.length_set, List.length_set]; exact h.len
  ok := fun j s hs => by
    by_cases e : i = j
    · subst e
      rw [List.getElem?_set_self hi] at hs
      cases hs
      exact ⟨some v, List.getElem?_set_self (by rw [h.len]; exact hi), v, rfl, hv⟩
    · rw [List.getElem?_set_ne e] at hs ⊢
      exact h.ok j s hs
  ow := fun j s l hs ho e => by
    by_cases q : i = j
    · subst q
      rw [List.getElem?_set_self hi] at hs
      cases hs
      cases ho
    · rw [List.getElem?_set_ne q] at hs e
      exact h.ow j s l hs ho e
  dis := fun j k s t l h1 h2 o1 o2 e1 e2 => by
    have n1 : i ≠ j := fun q => by subst q; rw [List.getElem?_set_self hi] at h1; cases h1; cases o1
    have n2 : i ≠ k := fun q => by subst q; rw [List.getElem?_set_self hi] at h2; cases h2; cases o2
    rw [List.getElem?_set_ne n1] at h1 e1
    rw [List.getElem?_set_ne n2] at h2 e2
    exact h.dis j k s t l h1 h2 o1 o2 e1 e2
  b0 := h.b0
  bh := h.bh
  nn := h.nn
  kp := h.kp
  th := h.th
/-- a slot is set to an owned object -/
theorem SA.setO (h : SA K F sl σ B H) {i : Nat} {l : Addr} {s : Slot} (hi : i < sl.length) (ok : SlotOk K B H (some (.ref l)) s) (b : B l = none) (w : F.H0 l = none ∨ F.W l) (new : ∀ (j : Nat) (t : Slot), sl[j]? = some t → t.own = true → σ[j]? ≠ some (some (.ref l))) :
    SA K F (sl.set i s) (σ.set i (some (.ref l))) B H where
  len := by rw [List.length_set, List.length_set]; exact h.len
  ok := fun j t hs => by
    by_cases e : i = j
    · subst e
      rw [List.getElem?_set_self hi] at hs
      cases hs
      exact ⟨_, List.getElem?_set_self (by rw [h.len]; exact hi), ok⟩
    · rw [List.getElem?_set_ne e] at hs ⊢
      exact h.ok j t hs
  ow := fun j t m hs ho e => by
    by_cases q : i = j
    · subst q
      rw [List.getElem?_set_self (by rw [h.len]; exact hi)] at e
      cases e
      exact ⟨b, w⟩
    · rw [List.getElem?_set_ne q] at hs e
      exact h.ow j t m hs ho e
  dis := fun j k t u m h1 h2 o1 o2 e1 e2 => by
    have hσ : i < σ.length := by rw [h.len]; exact hi
    by_cases q1 : i = j
    · by_cases q2 : i = k
      · exact q1.symm.trans q2
      · subst q1
        rw [List.getElem?_set_self hσ] at e1
        cases e1
        rw [List.getElem?_set_ne q2] at h2 e2
        exact absurd e2 (new k u h2 o2)
    · by_cases q2 : i = k
      · subst q2
        rw [List.getElem?_set_self hσ] at e2
        cases e2
        rw [List.getElem?_set_ne q1] at h1 e1
        exact absurd e1 (new j t h1 o1)
      · rw [List.getElem?_set_ne q1] at h1 e1
        rw [List.getElem?_set_ne q2] at h2 e2
        exact h.dis j k t u m h1 h2 o1 o2 e1 e2
  b0 := h.b0
  bh := h.bh
  nn := h.nn
  kp := h.kp
  th := h.th
/-- an owned object is changed -/
theorem SA.mut (h : SA K F sl σ B H) {i : Nat} {l : Addr} {s s' : Slot} {o : HO} (hs : sl[i]? = some s) (ho : s.own = true) (e : σ[i]? = some (some (.ref l))) (ok : SlotOk K B (upd H l o) (some (.ref l)) s') (ho' : s'.own = true) :
    SA K F (sl.set i s') σ B (upd H l o) := by
  have hi : i < sl.length := (List.getElem?_eq_some_iff.mp hs).1
  obtain ⟨b, w⟩ := h.ow i s l hs ho e
  refine ⟨by rw [List.length_set]; exact h.len, fun j t ht => ?_, fun j t m ht o1 e1 => ?_, fun j k t u m h1 h2 o1 o2 e1 e2 => ?_, h.b0, fun a u q => ?_, h.nn, fun a u q n => ?_, fun a n q => ?_⟩
  · by_cases q : i = j
    · subst q
      rw [List.getElem?_set_self hi] at ht
      cases ht
      exact ⟨_, e, ok⟩
    · rw [List.getElem?_set_ne q] at ht
      obtain ⟨o', e', ok'⟩ := h.ok j t ht
      refine ⟨o', e', ?_⟩
      have nl : ∀ m, t.own = true → o' = some (.ref m) → m ≠ l := fun m ot em z => by
        subst z
        rw [em] at e'
        exact q (h.dis i j s t m hs ht ho ot e e')
      cases t with
      | un => trivial
      | fz d => exact ok'
      | ow ds => obtain ⟨m, xs, a1, a2, a3⟩ := ok'; exact ⟨m, xs, a1, by rw [upd_ne (nl m rfl a1)]; exact a2, a3⟩
      | od ds => obtain ⟨m, xs, a1, a2, a3⟩ := ok'; exact ⟨m, xs, a1, by rw [upd_ne (nl m rfl a1)]; exact a2, a3⟩
      | oa k ds => obtain ⟨m, xs, a1, a2, a3⟩ := ok'; exact ⟨m, xs, a1, by rw [upd_ne (nl m rfl a1)]; exact a2, a3⟩
      | oda k ds => obtain ⟨m, xs, a1, a2, a3⟩ := ok'; exact ⟨m, xs, a1, by rw [upd_ne (nl m rfl a1)]; exact a2, a3⟩
      | fd k n => obtain ⟨m, xs, a1, a2, a3⟩ := ok'; exact ⟨m, xs, a1, by rw [upd_ne (nl m rfl a1)]; exact a2, a3⟩
  · by_cases q : i = j
    · subst q
      rw [e] at e1
      cases e1
      exact ⟨b, w⟩
    · rw [List.getElem?_set_ne q] at ht
      exact h.ow j t m ht o1 e1
  · have fix : ∀ {j : Nat} {t : Slot}, (sl.set i s')[j]? = some t → t.own = true → ∃ t', sl[j]? = some t' ∧ t'.own = true := fun {j t} h1 o1 => by
      by_cases q : i = j
      · subst q; exact ⟨s, hs, ho⟩
      · rw [List.getElem?_set_ne q] at h1; exact ⟨t, h1, o1⟩
    obtain ⟨t', h1', o1'⟩ := fix h1 o1
    obtain ⟨u', h2', o2'⟩ := fix h2 o2
    exact h.dis j k t' u' m h1' h2' o1' o2' e1 e2
  · have na : a ≠ l := fun z => by rw [z, b] at q; cases q
    rw [upd_ne na]; exact h.bh a u q
  · have na : a ≠ l := fun z => by
      subst z
      rcases w with w | w
      · rw [w] at q; cases q
      · exact n w
    rw [upd_ne na]; exact h.kp a u q n
  · by_cases z : a = l
    · subst z; rw [upd_same] at q; cases q
    · rw [upd_ne z] at q; exact h.th a n q
/-- weaker slots -/
def Wk (sl tl : List Slot) : Prop := sl.length = tl.length ∧ ∀ (i : Nat) (s : Slot), tl[i]? = some s → s = .un ∨ sl[i]? = some s
theorem Wk.refl (sl : List Slot) : Wk sl sl := ⟨rfl, fun _ _ h => .inr h⟩
theorem SA.weak (h : SA K F sl σ B H) {tl : List Slot} (w : Wk sl tl) : SA K F tl σ B H := by
  have fix : ∀ {j : Nat} {t : Slot}, tl[j]? = some t → t.own = true → sl[j]? = some t := fun {j t} h1 o1 => by
    rcases w.2 j t h1 with z | z
    · subst z; cases o1
    · exact z
  refine ⟨h.len.trans w.1, fun i s hs => ?_, fun i s l hs ho e => h.ow i s l (fix hs ho) ho e, fun i j s t l h1 h2 o1 o2 e1 e2 => h.dis i j s t l (fix h1 o1) (fix h2 o2) o1 o2 e1 e2, h.b0, h.bh, h.nn, h.kp, h.th⟩
  rcases w.2 i s hs with z | z
  · subst z
    have hi : i < tl.length := (List.getElem?_eq_some_iff.mp hs).1
    have hσ : i < σ.length := by rw [h.len, w.1]; exact hi
    exact ⟨σ[i], by simp [hσ], trivial⟩
  · exact h.ok i s z
/-- an owned list (dict) is frozen -/
theorem SA.freeze (h : SA K F sl σ B H) {i : Nat} {ds : List Dt} (hs : sl[i]? = some (.ow ds)) {l : Addr} (e : σ[i]? = some (some (.ref l))) (hw : F.H0 l = none) :
    ∃ B', SA K F (sl.set i (.fz (.lst ds))) σ B' H ∧ Same B B' ∧ D K B' (.ref l) (.lst ds) := by
  have hi : i < sl.length := (List.getElem?_eq_some_iff.mp hs).1
  obtain ⟨o, eo, l', xs, rfl, hl, hx⟩ := h.ok i _ hs
  rw [e] at eo
  cases eo
  obtain ⟨b, _⟩ := h.ow i _ l hs rfl e
  have e1 : Same B (upd B l (.lst xs)) := Same.new b
  have hd : D K (upd B l (.lst xs)) (.ref l) (.lst ds) := .lst upd_same (hx.up e1)
  refine ⟨upd B l (.lst xs), ?_, e1, hd⟩
  refine ⟨by rw [List.length_set]; exact h.len, fun j t ht => ?_, fun j t m ht o1 em => ?_, fun j k t u m h1 h2 o1 o2 e1 e2 => ?_, h.b0.trans e1, fun a u q => ?_, fun a n q => ?_, h.kp, h.th⟩
  · by_cases q : i = j
    · subst q
      rw [List.getElem?_set_self hi] at ht
      cases ht
      exact ⟨_, e, _, rfl, hd⟩
    · rw [List.getElem?_set_ne q] at ht
      obtain ⟨o', e', ok'⟩ := h.ok j t ht
      exact ⟨o', e', ok'.up e1 (Same.refl H)⟩
  · have q : i ≠ j := fun z => by subst z; rw [List.getElem?_set_self hi] at ht; cases ht; cases o1
    rw [List.getElem?_set_ne q] at ht
    obtain ⟨b1, w1⟩ := h.ow j t m ht o1 em
    have nm : m ≠ l := fun z => by subst z; exact q (h.dis i j _ t m hs ht rfl o1 e em)
    exact ⟨by rw [upd_ne nm]; exact b1, w1⟩
  · have q1 : i ≠ j := fun z => by subst z; rw [List.getElem?_set_self hi] at h1; cases h1; cases o1
    have q2 : i ≠ k := fun z => by subst z; rw [List.getElem?_set_self hi] at h2; cases h2; cases o2
    rw [List.getElem?_set_ne q1] at h1
    rw [List.getElem?_set_ne q2] at h2
    exact h.dis j k t u m h1 h2 o1 o2 e1 e2
  · by_cases z : a = l
    · subst z; rw [upd_same] at q; cases q; exact hl
    · rw [upd_ne z] at q; exact h.bh a u q
  · have z : a ≠ l := fun z => by subst z; exact n hw
    rw [upd_ne z]; exact h.nn a n q
theorem SA.freezeD (h : SA K F sl σ B H) {i : Nat} {kvs : List (Str × Dt)} (hs : sl[i]? = some (.od kvs)) {l : Addr} (e : σ[i]? = some (some (.ref l))) (hw : F.H0 l = none) :
    ∃ B', SA K F (sl.set i (.fz (.dct kvs))) σ B' H ∧ Same B B' ∧ D K B' (.ref l) (.dct kvs) := by
  have hi : i < sl.length := (List.getElem?_eq_some_iff.mp hs).1
  obtain ⟨o, eo, l', xs, rfl, hl, hx⟩ := h.ok i _ hs
  rw [e] at eo
  cases eo
  obtain ⟨b, _⟩ := h.ow i _ l hs rfl e
  have e1 : Same B (upd B l (.dK xs)) := Same.new b
  have hd : D K (upd B l (.dK xs)) (.ref l) (.dct kvs) := .dct upd_same (hx.up e1)
  refine ⟨upd B l (.dK xs), ?_, e1, hd⟩
  refine ⟨by rw [List.length_set]; exact h.len, fun j t ht => ?_, fun j t m ht o1 em => ?_, fun j k t u m h1 h2 o1 o2 e1 e2 => ?_, h.b0.trans e1, fun a u q => ?_, fun a n q => ?_, h.kp, h.th⟩
  · by_cases q : i = j
    · subst q
      rw [List.getElem?_set_self hi] at ht
      cases ht
      exact ⟨_, e, _, rfl, hd⟩
    · rw [List.getElem?_set_ne q] at ht
      obtain ⟨o', e', ok'⟩ := h.ok j t ht
      exact ⟨o', e', ok'.up e1 (Same.refl H)⟩
  · have q : i ≠ j := fun z => by subst z; rw [List.getElem?_set_self hi] at ht; cases ht; cases o1
    rw [List.getElem?_set_ne q] at ht
    obtain ⟨b1, w1⟩ := h.ow j t m ht o1 em
    have nm : m ≠ l := fun z => by subst z; exact q (h.dis i j _ t m hs ht rfl o1 e em)
    exact ⟨by rw [upd_ne nm]; exact b1, w1⟩
  · have q1 : i ≠ j := fun z => by subst z; rw [List.getElem?_set_self hi] at h1; cases h1; cases o1
    have q2 : i ≠ k := fun z => by subst z; rw [List.getElem?_set_self hi] at h2; cases h2; cases o2
    rw [List.getElem?_set_ne q1] at h1
    rw [List.getElem?_set_ne q2] at h2
    exact h.dis j k t u m h1 h2 o1 o2 e1 e2
  · by_cases z : a = l
    · subst z; rw [upd_same] at q; cases q; exact hl
    · rw [upd_ne z] at q; exact h.bh a u q
  · have z : a ≠ l := fun z => by subst z; exact n hw
    rw [upd_ne z]; exact h.nn a n q
end
end FZ
set_option maxHeartbeats 2000000
namespace FZ
open PySem L2

structure Stp (B H B' H' : Hp) : Prop where
  e : Same B B'
  g : Same H H'
  n : ∀ a, H a ≠ none → B a = none → B' a = none
theorem Stp.refl {B H : Hp} : Stp B H B H := ⟨Same.refl B, Same.refl H, fun _ _ h => h⟩
theorem Stp.trans {B H B1 H1 B2 H2 : Hp} (a : Stp B H B1 H1) (b : Stp B1 H1 B2 H2) : Stp B H B2 H2 := ⟨a.e.trans b.e, a.g.trans b.g, fun x h0 b0 => b.n x (fun q => h0 (a.g.free q)) (a.n x h0 b0)⟩
theorem SA.to {K : PySem.W.Frag} {F : Fr} {sl : List Slot} {σ : L2.St} {B H B' H' : Hp} (h : SA K F sl σ B H) (s : Stp B H B' H') (e2 : Same B' H') : SA K F sl σ B' H' := h.step s.e e2 s.g s.n
theorem Stp.new {B H : Hp} (bh : Same B H) {p : Addr} {o : HO} (hp : H p = none) : Stp B H (upd B p o) (upd H p o) := ⟨Same.new (bh.free hp), Same.new hp, fun a n b => by
  have q : a ≠ p := fun q => n (q ▸ hp)
  rw [upd_ne q]; exact b⟩
theorem Stp.newO {B H : Hp} {p : Addr} {o : HO} (hp : H p = none) : Stp B H B (upd H p o) := ⟨Same.refl B, Same.new hp, fun a n b => b⟩
theorem SA.new' {K : PySem.W.Frag} {F : Fr} {sl : List Slot} {σ : L2.St} {B H : Hp} (h : SA K F sl σ B H) {p : Addr} {o : HO} (hp : H p = none) : SA K F sl σ (upd B p o) (upd H p o) ∧ Stp B H (upd B p o) (upd H p o) := ⟨(h.new hp).1, Stp.new h.bh hp⟩
theorem SA.newO' {K : PySem.W.Frag} {F : Fr} {sl : List Slot} {σ : L2.St} {B H : Hp} (h : SA K F sl σ B H) {p : Addr} {o : HO} (hp : H p = none) : SA K F sl σ B (upd H p o) ∧ Stp B H B (upd H p o) := ⟨(h.newO hp).1, Stp.newO hp⟩
/-- an object that stands outside B, outside the slots, is frozen -/
theorem SA.seal {K : PySem.W.Frag} {F : Fr} {sl : List Slot} {σ : L2.St} {B H : Hp} (h : SA K F sl σ B H) {l : Addr} {o : HO} (bl : B l = none) (hl : H l = some o) (h0 : F.H0 l = none) (no : ∀ (i : Nat) (s : Slot), sl[i]? = some s → s.own = true → σ[i]? ≠ some (some (.ref l))) :
    SA K F sl σ (upd B l o) H := by
  have e2 : Same B (upd B l o) := Same.new bl
  refine ⟨h.len, fun i t ht => ?_, fun i t m ht o1 em => ?_, h.dis, h.b0.trans e2, fun a u q => ?_, fun a n z => ?_, h.kp, h.th⟩
  · obtain ⟨o, eo, ok⟩ := h.ok i t ht
    exact ⟨o, eo, ok.up e2 (Same.refl _)⟩
  · obtain ⟨b1, w1⟩ := h.ow i t m ht o1 em
    have nm : m ≠ l := fun z => by subst z; exact no i t ht o1 em
    exact ⟨by rw [upd_ne nm]; exact b1, w1⟩
  · by_cases z : a = l
    · subst z; rw [upd_same] at q; cases q; exact hl
    · rw [upd_ne z] at q; exact h.bh a u q
  · have na : a ≠ l := fun y => by subst y; exact n h0
    rw [upd_ne na]; exact h.nn a n z
/-- an object that stands outside B and outside the slots is changed -/
theorem SA.mutOut {K : PySem.W.Frag} {F : Fr} {sl : List Slot} {σ : L2.St} {B H : Hp} (h : SA K F sl σ B H) {l : Addr} {o : HO} (bl : B l = none) (h0 : F.H0 l = none) (no : ∀ (i : Nat) (s : Slot), sl[i]? = some s → s.own = true → σ[i]? ≠ some (some (.ref l))) :
    SA K F sl σ B (upd H l o) := by
  refine ⟨h.len, fun i t ht => ?_, fun i t m ht o1 em => h.ow i t m ht o1 em, h.dis, h.b0, fun a u q => ?_, h.nn, fun a u q n => ?_, fun a n q => ?_⟩
  · obtain ⟨o', eo, ok⟩ := h.ok i t ht
    refine ⟨o', eo, ?_⟩
    have nl : ∀ m, t.own = true → o' = some (.ref m) → m ≠ l := fun m ot em z => by
      subst z
      rw [em] at eo
      exact no i t ht ot eo
    cases t with
    | un => trivial
    | fz d => exact ok
    | ow ds => obtain ⟨m, xs, a1, a2, a3⟩ := ok; exact ⟨m, xs, a1, by rw [upd_ne (nl m rfl a1)]; exact a2, a3⟩
    | od ds => obtain ⟨m, xs, a1, a2, a3⟩ := ok; exact ⟨m, xs, a1, by rw [upd_ne (nl m rfl a1)]; exact a2, a3⟩
    | oa k ds => obtain ⟨m, xs, a1, a2, a3⟩ := ok; exact ⟨m, xs, a1, by rw [upd_ne (nl m rfl a1)]; exact a2, a3⟩
    | oda k ds => obtain ⟨m, xs, a1, a2, a3⟩ := ok; exact ⟨m, xs, a1, by rw [upd_ne (nl m rfl a1)]; exact a2, a3⟩
    | fd k n => obtain ⟨m, xs, a1, a2, a3⟩ := ok; exact ⟨m, xs, a1, by rw [upd_ne (nl m rfl a1)]; exact a2, a3⟩
  · have na : a ≠ l := fun z => by subst z; rw [bl] at q; cases q
    rw [upd_ne na]; exact h.bh a u q
  · have na : a ≠ l := fun z => by subst z; rw [h0] at q; cases q
    rw [upd_ne na]; exact h.kp a u q n
  · have na : a ≠ l := fun z => by subst z; exact n h0
    rw [upd_ne na] at q; exact h.th a n q
theorem SA.h0free {K : PySem.W.Frag} {F : Fr} {sl : List Slot} {σ : L2.St} {B H : Hp} (h : SA K F sl σ B H) {l : Addr} (hl : H l = none) : F.H0 l = none := by
  cases e : F.H0 l with
  | none => rfl
  | some o => exact absurd hl (h.th l (by rw [e]; exact fun q => nomatch q))
section
variable (K : PySem.W.Frag) (F : Fr) (sl : List Slot)
def EvP (te : TE) (P : Dt → Prop) : Prop := ∀ σ B H, SA K F sl σ B H → ∀ Q : VK, (∀ d v B' H', P d → SA K F sl σ B' H' → Stp B H B' H' → D K B' v d → Q v H') → te σ H Q
def EvD (te : TE) (d : Dt) : Prop := ∀ σ B H, SA K F sl σ B H → ∀ Q : VK, (∀ v B' H', SA K F sl σ B' H' → Stp B H B' H' → D K B' v d → Q v H') → te σ H Q
/-- a new list, not frozen -/
def EvL (te : TE) (ds : List Dt) : Prop := ∀ σ B H, SA K F sl σ B H → ∀ Q : VK, (∀ l xs B' H', SA K F sl σ B' H' → Stp B H B' H' → H' l = some (.lst xs) → Ds K B' xs ds → B' l = none → H l = none → Q (.ref l) H') → te σ H Q
def EvK (te : TE) (kvs : List (Str × Dt)) : Prop := ∀ σ B H, SA K F sl σ B H → ∀ Q : VK, (∀ l xs B' H', SA K F sl σ B' H' → Stp B H B' H' → H' l = some (.dK xs) → Dk K B' xs kvs → B' l = none → H l = none → Q (.ref l) H') → te σ H Q
/-- a list that may be read -/
def EvRd (te : TE) (ds : List Dt) : Prop := ∀ σ B H, SA K F sl σ B H → ∀ Q : VK, (∀ l xs B' H', SA K F sl σ B' H' → Stp B H B' H' → H' l = some (.lst xs) → Ds K B' xs ds → Q (.ref l) H') → te σ H Q
def EvRk (te : TE) (kvs : List (Str × Dt)) : Prop := ∀ σ B H, SA K F sl σ B H → ∀ Q : VK, (∀ l xs B' H', SA K F sl σ B' H' → Stp B H B' H' → H' l = some (.dK xs) → Dk K B' xs kvs → Q (.ref l) H') → te σ H Q
def EvT (tt : TT) (b : Bool) : Prop := ∀ σ B H, SA K F sl σ B H → ∀ Q : Bool → Hp → Prop, (∀ B' H', SA K F sl σ B' H' → Stp B H B' H' → Q b H') → tt σ H Q
def EvAs (ta : TA) (ds : List Dt) : Prop := ∀ σ B H, SA K F sl σ B H → ∀ Q : List V → Hp → Prop, (∀ vs B' H', SA K F sl σ B' H' → Stp B H B' H' → Ds K B' vs ds → Q vs H') → ta σ H Q
def EvO (to : TO) (o : Option Int) : Prop := ∀ σ B H, SA K F sl σ B H → ∀ Q : Option Int → Hp → Prop, (∀ B' H', SA K F sl σ B' H' → Stp B H B' H' → Q o H') → to σ H Q
end
section
variable {K : PySem.W.Frag} {F : Fr} {sl : List Slot} {ta tb te tc : TE} {d d1 d2 d3 : Dt}
theorem EvD.p (h : EvD K F sl te d) : EvP K F sl te (fun e => e = d) := fun σ B H a Q q => h σ B H a Q fun v B' H' b e1 dd => q d v B' H' rfl b e1 dd
theorem EvP.det {P : Dt → Prop} (h : EvP K F sl te P) (hp : ∀ e, P e → e = d) : EvD K F sl te d := fun σ B H a Q q => h σ B H a Q fun e v B' H' p b e1 dd => q v B' H' b e1 (hp e p ▸ dd)
theorem EvD.is {e : Dt} (h : EvD K F sl te d) (q : d = e) : EvD K F sl te e := q ▸ h
theorem ev_var {i : Nat} (h : sl[i]? = some (.fz d)) : EvD K F sl (tVar i) d := fun σ B H a Q q => by
  obtain ⟨o, e, v, rfl, dv⟩ := a.ok i _ h
  exact ⟨v, e, q v B H a Stp.refl dv⟩
theorem ev_c {v : V} (h : ∀ B, D K B v d) : EvD K F sl (tC v) d := fun σ B H a Q q => q v B H a Stp.refl (h B)
theorem ev_int {i : Int} : EvD K F sl (tC (.int i)) (.int i) := ev_c fun _ => .int i
theorem ev_str {x : Str} : EvD K F sl (tC (.str x)) (.str x) := ev_c fun _ => .str x
theorem ev_bl {b : Bool} : EvD K F sl (tC (.bl b)) (.bl b) := ev_c fun _ => .bl b
theorem ev_non : EvD K F sl (tC .non) .non := ev_c fun _ => .non
/-- two operands, no new object -/
theorem ev_op {r : R2} (ha : EvD K F sl ta d1) (hb : EvD K F sl tb d2) (hr : ∀ x y B H, Same B H → D K B x d1 → D K B y d2 → ∀ Q : VK, (∀ z, D K B z d → Q z H) → r x y H Q) : EvD K F sl (tOp r ta tb) d := fun σ B H a Q q =>
  ha σ B H a _ fun x B1 H1 a1 e1 x1 => hb σ B1 H1 a1 _ fun y B2 H2 a2 e2 y2 => hr x y B2 H2 a2.bh (x1.up e2.e) y2 Q fun z dz => q z B2 H2 a2 (e1.trans e2) dz
theorem ev_un {r : V → Hp → VK → Prop} (ha : EvD K F sl ta d1) (hr : ∀ x B H, Same B H → D K B x d1 → ∀ Q : VK, (∀ z, D K B z d → Q z H) → r x H Q) : EvD K F sl (tUn r ta) d := fun σ B H a Q q =>
  ha σ B H a _ fun x B1 H1 a1 e1 x1 => hr x B1 H1 a1.bh x1 Q fun z dz => q z B1 H1 a1 e1 dz
theorem ev_I0 {g : Int → Int → Int} {i j : Int} (ha : EvD K F sl ta (.int i)) (hb : EvD K F sl tb (.int j)) : EvD K F sl (tOp (rI0 fun i j => .int (g i j)) ta tb) (.int (g i j)) :=
  ev_op ha hb fun x y B H _ hx hy Q q => by cases hx; cases hy; exact ⟨i, j, rfl, rfl, q _ (.int _)⟩
theorem ev_B0 {g : Int → Int → Bool} {i j : Int} (ha : EvD K F sl ta (.int i)) (hb : EvD K F sl tb (.int j)) : EvD K F sl (tOp (rI0 fun i j => .bl (g i j)) ta tb) (.bl (g i j)) :=
  ev_op ha hb fun x y B H _ hx hy Q q => by cases hx; cases hy; exact ⟨i, j, rfl, rfl, q _ (.bl _)⟩
theorem ev_I {C : Int → Int → Prop} {g : Int → Int → Int} {i j : Int} (ha : EvD K F sl ta (.int i)) (hb : EvD K F sl tb (.int j)) (hc : C i j) : EvD K F sl (tOp (rI C fun i j => .int (g i j)) ta tb) (.int (g i j)) :=
  ev_op ha hb fun x y B H _ hx hy Q q => by cases hx; cases hy; exact ⟨i, j, rfl, rfl, hc, q _ (.int _)⟩
theorem ev_add {i j : Int} (ha : EvD K F sl ta (.int i)) (hb : EvD K F sl tb (.int j)) : EvD K F sl (tOp (rI0 fun i j => .int (i + j)) ta tb) (.int (i + j)) := ev_I0 ha hb
theorem ev_sub {i j : Int} (ha : EvD K F sl ta (.int i)) (hb : EvD K F sl tb (.int j)) : EvD K F sl (tOp (rI0 fun i j => .int (i - j)) ta tb) (.int (i - j)) := ev_I0 ha hb
theorem ev_lt {i j : Int} (ha : EvD K F sl ta (.int i)) (hb : EvD K F sl tb (.int j)) : EvD K F sl (tOp (rI0 fun i j => .bl (decide (i < j))) ta tb) (.bl (decide (i < j))) := ev_B0 (g := fun i j => decide (i < j)) ha hb
theorem ev_gt {i j : Int} (ha : EvD K F sl ta (.int i)) (hb : EvD K F sl tb (.int j)) : EvD K F sl (tOp (rI0 fun i j => .bl (decide (j < i))) ta tb) (.bl (decide (j < i))) := ev_B0 (g := fun i j => decide (j < i)) ha hb
theorem ev_ge {i j : Int} (ha : EvD K F sl ta (.int i)) (hb : EvD K F sl tb (.int j)) : EvD K F sl (tOp (rI0 fun i j => .bl (decide (j ≤ i))) ta tb) (.bl (decide (j ≤ i))) := ev_B0 (g := fun i j => decide (j ≤ i)) ha hb
theorem dec_strV {a b : Str} : decide (V.str a = V.str b) = decide (a = b) := by
  by_cases h : a = b
  · subst h; simp
  · rw [decide_eq_false h, decide_eq_false (fun q => h (V.str.inj q))]
theorem dec_intV {a b : Int} : decide (V.int a = V.int b) = decide (a = b) := by
  by_cases h : a = b
  · subst h; simp
  · rw [decide_eq_false h, decide_eq_false (fun q => h (V.int.inj q))]
theorem dec_blV {a b : Bool} : decide (V.bl a = V.bl b) = decide (a = b) := by
  by_cases h : a = b
  · subst h; simp
  · rw [decide_eq_false h, decide_eq_false (fun q => h (V.bl.inj q))]
theorem ev_eqS {a b : Str} (ha : EvD K F sl ta (.str a)) (hb : EvD K F sl tb (.str b)) : EvD K F sl (tOp rEq ta tb) (.bl (decide (a = b))) :=
  ev_op ha hb fun x y B H _ hx hy Q q => by cases hx; cases hy; exact ⟨rfl, by rw [dec_strV]; exact q _ (.bl _)⟩
theorem ev_neS {a b : Str} (ha : EvD K F sl ta (.str a)) (hb : EvD K F sl tb (.str b)) : EvD K F sl (tOp rNe ta tb) (.bl (!decide (a = b))) :=
  ev_op ha hb fun x y B H _ hx hy Q q => by cases hx; cases hy; exact ⟨rfl, by rw [dec_strV]; exact q _ (.bl _)⟩
theorem ev_eqI {a b : Int} (ha : EvD K F sl ta (.int a)) (hb : EvD K F sl tb (.int b)) : EvD K F sl (tOp rEq ta tb) (.bl (decide (a = b))) :=
  ev_op ha hb fun x y B H _ hx hy Q q => by cases hx; cases hy; exact ⟨rfl, by rw [dec_intV]; exact q _ (.bl _)⟩
theorem ev_eqB {a b : Bool} (ha : EvD K F sl ta (.bl a)) (hb : EvD K F sl tb (.bl b)) : EvD K F sl (tOp rEq ta tb) (.bl (decide (a = b))) :=
  ev_op ha hb fun x y B H _ hx hy Q q => by cases hx; cases hy; exact ⟨rfl, by rw [dec_blV]; exact q _ (.bl _)⟩
theorem ev_isN (ha : EvD K F sl ta d) : EvD K F sl (tIsN ta) (.bl d.isNon) := fun σ B H a Q q => ha σ B H a _ fun x B1 H1 a1 e1 x1 => by
  show Q (.bl (decide (x = .non))) H1
  rw [x1.isNon]; exact q _ B1 H1 a1 e1 (.bl _)
theorem ev_notN (ha : EvD K F sl ta d) : EvD K F sl (tNotN ta) (.bl (!d.isNon)) := fun σ B H a Q q => ha σ B H a _ fun x B1 H1 a1 e1 x1 => by
  show Q (.bl (!decide (x = .non))) H1
  rw [x1.isNon]; exact q _ B1 H1 a1 e1 (.bl _)
theorem ev_not {b : Bool} (ha : EvD K F sl ta (.bl b)) : EvD K F sl (tNotV ta) (.bl (!b)) := fun σ B H a Q q => ha σ B H a _ fun x B1 H1 a1 e1 x1 => by
  cases x1; exact ⟨b, rfl, q _ B1 H1 a1 e1 (.bl _)⟩
theorem ev_and {a b : Bool} (ha : EvD K F sl ta (.bl a)) (hb : a = true → EvD K F sl tb (.bl b)) : EvD K F sl (tAndV ta tb) (.bl (a && b)) := fun σ B H h Q q => ha σ B H h _ fun x B1 H1 a1 e1 x1 => by
  cases x1
  refine ⟨a, rfl, ?_⟩
  cases a with
  | true =>
    rw [if_pos rfl]
    exact hb rfl σ B1 H1 a1 _ fun y B2 H2 a2 e2 y2 => q y B2 H2 a2 (e1.trans e2) y2
  | false =>
    rw [if_neg Bool.false_ne_true]
    exact q _ B1 H1 a1 e1 (.bl _)
theorem ev_or {a b : Bool} (ha : EvD K F sl ta (.bl a)) (hb : a = false → EvD K F sl tb (.bl b)) : EvD K F sl (tOrV ta tb) (.bl (a || b)) := fun σ B H h Q q => ha σ B H h _ fun x B1 H1 a1 e1 x1 => by
  cases x1
  refine ⟨a, rfl, ?_⟩
  cases a with
  | true =>
    rw [if_pos rfl]
    exact q _ B1 H1 a1 e1 (.bl _)
  | false =>
    rw [if_neg Bool.false_ne_true]
    exact hb rfl σ B1 H1 a1 _ fun y B2 H2 a2 e2 y2 => q y B2 H2 a2 (e1.trans e2) y2
/-! tests -/
variable {tt tu : TT} {a b : Bool}
theorem EvT.is {c : Bool} (h : EvT K F sl tt b) (e : b = c) : EvT K F sl tt c := e ▸ h
theorem et_test (h : EvD K F sl te (.bl b)) : EvT K F sl (tTest te) b := fun σ B H s Q q => h σ B H s _ fun x B1 H1 a1 e1 x1 => by cases x1; exact ⟨b, rfl, q B1 H1 a1 e1⟩
theorem et_B (h : EvD K F sl te (.bl b)) : EvT K F sl (tB te) b := fun σ B H s Q q => h σ B H s _ fun x B1 H1 a1 e1 x1 => by cases x1; exact ⟨b, rfl, q B1 H1 a1 e1⟩
theorem et_not (h : EvT K F sl tt b) : EvT K F sl (tNot tt) (!b) := fun σ B H s Q q => h σ B H s _ fun B1 H1 a1 e1 => q B1 H1 a1 e1
theorem et_and (h1 : EvT K F sl tt a) (h2 : a = true → EvT K F sl tu b) : EvT K F sl (tAnd tt tu) (a && b) := fun σ B H s Q q => h1 σ B H s _ fun B1 H1 a1 e1 => by
  cases a with
  | true =>
    rw [if_pos rfl]
    exact h2 rfl σ B1 H1 a1 _ fun B2 H2 a2 e2 => q B2 H2 a2 (e1.trans e2)
  | false =>
    rw [if_neg Bool.false_ne_true]
    exact q B1 H1 a1 e1
theorem et_or (h1 : EvT K F sl tt a) (h2 : a = false → EvT K F sl tu b) : EvT K F sl (tOr tt tu) (a || b) := fun σ B H s Q q => h1 σ B H s _ fun B1 H1 a1 e1 => by
  cases a with
  | true =>
    rw [if_pos rfl]
    exact q B1 H1 a1 e1
  | false =>
    rw [if_neg Bool.false_ne_true]
    exact h2 rfl σ B1 H1 a1 _ fun B2 H2 a2 e2 => q B2 H2 a2 (e1.trans e2)
theorem et_or1 (h1 : EvT K F sl tt true) : EvT K F sl (tOr tt tu) true := fun σ B H s Q q => h1 σ B H s _ fun B1 H1 a1 e1 => by
  rw [if_pos rfl]
  exact q B1 H1 a1 e1
theorem et_and0 (h1 : EvT K F sl tt false) : EvT K F sl (tAnd tt tu) false := fun σ B H s Q q => h1 σ B H s _ fun B1 H1 a1 e1 => by
  rw [if_neg Bool.false_ne_true]
  exact q B1 H1 a1 e1
theorem et_yes : EvT K F sl tYes true := fun σ B H s Q q => q B H s Stp.refl
/-! argument lists, displays -/
variable {tas : TA} {ds es : List Dt}
theorem ea_nil : EvAs K F sl tNil [] := fun σ B H s Q q => q [] B H s Stp.refl .nil
theorem ea_cons (h : EvD K F sl te d) (hr : EvAs K F sl tas ds) : EvAs K F sl (tCons te tas) (d :: ds) := fun σ B H s Q q => h σ B H s _ fun x B1 H1 a1 e1 x1 => hr σ B1 H1 a1 _ fun xs B2 H2 a2 e2 x2 =>
  q (x :: xs) B2 H2 a2 (e1.trans e2) (.cons (x1.up e2.e) x2)
theorem ev_tup (h : EvAs K F sl tas ds) (hz : ds.length ≤ 100000 := by simp) : EvD K F sl (tTup tas) (.tup ds) := fun σ B H s Q q => h σ B H s _ fun xs B1 H1 a1 e1 x1 => ⟨by rw [x1.len]; exact Nat.le_trans hz (by decide), fun p hp => by
  obtain ⟨a2, e2⟩ := a1.new' (o := .tup xs) hp
  exact q _ _ _ a2 (e1.trans e2) (.tup (SqT.of upd_same) (x1.up e2.e))⟩
theorem el_lst (h : EvAs K F sl tas ds) (hz : ds.length ≤ 100000 := by simp) : EvL K F sl (tLst tas) ds := fun σ B H s Q q => h σ B H s _ fun xs B1 H1 a1 e1 x1 => ⟨by rw [x1.len]; exact Nat.le_trans hz (by decide), fun p hp => by
  obtain ⟨a2, e2⟩ := a1.newO' (o := .lst xs) hp
  exact q p xs B1 _ a2 (e1.trans e2) upd_same x1 (a1.bh.free hp) (e1.g.free hp)⟩
theorem EvL.fz (h : EvL K F sl te ds) : EvD K F sl te (.lst ds) := fun σ B H s Q q => h σ B H s _ fun l xs B1 H1 a1 e1 hl x1 bl hl0 => by
  have a2 := a1.seal bl hl (s.h0free hl0) (s.notOwn hl0)
  have e2 : Same B1 (upd B1 l (.lst xs)) := Same.new bl
  refine q _ _ _ a2 ⟨e1.e.trans e2, e1.g, fun a n b => ?_⟩ (.lst upd_same (x1.up e2))
  have na : a ≠ l := fun z => n (z ▸ hl0)
  rw [upd_ne na]; exact e1.n a n b
theorem EvK.fz {kvs : List (Str × Dt)} (h : EvK K F sl te kvs) : EvD K F sl te (.dct kvs) := fun σ B H s Q q => h σ B H s _ fun l xs B1 H1 a1 e1 hl x1 bl hl0 => by
  have a2 := a1.seal bl hl (s.h0free hl0) (s.notOwn hl0)
  have e2 : Same B1 (upd B1 l (.dK xs)) := Same.new bl
  refine q _ _ _ a2 ⟨e1.e.trans e2, e1.g, fun a n b => ?_⟩ (.dct upd_same (x1.up e2))
  have na : a ≠ l := fun z => n (z ▸ hl0)
  rw [upd_ne na]; exact e1.n a n b
theorem rd_d (h : EvD K F sl te (.lst ds)) : EvRd K F sl te ds := fun σ B H s Q q => h σ B H s _ fun x B1 H1 a1 e1 x1 => by
  cases x1 with
  | lst hl hx => exact q _ _ B1 H1 a1 e1 (a1.bh _ _ hl) hx
theorem rd_l (h : EvL K F sl te ds) : EvRd K F sl te ds := fun σ B H s Q q => h σ B H s _ fun l xs B1 H1 a1 e1 hl x1 _ _ => q l xs B1 H1 a1 e1 hl x1
theorem rd_own {i : Nat} (h : sl[i]? = some (.ow ds)) : EvRd K F sl (tVar i) ds := fun σ B H s Q q => by
  obtain ⟨o, e, l, xs, rfl, hl, hx⟩ := s.ok i _ h
  exact ⟨.ref l, e, q l xs B H s Stp.refl hl hx⟩
theorem rd_var {i : Nat} (h : sl[i]? = some (.fz (.lst ds))) : EvRd K F sl (tVar i) ds := rd_d (ev_var h)
theorem rk_d {kvs : List (Str × Dt)} (h : EvD K F sl te (.dct kvs)) : EvRk K F sl te kvs := fun σ B H s Q q => h σ B H s _ fun x B1 H1 a1 e1 x1 => by
  cases x1 with
  | dct hl hx => exact q _ _ B1 H1 a1 e1 (a1.bh _ _ hl) hx
theorem rk_own {i : Nat} {kvs : List (Str × Dt)} (h : sl[i]? = some (.od kvs)) : EvRk K F sl (tVar i) kvs := fun σ B H s Q q => by
  obtain ⟨o, e, l, xs, rfl, hl, hx⟩ := s.ok i _ h
  exact ⟨.ref l, e, q l xs B H s Stp.refl hl hx⟩
theorem rk_var {i : Nat} {kvs : List (Str × Dt)} (h : sl[i]? = some (.fz (.dct kvs))) : EvRk K F sl (tVar i) kvs := rk_d (ev_var h)
theorem atI_up {α β : Type} {xs : List α} {ys : List β} (hl : xs.length = ys.length) {i : Int} {y : β} (h : atI ys i = some y) : ∃ j, ixN xs.length i = some j ∧ ys[j]? = some y := by
  unfold atI at h
  rw [← hl] at h
  cases e : ixN xs.length i with
  | none => rw [e] at h; cases h
  | some j => rw [e] at h; exact ⟨j, rfl, h⟩
theorem atI_of {α : Type} {xs : List α} {i : Int} {j : Nat} {x : α} (h : ixN xs.length i = some j) (e : xs[j]? = some x) : atI xs i = some x := by
  unfold atI; rw [h]; exact e
theorem Ds.atI {B : Hp} {vs : List V} (h : Ds K B vs ds) {i : Int} (e : atI ds i = some d) : ∃ v, L2.atI vs i = some v ∧ D K B v d := by
  obtain ⟨j, h1, h2⟩ := atI_up h.len e
  obtain ⟨v, h3, h4⟩ := h.get' h2
  exact ⟨v, atI_of h1 h3, h4⟩
theorem ev_ixT {i : Int} (ha : EvD K F sl ta (.tup ds)) (hb : EvD K F sl tb (.int i)) (h : atI ds i = some d) : EvD K F sl (tOp (rIxT K) ta tb) d :=
  ev_op ha hb fun x y B H e hx hy Q q => by
    cases hy
    cases hx with
    | tup h1 h2 =>
      obtain ⟨v, h3, h4⟩ := h2.atI h
      exact ⟨_, _, i, v, rfl, rfl, same_t e h1, h3, q v h4⟩
theorem ev_ixL {i : Int} (ha : EvRd K F sl ta ds) (hb : EvD K F sl tb (.int i)) (h : atI ds i = some d) : EvD K F sl (tOp (rIxL K) ta tb) d := fun σ B H s Q q => ha σ B H s _ fun l xs B1 H1 a1 e1 hl x1 => hb σ B1 H1 a1 _ fun y B2 H2 a2 e2 y2 => by
  cases y2
  obtain ⟨v, h3, h4⟩ := (x1.up e2.e).atI h
  exact ⟨l, xs, i, v, rfl, rfl, SqL.of (e2.g _ _ hl), h3, q v B2 H2 a2 (e1.trans e2) h4⟩
theorem ev_ixS {z : Str} {i : Int} {c : Nat} (ha : EvD K F sl ta (.str z)) (hb : EvD K F sl tb (.int i)) (hz : z.length ≤ 100000) (h : atI z.cps.toList i = some c) : EvD K F sl (tOp rIxS ta tb) (.str ⟨#[c]⟩) :=
  ev_op ha hb fun x y B H e hx hy Q q => by cases hx; cases hy; exact ⟨z, i, c, rfl, rfl, Nat.le_trans hz (by decide), h, q _ (.str _)⟩
/-! slices -/
theorem eo_none : EvO K F sl tNoPart none := fun σ B H s Q q => q B H s Stp.refl
theorem eo_some {i : Int} (h : EvD K F sl te (.int i)) : EvO K F sl (tPart te) (some i) := fun σ B H s Q q => h σ B H s _ fun x B1 H1 a1 e1 x1 => by cases x1; exact ⟨i, rfl, q B1 H1 a1 e1⟩
def cutD (xs : List Dt) (lo hi : Option Int) : List Dt := (xs.drop (HT.sIx xs.length 0 lo)).take (HT.sIx xs.length xs.length hi - HT.sIx xs.length 0 lo)
theorem Ds.cut {B : Hp} {vs : List V} (h : Ds K B vs ds) (lo hi : Option Int) : Ds K B (cutV vs lo hi) (cutD ds lo hi) := by
  unfold cutV cutD
  rw [h.len]
  exact (h.drop _).take _
theorem cutD_whole {lo hi : Option Int} (h : HT.sIx ds.length 0 lo = 0 ∧ HT.sIx ds.length ds.length hi = ds.length) : cutD ds lo hi = ds := by
  unfold cutD
  rw [h.1, h.2, List.drop_zero, Nat.sub_zero, List.take_length]
theorem ev_slT {tl th : TO} {lo hi : Option Int} (ha : EvD K F sl ta (.tup ds)) (hl : EvO K F sl tl lo) (hh : EvO K F sl th hi) : EvD K F sl (tSl (rSlA K) ta tl th) (.tup (cutD ds lo hi)) := fun σ B H s Q q =>
  ha σ B H s _ fun x B1 H1 a1 e1 x1 => hl σ B1 H1 a1 _ fun B2 H2 a2 e2 => hh σ B2 H2 a2 _ fun B3 H3 a3 e3 => by
    cases x1 with
    | @tup a xs _ h1 h2 =>
      have e23 := e2.trans e3
      have hx := h2.up e23.e
      refine ⟨a, xs, rfl, same_t (a1.bh.trans e23.g) h1, fun w => ?_, fun w p hp => ?_⟩
      · rw [hx.len] at w
        rw [cutD_whole w] at q
        exact q _ B3 H3 a3 (e1.trans e23) (.tup (same_t e23.e h1) hx)
      · obtain ⟨a4, e4⟩ := a3.new' (o := .tup (cutV xs lo hi)) hp
        exact q _ _ _ a4 (e1.trans (e23.trans e4)) (.tup (SqT.of upd_same) ((hx.cut lo hi).up e4.e))
theorem el_slL {tl th : TO} {lo hi : Option Int} (ha : EvRd K F sl ta ds) (hl : EvO K F sl tl lo) (hh : EvO K F sl th hi) : EvL K F sl (tSl (rSlL K) ta tl th) (cutD ds lo hi) := fun σ B H s Q q =>
  ha σ B H s _ fun l xs B1 H1 a1 e1 hx x1 => hl σ B1 H1 a1 _ fun B2 H2 a2 e2 => hh σ B2 H2 a2 _ fun B3 H3 a3 e3 =>
    ⟨l, xs, rfl, SqL.of (e3.g _ _ (e2.g _ _ hx)), fun p hp => by
      obtain ⟨a4, e4⟩ := a3.newO' (o := .lst (cutV xs lo hi)) hp
      have e13 := e1.trans (e2.trans e3)
      exact q p _ B3 _ a4 (e13.trans e4) upd_same ((x1.up (e2.trans e3).e).cut lo hi) (a3.bh.free hp) (e13.g.free hp)⟩
theorem ev_catT (ha : EvD K F sl ta (.tup ds)) (hb : EvD K F sl tb (.tup es)) (hz : ds.length + es.length ≤ 100000) : EvD K F sl (tOp (rCatA K) ta tb) (.tup (ds ++ es)) := fun σ B H s Q q =>
  ha σ B H s _ fun x B1 H1 a1 e1 x1 => hb σ B1 H1 a1 _ fun y B2 H2 a2 e2 y2 => by
    cases x1 with
    | @tup a xs _ h1 h2 =>
      cases y2 with
      | @tup b ys _ k1 k2 =>
        have hx := h2.up e2.e
        have e12 := e1.trans e2
        refine ⟨a, b, xs, ys, rfl, rfl, same_t (a1.bh.trans e2.g) h1, same_t a2.bh k1, by rw [hx.len, k2.len]; exact Nat.le_trans hz (by decide), fun z => ?_, fun z1 z => ?_, fun z1 z2 p hp => ?_⟩
        · subst z
          have : ds = [] := by cases hx; rfl
          subst this
          exact q _ B2 H2 a2 e12 (.tup k1 k2)
        · subst z
          have : es = [] := by cases k2; rfl
          subst this
          rw [List.append_nil] at q
          exact q _ B2 H2 a2 e12 (.tup (same_t e2.e h1) hx)
        · obtain ⟨a3, e3⟩ := a2.new' (o := .tup (xs ++ ys)) hp
          exact q _ _ _ a3 (e12.trans e3) (.tup (SqT.of upd_same) ((hx.app k2).up e3.e))
theorem el_cat (ha : EvRd K F sl ta ds) (hb : EvRd K F sl tb es) (hz : ds.length + es.length ≤ 100000) : EvL K F sl (tOp rCat ta tb) (ds ++ es) := fun σ B H s Q q =>
  ha σ B H s _ fun l xs B1 H1 a1 e1 hl x1 => hb σ B1 H1 a1 _ fun m ys B2 H2 a2 e2 hm y2 =>
    have hx := x1.up e2.e
    ⟨l, m, xs, ys, rfl, rfl, e2.g _ _ hl, hm, by rw [hx.len, y2.len]; exact Nat.le_trans hz (by decide), fun p hp => by
      obtain ⟨a3, e3⟩ := a2.newO' (o := .lst (xs ++ ys)) hp
      have e12 := e1.trans e2
      exact q p _ B2 _ a3 (e12.trans e3) upd_same (hx.app y2) (a2.bh.free hp) (e12.g.free hp)⟩
theorem inV_strs (x : Str) (ns : List Str) : inV (.str x) (ns.map V.str) = decide (x ∈ ns) := by
  unfold inV
  induction ns with
  | nil => simp
  | cons n ns ih =>
    rw [List.map_cons, List.any_cons, ih]
    show (n == x || decide (x ∈ ns)) = _
    by_cases e : n = x
    · subst e; simp
    · have e1 : (n == x) = false := by simpa using e
      rw [e1]
      simp [show ¬ x = n from fun q => e q.symm]
theorem inV_ints (x : Int) (ns : List Int) : inV (.int x) (ns.map V.int) = decide (x ∈ ns) := by
  unfold inV
  induction ns with
  | nil => simp
  | cons n ns ih =>
    rw [List.map_cons, List.any_cons, ih]
    show (n == x || decide (x ∈ ns)) = _
    by_cases e : n = x
    · subst e; simp
    · have e1 : (n == x) = false := by simpa using e
      rw [e1]
      simp [show ¬ x = n from fun q => e q.symm]
theorem flat_strs (ns : List Str) : (ns.map V.str).all flatV = true := by
  rw [List.all_map]; exact List.all_eq_true.mpr fun _ _ => rfl
theorem flat_ints (ns : List Int) : (ns.map V.int).all flatV = true := by
  rw [List.all_map]; exact List.all_eq_true.mpr fun _ _ => rfl
theorem ev_inS {x : Str} {ns : List Str} (ha : EvD K F sl ta (.str x)) (hb : EvRd K F sl tb (ns.map Dt.str)) : EvD K F sl (tOp (rIn K false) ta tb) (.bl (decide (x ∈ ns))) := fun σ B H s Q q =>
  ha σ B H s _ fun v B1 H1 a1 e1 x1 => hb σ B1 H1 a1 _ fun l xs B2 H2 a2 e2 hl y2 => by
    cases x1
    have ex := y2.strs
    subst ex
    refine ⟨l, _, rfl, .inl (SqL.of hl), rfl, flat_strs ns, ?_⟩
    rw [if_neg Bool.false_ne_true, inV_strs]
    exact q _ B2 H2 a2 (e1.trans e2) (.bl _)
theorem ev_niS {x : Str} {ns : List Str} (ha : EvD K F sl ta (.str x)) (hb : EvRd K F sl tb (ns.map Dt.str)) : EvD K F sl (tOp (rIn K true) ta tb) (.bl (!decide (x ∈ ns))) := fun σ B H s Q q =>
  ha σ B H s _ fun v B1 H1 a1 e1 x1 => hb σ B1 H1 a1 _ fun l xs B2 H2 a2 e2 hl y2 => by
    cases x1
    have ex := y2.strs
    subst ex
    refine ⟨l, _, rfl, .inl (SqL.of hl), rfl, flat_strs ns, ?_⟩
    rw [if_pos rfl, inV_strs]
    exact q _ B2 H2 a2 (e1.trans e2) (.bl _)
theorem ev_niI {x : Int} {ns : List Int} (ha : EvD K F sl ta (.int x)) (hb : EvRd K F sl tb (ns.map Dt.int)) : EvD K F sl (tOp (rIn K true) ta tb) (.bl (!decide (x ∈ ns))) := fun σ B H s Q q =>
  ha σ B H s _ fun v B1 H1 a1 e1 x1 => hb σ B1 H1 a1 _ fun l xs B2 H2 a2 e2 hl y2 => by
    cases x1
    have ex := y2.ints
    subst ex
    refine ⟨l, _, rfl, .inl (SqL.of hl), rfl, flat_ints ns, ?_⟩
    rw [if_pos rfl, inV_ints]
    exact q _ B2 H2 a2 (e1.trans e2) (.bl _)
theorem ev_niST {x : Str} {ns : List Str} (ha : EvD K F sl ta (.str x)) (hb : EvD K F sl tb (.tup (ns.map Dt.str))) : EvD K F sl (tOp (rIn K true) ta tb) (.bl (!decide (x ∈ ns))) :=
  ev_op ha hb fun v y B H e hx hy Q q => by
    cases hx
    cases hy with
    | @tup a xs _ h1 h2 =>
      have ex := h2.strs
      subst ex
      refine ⟨a, _, rfl, .inr (same_t e h1), rfl, flat_strs ns, ?_⟩
      rw [if_pos rfl, inV_strs]
      exact q _ (.bl _)
theorem ev_len {r : List V → Hp → VK → Prop} (hr : ∀ l xs H Q, H l = some (.lst xs) → Q (.int (xs.length : Int)) H → r [.ref l] H Q) (ha : EvRd K F sl ta ds) : EvD K F sl (tCB r (tCons ta tNil)) (.int (ds.length : Int)) := fun σ B H s Q q =>
  ha σ B H s _ fun l xs B1 H1 a1 e1 hl x1 => hr l xs H1 Q hl (by rw [x1.len]; exact q _ B1 H1 a1 e1 (.int _))
theorem ev_any {bs : List Bool} (ha : EvRd K F sl ta (bs.map Dt.bl)) : EvD K F sl (tCB (rAny K) (tCons ta tNil)) (.bl (bs.any id)) := fun σ B H s Q q =>
  ha σ B H s _ fun l xs B1 H1 a1 e1 hl x1 => by
    have ex := x1.bls
    subst ex
    exact ⟨l, bs, rfl, SqL.of hl, q _ B1 H1 a1 e1 (.bl _)⟩
theorem ev_all {bs : List Bool} (ha : EvRd K F sl ta (bs.map Dt.bl)) : EvD K F sl (tCB (rAll K) (tCons ta tNil)) (.bl (bs.all id)) := fun σ B H s Q q =>
  ha σ B H s _ fun l xs B1 H1 a1 e1 hl x1 => by
    have ex := x1.bls
    subst ex
    exact ⟨l, bs, rfl, SqL.of hl, q _ B1 H1 a1 e1 (.bl _)⟩
/-! dicts -/
theorem ek_new : EvK K F sl tDNewK [] := fun σ B H s Q q => fun p hp => by
  obtain ⟨a2, e2⟩ := s.newO' (o := .dK []) hp
  exact q p [] B _ a2 e2 upd_same .nil (s.bh.free hp) hp
theorem ev_dget {k : Str} {kvs : List (Str × Dt)} (ha : EvRk K F sl ta kvs) (hb : EvD K F sl tb (.str k)) (h : kvs.lookup k = some d) : EvD K F sl (tDGet ta tb) d := fun σ B H s Q q =>
  ha σ B H s _ fun l xs B1 H1 a1 e1 hl x1 => hb σ B1 H1 a1 _ fun y B2 H2 a2 e2 y2 => by
    cases y2
    have z := (x1.up e2.e).val k
    rw [h] at z
    obtain ⟨v, ev, dv⟩ := z
    refine ⟨l, v, rfl, ?_, q v B2 H2 a2 (e1.trans e2) dv⟩
    rw [← ev]
    exact DGet.k (k := Sum.inr k) (e2.g _ _ hl)
theorem dk_some {B : Hp} {xs : List (Key × V)} {kvs : List (Str × Dt)} (h : Dk K B xs kvs) (k : Str) : (valV xs (Sum.inr k)).isSome = (kvs.lookup k).isSome := by
  have z := h.val k
  cases e : kvs.lookup k with
  | none => rw [e] at z; have z' : valV xs (Sum.inr k) = none := z; rw [z']; rfl
  | some d => rw [e] at z; obtain ⟨v, z', _⟩ := z; rw [z']; rfl
theorem ev_din {k : Str} {kvs : List (Str × Dt)} (hb : EvD K F sl tb (.str k)) (ha : EvRk K F sl ta kvs) : EvD K F sl (tDIn tb ta) (.bl (kvs.lookup k).isSome) := fun σ B H s Q q =>
  hb σ B H s _ fun y B1 H1 a1 e1 y1 => ha σ B1 H1 a1 _ fun l xs B2 H2 a2 e2 hl x2 => by
    cases y1
    refine ⟨l, _, rfl, DGet.k (k := Sum.inr k) hl, ?_⟩
    rw [dk_some x2 k]
    exact q _ B2 H2 a2 (e1.trans e2) (.bl _)
theorem ev_dni {k : Str} {kvs : List (Str × Dt)} (hb : EvD K F sl tb (.str k)) (ha : EvRk K F sl ta kvs) : EvD K F sl (tDNotIn tb ta) (.bl (!(kvs.lookup k).isSome)) := fun σ B H s Q q =>
  hb σ B H s _ fun y B1 H1 a1 e1 y1 => ha σ B1 H1 a1 _ fun l xs B2 H2 a2 e2 hl x2 => by
    cases y1
    refine ⟨l, _, rfl, DGet.k (k := Sum.inr k) hl, ?_⟩
    rw [dk_some x2 k]
    exact q _ B2 H2 a2 (e1.trans e2) (.bl _)
end
end FZ
set_option maxHeartbeats 2000000
namespace FZ
open PySem L2

/-! ### what is walked -/
def ItD (K : PySem.W.Frag) (J : It) (B : Hp) (ds : List Dt) : Prop := ∀ (i : Nat) (B1 H1 : Hp), Same B B1 → Same B1 H1 →
  (∀ d, ds[i]? = some d → J.go i H1 ∧ ∀ x H2, J.yld i H1 x H2 → ∃ B2, Stp B1 H1 B2 H2 ∧ Same B2 H2 ∧ D K B2 x d) ∧ (ds.length ≤ i → J.stop i H1)
def ItS (K : PySem.W.Frag) (F : Fr) (sl : List Slot) (wi : TI) (ds : List Dt) : Prop := ∀ σ B H, SA K F sl σ B H → ∀ R : It → Hp → Prop, (∀ J B' H', SA K F sl σ B' H' → Stp B H B' H' → ItD K J B' ds → R J H') → wi σ H R
section
variable {K : PySem.W.Frag} {F : Fr} {sl : List Slot} {ta tb te : TE} {ds es : List Dt}
theorem ItS.is (h : ItS K F sl wi ds) (e : ds = es) : ItS K F sl wi es := e ▸ h
theorem is_list (h : EvD K F sl te (.lst ds)) : ItS K F sl (iList K te) ds := fun σ B H s R q => h σ B H s _ fun v B1 H1 a1 e1 x1 => by
  cases x1 with
  | @lst a xs _ h1 h2 =>
    refine ⟨a, rfl, ⟨xs, SqL.of (a1.bh _ _ h1)⟩, q _ B1 H1 a1 e1 fun i B2 H2 f1 f2 => ?_⟩
    have hl : SqL K H2 a xs := SqL.of (f2 _ _ (f1 _ _ h1))
    refine ⟨fun d hd => ?_, fun hi => ⟨xs, hl, by rw [h2.len]; exact hi⟩⟩
    obtain ⟨v, hv, dv⟩ := h2.get' hd
    refine ⟨⟨xs, v, hl, hv⟩, fun x H3 y => ?_⟩
    obtain ⟨rfl, y⟩ := y
    have := y xs hl
    rw [hv] at this
    cases this
    exact ⟨B2, Stp.refl, f2, dv.up f1⟩
theorem is_tup (h : EvD K F sl te (.tup ds)) : ItS K F sl (iTup K te) ds := fun σ B H s R q => h σ B H s _ fun v B1 H1 a1 e1 x1 => by
  cases x1 with
  | @tup a xs _ h1 h2 =>
    refine ⟨a, rfl, ⟨xs, same_t a1.bh h1⟩, q _ B1 H1 a1 e1 fun i B2 H2 f1 f2 => ?_⟩
    have hl : SqT K H2 a xs := same_t (f1.trans f2) h1
    refine ⟨fun d hd => ?_, fun hi => ⟨xs, hl, by rw [h2.len]; exact hi⟩⟩
    obtain ⟨v, hv, dv⟩ := h2.get' hd
    refine ⟨⟨xs, v, hl, hv⟩, fun x H3 y => ?_⟩
    obtain ⟨rfl, y⟩ := y
    have := y xs hl
    rw [hv] at this
    cases this
    exact ⟨B2, Stp.refl, f2, dv.up f1⟩
def rangeD (n : Nat) : List Dt := (List.range n).map fun k => Dt.int ((k : Nat) : Int)
theorem rangeD_len (n : Nat) : (rangeD n).length = n := by simp [rangeD]
theorem rangeD_get {n i : Nat} {d : Dt} (h : (rangeD n)[i]? = some d) : i < n ∧ d = .int (i : Int) := by
  unfold rangeD at h
  rw [List.getElem?_map] at h
  by_cases hi : i < n
  · rw [List.getElem?_range hi] at h
    exact ⟨hi, (Option.some.inj h).symm⟩
  · rw [List.getElem?_eq_none (by rw [List.length_range]; omega)] at h
    cases h
theorem is_range1 {n : Nat} (h : EvD K F sl te (.int (n : Int))) (hn : n < 2 ^ 62) : ItS K F sl (iRng1 (tCons te tNil)) (rangeD n) := fun σ B H s R q => h σ B H s _ fun v B1 H1 a1 e1 x1 => by
  cases x1
  refine ⟨(n : Int), rfl, by omega, by omega, q _ B1 H1 a1 e1 fun i B2 H2 f1 f2 => ⟨fun d hd => ?_, fun hi => ?_⟩⟩
  · obtain ⟨h1, rfl⟩ := rangeD_get hd
    refine ⟨show i < (n : Int).toNat by omega, fun x H3 y => ?_⟩
    obtain ⟨rfl, rfl⟩ := y
    rw [Int.zero_add]
    exact ⟨B2, Stp.refl, f2, .int _⟩
  · rw [rangeD_len] at hi
    show (n : Int).toNat ≤ i
    omega
def enumD (ds : List Dt) : List Dt := (ds.zipIdx).map fun p => Dt.tup [.int ((p.2 : Nat) : Int), p.1]
theorem enumD_len (ds : List Dt) : (enumD ds).length = ds.length := by simp [enumD]
theorem enumD_get {i : Nat} {d : Dt} (h : (enumD ds)[i]? = some d) : ∃ e, ds[i]? = some e ∧ d = .tup [.int (i : Int), e] := by
  unfold enumD at h
  rw [List.getElem?_map, List.getElem?_zipIdx] at h
  cases e : ds[i]? with
  | none => rw [e] at h; simp at h
  | some x => rw [e] at h; simp at h; exact ⟨x, rfl, h.symm⟩
theorem is_enum (h : EvD K F sl te (.lst ds)) : ItS K F sl (iEnum K (tCons te tNil)) (enumD ds) := fun σ B H s R q => h σ B H s _ fun v B1 H1 a1 e1 x1 => by
  cases x1 with
  | @lst a xs _ h1 h2 =>
    refine ⟨a, xs, rfl, SqL.of (a1.bh _ _ h1), q _ B1 H1 a1 e1 fun i B2 H2 f1 f2 => ?_⟩
    have hl : SqL K H2 a xs := SqL.of (f2 _ _ (f1 _ _ h1))
    refine ⟨fun d hd => ?_, fun hi => ⟨xs, hl, by rw [h2.len, ← enumD_len]; exact hi⟩⟩
    obtain ⟨e, he, rfl⟩ := enumD_get hd
    obtain ⟨v, hv, dv⟩ := h2.get' he
    refine ⟨⟨xs, v, hl, hv⟩, fun x H3 y => ?_⟩
    obtain ⟨T, x', rfl, hT, rfl, y⟩ := y
    have := y xs hl
    rw [hv] at this
    cases this
    have st : Stp B2 H2 (upd B2 T (.tup [.int (i : Nat), v])) (upd H2 T (.tup [.int (i : Nat), v])) := Stp.new f2 hT
    refine ⟨_, st, fun a u e => ?_, .tup (SqT.of upd_same) (.cons (.int _) (.cons ((dv.up f1).up st.e) .nil))⟩
    by_cases q : a = T
    · subst q; rw [upd_same] at e ⊢; exact e
    · rw [upd_ne q] at e ⊢; exact f2 a u e
def zipD (ds es : List Dt) : List Dt := (ds.zip es).map fun p => Dt.tup [p.1, p.2]
theorem zipD_get {i : Nat} {d : Dt} (h : (zipD ds es)[i]? = some d) : ∃ x y, ds[i]? = some x ∧ es[i]? = some y ∧ d = .tup [x, y] := by
  unfold zipD at h
  rw [List.getElem?_map] at h
  cases e : (ds.zip es)[i]? with
  | none => rw [e] at h; simp at h
  | some p =>
    rw [e] at h
    rw [List.getElem?_zip_eq_some] at e
    simp at h
    exact ⟨p.1, p.2, e.1, e.2, h.symm⟩
theorem is_zipT (h : EvD K F sl ta (.tup ds)) (g : EvD K F sl tb (.tup es)) : ItS K F sl (RZ.iZipA K (tCons ta (tCons tb tNil))) (zipD ds es) := fun σ B H s R q => h σ B H s _ fun v B0 H0 a0 e0 x0 => g σ B0 H0 a0 _ fun w B1 H1 a1 e1 y1 => by
  cases x0 with
  | @tup a xs _ h1 h2 =>
    cases y1 with
    | @tup b ys _ k1 k2 =>
      refine ⟨a, b, xs, ys, rfl, .inr ⟨same_t (a0.bh.trans e1.g) h1, same_t a1.bh k1, q _ B1 H1 a1 (e0.trans e1) fun i B2 H2 f1 f2 => ?_⟩⟩
      have hx : SqT K H2 a xs := same_t (e1.e.trans (f1.trans f2)) h1
      have hy : SqT K H2 b ys := same_t (f1.trans f2) k1
      refine ⟨fun d hd => ?_, fun hi => ⟨xs, ys, hx, hy, ?_⟩⟩
      · obtain ⟨x, y, ex, ey, rfl⟩ := zipD_get hd
        obtain ⟨v, hv, dv⟩ := h2.get' ex
        obtain ⟨u, hu, du⟩ := k2.get' ey
        refine ⟨⟨xs, ys, v, u, hx, hy, hv, hu⟩, fun z H3 y => ?_⟩
        obtain ⟨T, x', y', rfl, hT, rfl, y1, y2⟩ := y
        have q1 := y1 xs hx
        have q2 := y2 ys hy
        rw [hv] at q1
        rw [hu] at q2
        cases q1
        cases q2
        have st : Stp B2 H2 (upd B2 T (.tup [v, u])) (upd H2 T (.tup [v, u])) := Stp.new f2 hT
        refine ⟨_, st, fun a u e => ?_, .tup (SqT.of upd_same) (.cons ((dv.up (e1.e.trans f1)).up st.e) (.cons ((du.up f1).up st.e) .nil))⟩
        by_cases q : a = T
        · subst q; rw [upd_same] at e ⊢; exact e
        · rw [upd_ne q] at e ⊢; exact f2 a u e
      · unfold zipD at hi
        rw [List.length_map, List.length_zip] at hi
        rw [h2.len, k2.len]
        omega
theorem is_revR {n : Nat} (h : EvD K F sl te (.int (n : Int))) (hn : n < 2 ^ 62) : ItS K F sl (iRevR (tRg1 te)) (rangeD n).reverse := fun σ B H s R q => h σ B H s _ fun v B1 H1 a1 e1 x1 => by
  cases x1
  refine ⟨(n : Int), rfl, by omega, by omega, by omega, by omega, q _ B1 H1 a1 e1 fun i B2 H2 f1 f2 => ⟨fun d hd => ?_, fun hi => ?_⟩⟩
  · have hlt : i < n := by
      have := (List.getElem?_eq_some_iff.mp hd).1
      rw [List.length_reverse, rangeD_len] at this
      exact this
    rw [List.getElem?_reverse (by rw [rangeD_len]; exact hlt), rangeD_len] at hd
    obtain ⟨h1, rfl⟩ := rangeD_get hd
    refine ⟨show i < ((n : Int) - 0).toNat by omega, fun x H3 y => ?_⟩
    obtain ⟨rfl, rfl⟩ := y
    have e : (0 : Int) + ((((n : Int) - 0).toNat : Nat) : Int) - 1 + (i : Int) * (-1) = ((n - 1 - i : Nat) : Int) := by omega
    rw [e]
    exact ⟨B2, Stp.refl, f2, .int _⟩
  · rw [List.length_reverse, rangeD_len] at hi
    show ((n : Int) - 0).toNat ≤ i
    omega
end

/-! ### targets -/
def TgOk (K : PySem.W.Frag) (g : TG) (js : List Nat) (d : Dt) (f : List Slot → List Slot) : Prop := ∀ (F : Fr) (sl : List Slot) (σ : L2.St) (B H : Hp) (v : V) (Q : L2.St → Hp → Prop), SA K F sl σ B H → D K B v d → (∀ j ∈ js, j < sl.length) →
  (∀ σ', σ'.length = σ.length → (∀ i, i ∉ js → σ'[i]? = σ[i]?) → SA K F (f sl) σ' B H → Q σ' H) → g v σ H Q
theorem tg_name {K : PySem.W.Frag} (j : Nat) (d : Dt) : TgOk K (gName j) [j] d (fun sl => sl.set j (.fz d)) := fun F sl σ B H v Q s dv hj q =>
  q _ (List.length_set) (fun i hi => List.getElem?_set_ne (fun e => hi (by simp [e]))) (s.set (hj j (by simp)) dv)
theorem tg_tup2 {K : PySem.W.Frag} (i j : Nat) (d e : Dt) : TgOk K (gTup K 2 (gCons (gName i) (gCons (gName j) gNil))) [i, j] (.tup [d, e]) (fun sl => (sl.set i (.fz d)).set j (.fz e)) := fun F sl σ B H v Q s dv hj q => by
  cases dv with
  | tup h1 h2 =>
    cases h2 with
    | cons x1 h2 =>
      cases h2 with
      | cons x2 h2 =>
        cases h2
        refine ⟨_, _, rfl, same_t s.bh h1, rfl, _, _, rfl, _, _, rfl, rfl, ?_⟩
        have s1 := s.set (hj i (by simp)) x1
        have s2 := s1.set (i := j) (by rw [List.length_set]; exact hj j (by simp)) x2
        refine q _ (by rw [List.length_set, List.length_set]) (fun k hk => ?_) s2
        simp only [List.mem_cons, List.not_mem_nil, or_false, not_or] at hk
        rw [List.getElem?_set_ne (fun e => hk.2 e.symm), List.getElem?_set_ne (fun e => hk.1 e.symm)]
theorem tg_tup3 {K : PySem.W.Frag} (i j l : Nat) (d e c : Dt) : TgOk K (gTup K 3 (gCons (gName i) (gCons (gName j) (gCons (gName l) gNil)))) [i, j, l] (.tup [d, e, c]) (fun sl => ((sl.set i (.fz d)).set j (.fz e)).set l (.fz c)) := fun F sl σ B H v Q s dv hj q => by
  cases dv with
  | tup h1 h2 =>
    cases h2 with
    | cons x1 h2 =>
      cases h2 with
      | cons x2 h2 =>
        cases h2 with
        | cons x3 h2 =>
          cases h2
          refine ⟨_, _, rfl, same_t s.bh h1, rfl, _, _, rfl, _, _, rfl, _, _, rfl, rfl, ?_⟩
          have s1 := s.set (hj i (by simp)) x1
          have s2 := s1.set (i := j) (by rw [List.length_set]; exact hj j (by simp)) x2
          have s3 := s2.set (i := l) (by rw [List.length_set, List.length_set]; exact hj l (by simp)) x3
          refine q _ (by rw [List.length_set, List.length_set, List.length_set]) (fun k hk => ?_) s3
          simp only [List.mem_cons, List.not_mem_nil, or_false, not_or] at hk
          rw [List.getElem?_set_ne (fun e => hk.2.2 e.symm), List.getElem?_set_ne (fun e => hk.2.1 e.symm), List.getElem?_set_ne (fun e => hk.1 e.symm)]

/-! ### comprehensions -/
theorem wipe_get (σ : L2.St) : ∀ (vs : List Nat) (i : Nat), (wipe σ vs)[i]? = if i ∈ vs then σ[i]?.map (fun _ => none) else σ[i]?
  | [], i => by simp [wipe]
  | v :: vs, i => by
    show ((wipe σ vs).set v none)[i]? = _
    rw [List.getElem?_set]
    by_cases e : v = i
    · subst e
      rw [if_pos rfl, if_pos (List.mem_cons_self ..), wipe_length]
      by_cases h : v < σ.length
      · rw [if_pos h]; simp [h]
      · rw [if_neg h]; simp [List.getElem?_eq_none (Nat.le_of_not_lt h)]
    · rw [if_neg e, wipe_get σ vs i]
      by_cases h : i ∈ vs
      · rw [if_pos h, if_pos (List.mem_cons_of_mem _ h)]
      · rw [if_neg h, if_neg (by simp only [List.mem_cons, not_or]; exact ⟨fun z => e z.symm, h⟩)]
theorem wipe_same {σ σ' : L2.St} {vs js : List Nat} (hl : σ'.length = (wipe σ vs).length) (h : ∀ i, i ∉ js → σ'[i]? = (wipe σ vs)[i]?) (hs : ∀ j ∈ js, j ∈ vs) : wipe σ' vs = wipe σ vs := by
  apply List.ext_getElem?
  intro i
  rw [wipe_get σ' vs i, wipe_get σ vs i]
  by_cases e : i ∈ vs
  · rw [if_pos e, if_pos e]
    rw [wipe_length] at hl
    by_cases z : i < σ.length
    · rw [List.getElem?_eq_getElem z, List.getElem?_eq_getElem (by omega)]; rfl
    · rw [List.getElem?_eq_none (by omega), List.getElem?_eq_none (by omega)]
  · rw [if_neg e, if_neg e, h i (fun z => e (hs i z)), wipe_get σ vs i, if_neg e]
section
variable {K : PySem.W.Frag} {F : Fr} {sl : List Slot} {σ : L2.St} {B H : Hp}
theorem SA.wipe (h : SA K F sl σ B H) {vs : List Nat} (hu : ∀ v ∈ vs, sl[v]? = some .un) : SA K F sl (wipe σ vs) B H := by
  have fix : ∀ {i : Nat} {s : Slot}, sl[i]? = some s → s.own = true → (L2.wipe σ vs)[i]? = σ[i]? := fun {i s} hs ho => by
    rw [wipe_get]
    by_cases e : i ∈ vs
    · rw [hu i e] at hs; cases hs; cases ho
    · rw [if_neg e]
  refine ⟨by rw [wipe_length]; exact h.len, fun i s hs => ?_, fun i s l hs ho e => h.ow i s l hs ho (fix hs ho ▸ e), fun i j s t l h1 h2 o1 o2 e1 e2 => h.dis i j s t l h1 h2 o1 o2 (fix h1 o1 ▸ e1) (fix h2 o2 ▸ e2), h.b0, h.bh, h.nn, h.kp, h.th⟩
  rw [wipe_get]
  obtain ⟨o, eo, ok⟩ := h.ok i s hs
  by_cases e : i ∈ vs
  · rw [hu i e] at hs; cases hs
    rw [if_pos e, eo]
    exact ⟨none, rfl, trivial⟩
  · rw [if_neg e]; exact ⟨o, eo, ok⟩
variable {wi : TI} {g : TG} {tt : TT} {te : TE} {vs js : List Nat}
theorem take_succ' {α : Type} {l : List α} {i : Nat} {x : α} (h : l[i]? = some x) : l.take (i + 1) = l.take i ++ [x] := by
  rw [List.take_add_one, h]; rfl
theorem un1 {j : Nat} (h : sl[j]? = some .un) : ∀ v ∈ [j], sl[v]? = some .un := fun v hv => by rw [List.mem_singleton.mp hv]; exact h
theorem un2 {i j : Nat} (h1 : sl[i]? = some .un) (h2 : sl[j]? = some .un) : ∀ v ∈ [i, j], sl[v]? = some .un := fun v hv => by
  rcases List.mem_cons.mp hv with rfl | hv
  · exact h1
  · exact un1 h2 v hv
theorem un3 {i j k : Nat} (h1 : sl[i]? = some .un) (h2 : sl[j]? = some .un) (h3 : sl[k]? = some .un) : ∀ v ∈ [i, j, k], sl[v]? = some .un := fun v hv => by
  rcases List.mem_cons.mp hv with rfl | hv
  · exact h1
  · exact un2 h2 h3 v hv
/-- [te for g in xs if tt]: what the list holds, item by item -/
theorem el_lc {α : Type} (xs : List α) (enc : α → Dt) (p : α → Bool) (f : α → Dt) (fs : α → List Slot → List Slot) (hi : ItS K F sl wi (xs.map enc)) (hz : xs.length ≤ 100000) (hu : ∀ v ∈ vs, sl[v]? = some .un) (hjs : ∀ j ∈ js, j ∈ vs)
    (hg : ∀ x ∈ xs, TgOk K g js (enc x) (fs x)) (ht : ∀ x ∈ xs, EvT K F (fs x sl) tt (p x)) (he : ∀ x ∈ xs, p x = true → EvD K F (fs x sl) te (f x)) :
    EvL K F sl (tLc wi g tt te vs) ((xs.filter p).map f) := fun σ B H s Q q => hi σ B H s _ fun J B1 H1 a1 e1 hJ => fun D hD => by
  obtain ⟨a2, e2⟩ := a1.newO' (o := .lst []) hD
  have no : ∀ (i : Nat) (s : Slot), sl[i]? = some s → s.own = true → σ[i]? ≠ some (some (.ref D)) := a1.notOwn hD
  have b1D : B1 D = none := a1.bh.free hD
  have h0D : F.H0 D = none := a1.h0free hD
  refine ⟨fun i m H' => m = xs.length - i ∧ i ≤ xs.length ∧ ∃ B' acc, SA K F sl σ B' H' ∧ Stp B1 H1 B' H' ∧ H' D = some (.lst acc) ∧ B' D = none ∧ Ds K B' acc (((xs.take i).filter p).map f), ⟨xs.length, by simp, Nat.zero_le _, B1, [], a2, e2, upd_same, b1D, by simpa using Ds.nil⟩, ?_⟩
  rintro i m H' ⟨rfl, hil, B', acc, a3, e3, hacc, bD, dacc⟩
  obtain ⟨it1, it2⟩ := hJ i B' H' e3.e a3.bh
  by_cases hlt : i < xs.length
  · obtain ⟨x, hx⟩ : ∃ x, xs[i]? = some x := ⟨xs[i], by simp [hlt]⟩
    have hmem : x ∈ xs := List.mem_of_getElem? hx
    obtain ⟨go, yl⟩ := it1 (enc x) (by rw [List.getElem?_map, hx]; rfl)
    refine .inr ⟨go, fun H'' => i + 1 ≤ xs.length ∧ ∃ B' acc, SA K F sl σ B' H'' ∧ Stp B1 H1 B' H'' ∧ H'' D = some (.lst acc) ∧ B' D = none ∧ Ds K B' acc (((xs.take (i + 1)).filter p).map f), fun H'' h => ⟨xs.length - (i + 1), by omega, rfl, h.1, h.2⟩, fun v H2 hy => ?_⟩
    obtain ⟨B2, st, b2, dv⟩ := yl v H2 hy
    have a4 : SA K F sl σ B2 H2 := a3.to st b2
    have a5 : SA K F sl (L2.wipe σ vs) B2 H2 := a4.wipe hu
    have nD : H' D ≠ none := by rw [hacc]; exact fun q => nomatch q
    refine hg x hmem F sl _ B2 H2 v _ a5 dv (fun j hj => (List.getElem?_eq_some_iff.mp (hu j (hjs j hj))).1) fun σ' hl ho a6 => ⟨wipe_same hl ho hjs, ?_⟩
    refine ht x hmem σ' B2 H2 a6 _ fun B3 H3 a7 s7 => ?_
    have s37 := st.trans s7
    rw [take_succ' hx, List.filter_append]
    cases hp : p x with
    | true =>
      rw [if_pos rfl]
      refine he x hmem hp σ' B3 H3 a7 _ fun y B4 H4 a8 s8 dy => ?_
      have s38 := s37.trans s8
      have a9 : SA K F sl σ B4 H4 := a3.to s38 a8.bh
      have h4D : H4 D = some (.lst acc) := s38.g _ _ hacc
      have b4D : B4 D = none := s38.n D nD bD
      have hlen : acc.length ≤ 100000 := by
        rw [dacc.len, List.length_map]
        exact Nat.le_trans (List.length_filter_le _ _) (Nat.le_trans (by rw [List.length_take]; omega) hz)
      refine ⟨acc, h4D, Nat.lt_of_le_of_lt hlen (by decide), hlt, B4, acc ++ [y], a9.mutOut b4D h0D no, ?_, upd_same, b4D, ?_⟩
      · have s14 := e3.trans s38
        refine ⟨s14.e, fun a u e => ?_, fun a n b => s14.n a n b⟩
        rw [upd_ne (fun z => by rw [z, hD] at e; cases e)]
        exact s14.g a u e
      · rw [List.filter_cons, if_pos hp, List.filter_nil, List.map_append]
        exact (dacc.up s38.e).app (.cons dy .nil)
    | false =>
      rw [if_neg Bool.false_ne_true]
      refine ⟨hlt, B3, acc, a3.to s37 a7.bh, e3.trans s37, s37.g _ _ hacc, s37.n D nD bD, ?_⟩
      rw [List.filter_cons, if_neg (by rw [hp]; exact Bool.false_ne_true), List.filter_nil, List.append_nil]
      exact dacc.up s37.e
  · have e : i = xs.length := by omega
    subst e
    rw [List.take_length] at dacc
    exact .inl ⟨it2 (by rw [List.length_map]; exact Nat.le_refl _), q D acc B' H' a3 (e1.trans e3) hacc dacc bD (e1.g.free hD)⟩
end

/-! ### statements -/
structure Po where
  nx : List Slot → Prop := fun _ => False
  rt : Dt → List Slot → Prop := fun _ _ => False
  bk : List Slot → Prop := fun _ => False
  ct : List Slot → Prop := fun _ => False
structure Sat (K : PySem.W.Frag) (F : Fr) (B : Hp) (P : Po) (E : Ends) : Prop where
  nx : ∀ s σ B' H', P.nx s → SA K F s σ B' H' → Same B B' → E.nx σ H'
  rt : ∀ d s v σ B' H', P.rt d s → SA K F s σ B' H' → Same B B' → D K B' v d → E.rt v H'
  bk : ∀ s σ B' H', P.bk s → SA K F s σ B' H' → Same B B' → E.bk σ H'
  ct : ∀ s σ B' H', P.ct s → SA K F s σ B' H' → Same B B' → E.ct σ H'
theorem Sat.up {K : PySem.W.Frag} {F : Fr} {B B' : Hp} {P : Po} {E : Ends} (h : Sat K F B P E) (e : Same B B') : Sat K F B' P E :=
  ⟨fun s σ B' H' p a z => h.nx s σ B' H' p a (e.trans z), fun d s v σ B' H' p a z => h.rt d s v σ B' H' p a (e.trans z), fun s σ B' H' p a z => h.bk s σ B' H' p a (e.trans z), fun s σ B' H' p a z => h.ct s σ B' H' p a (e.trans z)⟩
theorem ix_lt {sl : List Slot} {i : Nat} (h : ∃ s, sl[i]? = some s) : i < sl.length := (List.getElem?_eq_some_iff.mp h.choose_spec).1
theorem wk_nil : Wk [] [] := Wk.refl []
theorem wk_cons {a b : Slot} {as bs : List Slot} (h : b = .un ∨ a = b) (w : Wk as bs) : Wk (a :: as) (b :: bs) := ⟨by simp [w.1], fun i s hs => by
  cases i with
  | zero =>
    have : b = s := Option.some.inj hs
    subst this
    rcases h with h | h
    · exact .inl h
    · exact .inr (by rw [← h]; rfl)
  | succ i => exact w.2 i s hs⟩
theorem wk_eq {a : Slot} {as bs : List Slot} (w : Wk as bs) : Wk (a :: as) (a :: bs) := wk_cons (.inr rfl) w
theorem wk_un {a : Slot} {as bs : List Slot} (w : Wk as bs) : Wk (a :: as) (.un :: bs) := wk_cons (.inl rfl) w
theorem wk_ow {xs ys : List Dt} {as bs : List Slot} (e : xs = ys) (w : Wk as bs) : Wk (.ow xs :: as) (.ow ys :: bs) := wk_cons (.inr (by rw [e])) w
theorem wk_fz {x y : Dt} {as bs : List Slot} (e : x = y) (w : Wk as bs) : Wk (.fz x :: as) (.fz y :: bs) := wk_cons (.inr (by rw [e])) w
theorem wk_od {xs ys : List (Str × Dt)} {as bs : List Slot} (e : xs = ys) (w : Wk as bs) : Wk (.od xs :: as) (.od ys :: bs) := wk_cons (.inr (by rw [e])) w
def Rn (K : PySem.W.Frag) (F : Fr) (sl : List Slot) (ts : TS) (P : Po) : Prop := ∀ σ B H E, SA K F sl σ B H → Sat K F B P E → ts E σ H
section
variable {K : PySem.W.Frag} {F : Fr} {sl tl : List Slot} {ts tu : TS} {P : Po} {te ta tb : TE} {d : Dt} {ds : List Dt}
theorem rn_seq (h : Rn K F sl ts { P with nx := fun s => Rn K F s tu P }) : Rn K F sl (tSeq ts tu) P := fun σ B H E a t =>
  h σ B H _ a ⟨fun s σ' B' H' r a' e => r σ' B' H' E a' (t.up e), t.rt, t.bk, t.ct⟩
theorem rn_weak (w : Wk sl tl) (h : Rn K F tl ts P) : Rn K F sl ts P := fun σ B H E a t => h σ B H E (a.weak w) t
theorem rn_next (h : P.nx sl) : Rn K F sl tNext P := fun σ B H E a t => t.nx sl σ B H h a (Same.refl B)
theorem rn_asg {i : Nat} (h : EvD K F sl te d) (k : P.nx (sl.set i (.fz d))) (hi : ∃ s, sl[i]? = some s := by exact ⟨_, rfl⟩) : Rn K F sl (tAsg te (gName i)) P := fun σ B H E a t => h σ B H a _ fun v B1 H1 a1 e1 dv =>
  t.nx _ _ B1 H1 k (a1.set (ix_lt hi) dv) e1.e
theorem rn_asgP {i : Nat} {R : Dt → Prop} (h : EvP K F sl te R) (k : ∀ d, R d → P.nx (sl.set i (.fz d))) (hi : ∃ s, sl[i]? = some s := by exact ⟨_, rfl⟩) : Rn K F sl (tAsg te (gName i)) P := fun σ B H E a t => h σ B H a _ fun d v B1 H1 r a1 e1 dv =>
  t.nx _ _ B1 H1 (k d r) (a1.set (ix_lt hi) dv) e1.e
theorem rn_asgL {i : Nat} (h : EvL K F sl te ds) (k : P.nx (sl.set i (.ow ds))) (hi : ∃ s, sl[i]? = some s := by exact ⟨_, rfl⟩) : Rn K F sl (tAsg te (gName i)) P := fun σ B H E a t => h σ B H a _ fun l xs B1 H1 a1 e1 hl x1 bl hl0 =>
  t.nx _ _ B1 H1 k (a1.setO (ix_lt hi) ⟨l, xs, rfl, hl, x1⟩ bl (.inl (a.h0free hl0)) (a.notOwn hl0)) e1.e
theorem rn_asgK {i : Nat} {kvs : List (Str × Dt)} (h : EvK K F sl te kvs) (k : P.nx (sl.set i (.od kvs))) (hi : ∃ s, sl[i]? = some s := by exact ⟨_, rfl⟩) : Rn K F sl (tAsg te (gName i)) P := fun σ B H E a t => h σ B H a _ fun l xs B1 H1 a1 e1 hl x1 bl hl0 =>
  t.nx _ _ B1 H1 k (a1.setO (ix_lt hi) ⟨l, xs, rfl, hl, x1⟩ bl (.inl (a.h0free hl0)) (a.notOwn hl0)) e1.e
/-- a, b, c = e -/
theorem rn_asgT {g : TG} {js : List Nat} {f : List Slot → List Slot} (h : EvD K F sl te d) (tg : TgOk K g js d f) (hj : ∀ j ∈ js, j < sl.length) (k : P.nx (f sl)) : Rn K F sl (tAsg te g) P := fun σ B H E a t => h σ B H a _ fun v B1 H1 a1 e1 dv =>
  tg F sl σ B1 H1 v _ a1 dv hj fun σ' _ _ a2 => t.nx _ _ B1 H1 k a2 e1.e
theorem rn_ret (h : EvD K F sl te d) (k : P.rt d sl) : Rn K F sl (tRet te) P := fun σ B H E a t => h σ B H a _ fun v B1 H1 a1 e1 dv => t.rt d sl v σ B1 H1 k a1 e1.e dv
theorem rn_retP {R : Dt → Prop} (h : EvP K F sl te R) (k : ∀ d, R d → P.rt d sl) : Rn K F sl (tRet te) P := fun σ B H E a t => h σ B H a _ fun d v B1 H1 r a1 e1 dv => t.rt d sl v σ B1 H1 (k d r) a1 e1.e dv
theorem rn_retN (k : P.rt .non sl) : Rn K F sl tRetN P := fun σ B H E a t => t.rt .non sl .non σ B H k a (Same.refl B) .non
theorem rn_drop (h : EvD K F sl te d) (k : P.nx sl) : Rn K F sl (tDrop te) P := fun σ B H E a t => h σ B H a _ fun v B1 H1 a1 e1 dv => t.nx _ _ B1 H1 k a1 e1.e
theorem rn_dropP {R : Dt → Prop} (h : EvP K F sl te R) (k : P.nx sl) : Rn K F sl (tDrop te) P := fun σ B H E a t => h σ B H a _ fun d v B1 H1 r a1 e1 dv => t.nx _ _ B1 H1 k a1 e1.e
theorem rn_if {tt : TT} {b : Bool} (h : EvT K F sl tt b) (h1 : b = true → Rn K F sl ts P) (h2 : b = false → Rn K F sl tu P) : Rn K F sl (tIfS tt ts tu) P := fun σ B H E a t => h σ B H a _ fun B1 H1 a1 e1 => by
  cases b with
  | true => rw [if_pos rfl]; exact h1 rfl σ B1 H1 E a1 (t.up e1.e)
  | false => rw [if_neg Bool.false_ne_true]; exact h2 rfl σ B1 H1 E a1 (t.up e1.e)
theorem rn_freeze {i : Nat} (hW : ∀ l, ¬ F.W l) (hs : sl[i]? = some (.ow ds)) (h : Rn K F (sl.set i (.fz (.lst ds))) ts P) : Rn K F sl ts P := fun σ B H E a t => by
  obtain ⟨l, e, _, w, _⟩ := a.addr hs rfl
  obtain ⟨B', a', e', _⟩ := a.freeze hs e (w.resolve_right (hW l))
  exact h σ B' H E a' (t.up e')
theorem rn_freezeD {i : Nat} {kvs : List (Str × Dt)} (hW : ∀ l, ¬ F.W l) (hs : sl[i]? = some (.od kvs)) (h : Rn K F (sl.set i (.fz (.dct kvs))) ts P) : Rn K F sl ts P := fun σ B H E a t => by
  obtain ⟨l, e, _, w, _⟩ := a.addr hs rfl
  obtain ⟨B', a', e', _⟩ := a.freezeD hs e (w.resolve_right (hW l))
  exact h σ B' H E a' (t.up e')
/-- x.append(e), x owned -/
theorem rn_app {i : Nat} (hs : sl[i]? = some (.ow ds)) (h : EvD K F sl te d) (hz : ds.length < 100000) (k : P.nx (sl.set i (.ow (ds ++ [d])))) : Rn K F sl (tDrop (tBM K "list" rAppend (tVar i) (tCons te tNil))) P := fun σ B H E a t => by
  obtain ⟨o, eo, l, xs, rfl, hl, hx⟩ := a.ok i _ hs
  refine ⟨.ref l, eo, .inl ⟨rfl, xs, SqL.of hl⟩, h σ B H a _ fun v B1 H1 a1 e1 dv => ⟨l, xs, v, rfl, rfl, e1.g _ _ hl, by rw [hx.len]; exact Nat.lt_trans hz (by decide), ?_⟩⟩
  exact t.nx _ _ B1 _ k (a1.mut hs rfl eo ⟨l, xs ++ [v], rfl, upd_same, (hx.up e1.e).app (.cons dv .nil)⟩ rfl) e1.e
/-- x.extend(ys), x owned -/
theorem rn_ext {i : Nat} {es : List Dt} (hs : sl[i]? = some (.ow ds)) (h : EvRd K F sl te es) (hz : ds.length + es.length ≤ 100000) (k : P.nx (sl.set i (.ow (ds ++ es)))) : Rn K F sl (tDrop (tBM K "list" rExtend (tVar i) (tCons te tNil))) P := fun σ B H E a t => by
  obtain ⟨o, eo, l, xs, rfl, hl, hx⟩ := a.ok i _ hs
  refine ⟨.ref l, eo, .inl ⟨rfl, xs, SqL.of hl⟩, h σ B H a _ fun m ys B1 H1 a1 e1 hm dv => ⟨l, m, xs, ys, rfl, rfl, e1.g _ _ hl, hm, by rw [hx.len, dv.len]; exact Nat.le_trans hz (by decide), ?_⟩⟩
  exact t.nx _ _ B1 _ k (a1.mut hs rfl eo ⟨l, xs ++ ys, rfl, upd_same, (hx.up e1.e).app dv⟩ rfl) e1.e
/-- x[n] = e, x an owned list -/
theorem rn_setL {i : Nat} {n : Int} {j : Nat} (hs : sl[i]? = some (.ow ds)) (h : EvD K F sl te d) (hn : EvD K F sl tb (.int n)) (hj : ixN ds.length n = some j) (k : P.nx (sl.set i (.ow (ds.set j d)))) : Rn K F sl (tAsg te (gSub (tVar i) tb rSetL)) P := fun σ B H E a t => by
  obtain ⟨o, eo, l, xs, rfl, hl, hx⟩ := a.ok i _ hs
  refine h σ B H a _ fun v B1 H1 a1 e1 dv => ⟨.ref l, eo, hn σ B1 H1 a1 _ fun w B2 H2 a2 e2 dn => ?_⟩
  cases dn
  have e12 := e1.trans e2
  refine ⟨l, xs, n, j, rfl, rfl, e12.g _ _ hl, by rw [hx.len]; exact hj, ?_⟩
  exact t.nx _ _ B2 _ k (a2.mut hs rfl eo ⟨l, xs.set j v, rfl, upd_same, (hx.up e12.e).set (dv.up e2.e) j⟩ rfl) e12.e
/-- x[k] = e, x an owned dict -/
theorem rn_dput {i : Nat} {k : Str} {kvs : List (Str × Dt)} (hs : sl[i]? = some (.od kvs)) (h : EvD K F sl te d) (hk : EvD K F sl tb (.str k)) (hz : kvs.length < 100000) (q : P.nx (sl.set i (.od (dput kvs k d)))) : Rn K F sl (sDPut (tVar i) tb te) P := fun σ B H E a t => by
  obtain ⟨o, eo, l, xs, rfl, hl, hx⟩ := a.ok i _ hs
  refine h σ B H a _ fun v B1 H1 a1 e1 dv => ⟨.ref l, eo, hk σ B1 H1 a1 _ fun w B2 H2 a2 e2 dn => ?_⟩
  cases dn
  have e12 := e1.trans e2
  refine ⟨l, _, rfl, DPut.k (k := Sum.inr k) (e12.g _ _ hl) (by rw [hx.len]; exact Nat.lt_trans hz (by decide)), ?_⟩
  exact t.nx _ _ B2 _ q (a2.mut hs rfl eo ⟨l, _, rfl, upd_same, (hx.up e12.e).put k (dv.up e2.e)⟩ rfl) e12.e
/-- the general for -/
theorem rn_for {wi : TI} {g : TG} (hi : ItS K F sl wi ds) (inv : Nat → List Slot → Prop) (h0 : inv 0 sl)
    (hs : ∀ i d s, ds[i]? = some d → inv i s → ∃ tl js f, Wk s tl ∧ TgOk K g js d f ∧ (∀ j ∈ js, j < tl.length) ∧ Rn K F (f tl) ts { P with nx := inv (i + 1), ct := inv (i + 1), bk := P.nx }) (hd : ∀ s, inv ds.length s → ∃ tl, Wk s tl ∧ P.nx tl) :
    Rn K F sl (tFor wi g ts) P := fun σ B H E a t => hi σ B H a _ fun J B1 H1 a1 e1 hJ => by
  refine ⟨fun i m σ' H' => m = ds.length - i ∧ i ≤ ds.length ∧ ∃ s B', inv i s ∧ SA K F s σ' B' H' ∧ Same B1 B', ⟨ds.length, by simp, Nat.zero_le _, sl, B1, h0, a1, Same.refl B1⟩, ?_⟩
  rintro i m σ' H' ⟨rfl, hil, s, B', hv, a2, e2⟩
  obtain ⟨it1, it2⟩ := hJ i B' H' e2 a2.bh
  by_cases hlt : i < ds.length
  · obtain ⟨d, hdd⟩ : ∃ d, ds[i]? = some d := ⟨ds[i], by simp [hlt]⟩
    obtain ⟨go, yl⟩ := it1 d hdd
    refine .inr ⟨go, fun σ'' H'' => i + 1 ≤ ds.length ∧ ∃ s B', inv (i + 1) s ∧ SA K F s σ'' B' H'' ∧ Same B1 B', fun σ'' H'' h => ⟨ds.length - (i + 1), by omega, rfl, h.1, h.2⟩, fun v H2 hy => ?_⟩
    obtain ⟨B2, st, b2, dv⟩ := yl v H2 hy
    obtain ⟨tl, js, f, w, tg, hj, body⟩ := hs i d s hdd hv
    refine tg F tl σ' B2 H2 v _ ((a2.to st b2).weak w) dv hj fun σ3 _ _ a3 => ?_
    have e3 : Same B1 B2 := e2.trans st.e
    refine body σ3 B2 H2 _ a3 ⟨fun s' σ4 B4 H4 p a4 z => ⟨hlt, s', B4, p, a4, e3.trans z⟩, fun d' s' v' σ4 B4 H4 p a4 z dv' => t.rt d' s' v' σ4 B4 H4 p a4 ((e1.e.trans e3).trans z) dv', fun s' σ4 B4 H4 p a4 z => t.nx s' σ4 B4 H4 p a4 ((e1.e.trans e3).trans z), fun s' σ4 B4 H4 p a4 z => ⟨hlt, s', B4, p, a4, e3.trans z⟩⟩
  · have e : i = ds.length := by omega
    subst e
    obtain ⟨tl, w, p⟩ := hd s hv
    exact .inl ⟨it2 (Nat.le_refl _), t.nx tl σ' B' H' p (a2.weak w) (e1.e.trans e2)⟩
/-- a for whose turns fold a state: S the slots by the state -/
theorem rn_fold {α β : Type} {wi : TI} {g : TG} (xs : List α) (enc : α → Dt) (S : β → List Slot) (step : β → α → β) (b0 : β) (fs : α → List Slot → List Slot) (js : List Nat) (hi : ItS K F sl wi (xs.map enc)) (h0 : Wk sl (S b0))
    (hg : ∀ x ∈ xs, TgOk K g js (enc x) (fs x)) (n : Nat) (hn : ∀ b, (S b).length = n) (hj : ∀ j ∈ js, j < n)
    (hs : ∀ pre x post b, xs = pre ++ x :: post → b = pre.foldl step b0 → Rn K F (fs x (S b)) ts { P with nx := fun s => Wk s (S (step b x)), ct := fun s => Wk s (S (step b x)), bk := P.nx }) (hd : P.nx (S (xs.foldl step b0))) :
    Rn K F sl (tFor wi g ts) P := by
  refine rn_for hi (fun i s => Wk s (S ((xs.take i).foldl step b0))) h0 (fun i d s hdd hv => ?_) (fun s hv => ?_)
  · rw [List.getElem?_map] at hdd
    cases hx : xs[i]? with
    | none => rw [hx] at hdd; cases hdd
    | some x =>
      rw [hx] at hdd
      have ed : d = enc x := (Option.some.inj hdd).symm
      subst ed
      have hm := List.mem_of_getElem? hx
      have hlt : i < xs.length := (List.getElem?_eq_some_iff.mp hx).1
      have hsp : xs = xs.take i ++ x :: xs.drop (i + 1) := by
        have h1 := (List.take_append_drop i xs).symm
        rw [List.drop_eq_getElem_cons hlt] at h1
        rw [List.getElem?_eq_getElem hlt] at hx
        cases hx
        exact h1
      have r := hs _ x _ _ hsp rfl
      refine ⟨S ((xs.take i).foldl step b0), js, fs x, hv, hg x hm, fun j h => by rw [hn]; exact hj j h, ?_⟩
      have e : (xs.take (i + 1)).foldl step b0 = step ((xs.take i).foldl step b0) x := by rw [take_succ' hx, List.foldl_append]; rfl
      rw [e]
      exact r
  · rw [List.length_map, List.take_length] at hv
    exact ⟨_, hv, hd⟩
/-- a for that seeks: behind a turn that goes on, C x holds -/
theorem rn_seek {α : Type} {wi : TI} {g : TG} (xs : List α) (enc : α → Dt) (S : List Slot) (C : α → Prop) (fs : α → List Slot → List Slot) (js : List Nat) (hi : ItS K F sl wi (xs.map enc)) (h0 : Wk sl S)
    (hg : ∀ x ∈ xs, TgOk K g js (enc x) (fs x)) (n : Nat) (hn : S.length = n) (hj : ∀ j ∈ js, j < n)
    (hs : ∀ pre x post, xs = pre ++ x :: post → (∀ y ∈ pre, C y) → Rn K F (fs x S) ts { P with nx := fun s => Wk s S ∧ C x, ct := fun s => Wk s S ∧ C x, bk := P.nx }) (hd : (∀ y ∈ xs, C y) → P.nx S) :
    Rn K F sl (tFor wi g ts) P := by
  refine rn_for hi (fun i s => Wk s S ∧ ∀ y ∈ xs.take i, C y) ⟨h0, fun y hy => by simp at hy⟩ (fun i d s hdd hv => ?_) (fun s hv => ?_)
  · rw [List.getElem?_map] at hdd
    cases hx : xs[i]? with
    | none => rw [hx] at hdd; cases hdd
    | some x =>
      rw [hx] at hdd
      have ed : d = enc x := (Option.some.inj hdd).symm
      subst ed
      have hm := List.mem_of_getElem? hx
      have hlt : i < xs.length := (List.getElem?_eq_some_iff.mp hx).1
      have hsp : xs = xs.take i ++ x :: xs.drop (i + 1) := by
        have h1 := (List.take_append_drop i xs).symm
        rw [List.drop_eq_getElem_cons hlt] at h1
        rw [List.getElem?_eq_getElem hlt] at hx
        cases hx
        exact h1
      have r := hs _ x _ hsp hv.2
      refine ⟨S, js, fs x, hv.1, hg x hm, fun j h => by rw [hn]; exact hj j h, ?_⟩
      have nxt : ∀ s, (Wk s S ∧ C x) → (Wk s S ∧ ∀ y ∈ xs.take (i + 1), C y) := fun s h => ⟨h.1, fun y hy => by
        rw [take_succ' hx] at hy
        rcases List.mem_append.mp hy with z | z
        · exact hv.2 y z
        · have : y = x := by simpa using z
          rw [this]; exact h.2⟩
      intro σ B H E a t
      exact r σ B H E a ⟨fun s σ B' H' p a z => t.nx s σ B' H' (nxt s p) a z, t.rt, t.bk, fun s σ B' H' p a z => t.ct s σ B' H' (nxt s p) a z⟩
  · rw [List.length_map, List.take_length] at hv
    exact ⟨S, hv.1, hd hv.2⟩
theorem rn_while {tt : TT} (inv : Nat → List Slot → Prop) (m0 : Nat) (h0 : inv m0 sl) (hs : ∀ m s, inv m s → ∃ b, EvT K F s tt b ∧ (b = true → Rn K F s ts { P with nx := fun s' => ∃ m', m' < m ∧ inv m' s', ct := fun s' => ∃ m', m' < m ∧ inv m' s', bk := P.nx }) ∧ (b = false → P.nx s)) :
    Rn K F sl (tWhile tt ts) P := fun σ B H E a t => by
  refine ⟨fun m σ' H' => ∃ s B', inv m s ∧ SA K F s σ' B' H' ∧ Same B B', ⟨m0, sl, B, h0, a, Same.refl B⟩, ?_⟩
  rintro m σ' H' ⟨s, B', hv, a1, e1⟩
  obtain ⟨b, ht, h1, h2⟩ := hs m s hv
  refine ht σ' B' H' a1 _ fun B2 H2 a2 e2 => ?_
  cases b with
  | true =>
    rw [if_pos rfl]
    have e3 := e1.trans e2.e
    refine ⟨fun σ3 H3 => ∃ m', m' < m ∧ ∃ s B', inv m' s ∧ SA K F s σ3 B' H3 ∧ Same B B', fun σ3 H3 h => h, ?_⟩
    exact h1 rfl σ' B2 H2 _ a2 ⟨fun s' σ4 B4 H4 p a4 z => let ⟨m', lt, hv'⟩ := p; ⟨m', lt, s', B4, hv', a4, e3.trans z⟩, fun d' s' v' σ4 B4 H4 p a4 z dv' => t.rt d' s' v' σ4 B4 H4 p a4 (e3.trans z) dv', fun s' σ4 B4 H4 p a4 z => t.nx s' σ4 B4 H4 p a4 (e3.trans z), fun s' σ4 B4 H4 p a4 z => let ⟨m', lt, hv'⟩ := p; ⟨m', lt, s', B4, hv', a4, e3.trans z⟩⟩
  | false =>
    rw [if_neg Bool.false_ne_true]
    exact t.nx s σ' B2 H2 (h2 rfl) a2 (e1.trans e2.e)
end

/-! ### promises -/
/-- a def of data: from the arguments args i, for which pre holds, it hands back some d with post i d -/
def spI (K : PySem.W.Frag) (n : Nat) {ι : Type} (args : ι → List Dt) (pre : ι → Prop) (post : ι → Dt → Prop) : Sp := fun vs H Q _ => ∃ B i, Same B H ∧ Ds K B vs (args i) ∧ (args i).length = n ∧ pre i ∧
  ∀ v d B' H', Stp B H B' H' → Same B' H' → D K B' v d → post i d → Q v H'
theorem spI_len {K : PySem.W.Frag} {n : Nat} {ι : Type} {args : ι → List Dt} {pre : ι → Prop} {post : ι → Dt → Prop} {vs : List V} {H : Hp} {Q : VK} {E : XK} (h : spI K n args pre post vs H Q E) : vs.length = n := by
  obtain ⟨B, i, _, hd, hn, _⟩ := h
  rw [hd.len]; exact hn
abbrev F0 (B H : Hp) : Fr := ⟨B, H, fun _ => False⟩
theorem SA.init {K : PySem.W.Frag} {B H : Hp} {vs : List V} {ds : List Dt} (e : Same B H) (h : Ds K B vs ds) (m : Nat) : SA K (F0 B H) (ds.map .fz ++ List.replicate m .un) (vs.map some ++ List.replicate m none) B H := by
  have noown : ∀ (i : Nat) (s : Slot), (ds.map Slot.fz ++ List.replicate m Slot.un)[i]? = some s → s.own = true → False := fun i s hs ho => by
    have hm := List.mem_of_getElem? hs
    rcases List.mem_append.mp hm with z | z
    · obtain ⟨d, _, rfl⟩ := List.mem_map.mp z; cases ho
    · rw [(List.mem_replicate.mp z).2] at ho; cases ho
  refine ⟨by simp [h.len], fun i s hs => ?_, fun i s l hs ho => (noown i s hs ho).elim, fun i j s t l h1 _ o1 => (noown i s h1 o1).elim, Same.refl B, e, fun a _ b => b, fun a o q _ => q, fun a q => q⟩
  by_cases hi : i < ds.length
  · rw [List.getElem?_append_left (by simpa using hi), List.getElem?_map] at hs
    rw [List.getElem?_append_left (by rw [List.length_map, h.len]; exact hi), List.getElem?_map]
    have hd : ds[i]? = some ds[i] := List.getElem?_eq_getElem hi
    rw [hd] at hs
    obtain ⟨v, hv, dv⟩ := h.get' hd
    cases hs
    rw [hv]
    exact ⟨some v, rfl, v, rfl, dv⟩
  · have hl : i < ds.length + m := by
      have := (List.getElem?_eq_some_iff.mp hs).1
      simpa using this
    rw [List.getElem?_append_right (by simpa using Nat.le_of_not_lt hi), List.getElem?_replicate] at hs
    rw [List.getElem?_append_right (by rw [List.length_map, h.len]; exact Nat.le_of_not_lt hi), List.getElem?_replicate, List.length_map, h.len, if_pos (by omega)]
    refine ⟨none, rfl, ?_⟩
    split at hs
    · cases hs; trivial
    · cases hs
theorem body_ok {K : PySem.W.Frag} {n : Nat} {ι : Type} {args : ι → List Dt} {pre : ι → Prop} {post : ι → Dt → Prop} {N : List Str} {ts : TS} {vs : List V} {H : Hp} {Q : VK} {E : XK} (h : spI K n args pre post vs H Q E)
    (hb : ∀ B H i, (args i).length = n → pre i → Rn K (F0 B H) ((args i).map .fz ++ List.replicate (N.length - n) .un) ts { nx := fun _ => post i .non, rt := fun d _ => post i d }) : ts { nx := fun _ H' => Q .non H', rt := Q } (L2.start N vs) H := by
  obtain ⟨B, i, e, hd, hn, hp, k⟩ := h
  have a : SA K (F0 B H) ((args i).map .fz ++ List.replicate (N.length - n) .un) (L2.start N vs) B H := by
    have := SA.init e hd (N.length - n)
    unfold L2.start
    rw [hd.len, hn]; exact this
  have stp : ∀ {s : List Slot} {σ : L2.St} {B' H' : Hp}, SA K (F0 B H) s σ B' H' → Stp B H B' H' := fun {s σ B' H'} a => ⟨a.b0, fun x o q => a.kp x o q (fun z => z), fun x h0 b0 => a.nn x h0 b0⟩
  exact hb B H i hn hp (L2.start N vs) B H _ a ⟨fun s σ B' H' p a z => k .non .non B' H' (stp a) a.bh .non p, fun d s v σ B' H' p a z dv => k v d B' H' (stp a) a.bh dv p, fun s σ B' H' p a z => p, fun s σ B' H' p a z => p⟩
section
variable {K : PySem.W.Frag} {F : Fr} {sl : List Slot} {tas : TA} {ds : List Dt} {d : Dt} {n : Nat} {ι : Type} {args : ι → List Dt} {pre : ι → Prop} {post : ι → Dt → Prop} {E : XK}
theorem ev_callP (i : ι) (ha : EvAs K F sl tas (args i)) (hp : pre i) (hn : (args i).length = n := by rfl) : EvP K F sl (tCall (spI K n args pre post) [] E tas) (post i) := fun σ B H s Q q => ha σ B H s _ fun vs B1 H1 a1 e1 x1 => by
  refine ⟨B1, i, a1.bh, by rw [List.append_nil]; exact x1, hn, hp, fun v d B' H' st b' dv po => ?_⟩
  exact q d v B' H' po (a1.to st b') (e1.trans st) dv
theorem ev_call {f : ι → Dt} (i : ι) (ha : EvAs K F sl tas (args i)) (hp : pre i) (hn : (args i).length = n := by rfl) : EvD K F sl (tCall (spI K n args pre (fun i d => d = f i)) [] E tas) (f i) := (ev_callP i ha hp hn).det fun _ h => h
end
end FZ
set_option maxHeartbeats 2000000
namespace FZ
open PySem PySem.Spec PyProof.Rows L2
theorem EvL.is {K : PySem.W.Frag} {F : Fr} {sl : List Slot} {te : TE} {ds es : List Dt} (h : EvL K F sl te ds) (e : ds = es) : EvL K F sl te es := e ▸ h
theorem EvRd.is {K : PySem.W.Frag} {F : Fr} {sl : List Slot} {te : TE} {ds es : List Dt} (h : EvRd K F sl te ds) (e : ds = es) : EvRd K F sl te es := e ▸ h
section
variable {K : PySem.W.Frag} {F : Fr} {sl : List Slot} {wi : TI} {g : TG} {te : TE} {vs js : List Nat}
/-- [te for g in xs] -/
theorem el_lc0 {α : Type} (xs : List α) (enc : α → Dt) (f : α → Dt) (fs : α → List Slot → List Slot) (hi : ItS K F sl wi (xs.map enc)) (hz : xs.length ≤ 100000) (hu : ∀ v ∈ vs, sl[v]? = some .un) (hjs : ∀ j ∈ js, j ∈ vs)
    (hg : ∀ x ∈ xs, TgOk K g js (enc x) (fs x)) (he : ∀ x ∈ xs, EvD K F (fs x sl) te (f x)) : EvL K F sl (tLc wi g tYes te vs) (xs.map f) :=
  (el_lc xs enc (fun _ => true) f fs hi hz hu hjs hg (fun _ _ => et_yes) (fun x hx _ => he x hx)).is (by rw [List.filter_eq_self.mpr (fun _ _ => rfl)])
end
/-! ### rules with K told -/
section
variable {X : Cx} (K : PySem.W.Frag)
def rLenK : List V → Hp → VK → Prop := fun xs H Q => ∃ p ys, xs = [.ref p] ∧ (SqL K H p ys ∨ SqT K H p ys) ∧ Q (.int (List.length ys : Nat)) H
def rTupK : List V → Hp → VK → Prop := fun xs H Q => ∃ p ys, xs = [.ref p] ∧ ((SqL K H p ys ∧ ∀ l, H l = none → Q (.ref l) (upd H l (.tup ys))) ∨ (SqT K H p ys ∧ Q (.ref p) H))
def rListK : List V → Hp → VK → Prop := fun xs H Q => ∃ p ys, xs = [.ref p] ∧ (SqL K H p ys ∨ SqT K H p ys) ∧ ∀ l, H l = none → Q (.ref l) (upd H l (.lst ys))
theorem ixT (h : X.K = K) : IxR X (rIxT K) := by subst h; exact ix_tup
theorem ixL (h : X.K = K) : IxR X (rIxL K) := by subst h; exact ix_list
theorem slT (h : X.K = K) : SlR X (rSlA K) := by subst h; exact sl_tupA
theorem slL (h : X.K = K) : SlR X (rSlL K) := by subst h; exact sl_list
theorem inS (h : X.K = K) : OpR X (compareOp .In) (rIn K false) := by subst h; exact op_in_seq
theorem niS (h : X.K = K) : OpR X (compareOp .NotIn) (rIn K true) := by subst h; exact op_notIn_seq
theorem catA (h : X.K = K) : OpR X (binaryOp .Add) (rCatA K) := by subst h; exact op_catA
theorem eqDK (h : X.K = K) (hu : X.A.units + 64 < cLine) : OpR X (compareOp .Eq) (rEqD K) := by subst h; exact op_eqD hu
theorem neDK (h : X.K = K) (hu : X.A.units + 64 < cLine) : OpR X (compareOp .NotEq) (rNeD K) := by subst h; exact op_neD hu
theorem ltTK (h : X.K = K) (hu : X.A.units < cLine) : OpR X (compareOp .Lt) (rLtT K) := by subst h; exact op_ltT hu
theorem anyK (h : X.K = K) (hc : X.calm = true) : CallR X (.builtin "any") (rAny K) := by subst h; exact cr_any hc
theorem allK (h : X.K = K) (hc : X.calm = true) : CallR X (.builtin "all") (rAll K) := by subst h; exact cr_all hc
theorem lenK (h : X.K = K) : CallR X (.builtin "len") (rLenK K) := by subst h; exact call_len_seq
theorem tupK (h : X.K = K) : CallR X (.type "tuple") (rTupK K) := by subst h; exact call_tuple_of
theorem listK (h : X.K = K) : CallR X (.type "list") (rListK K) := by subst h; exact call_list_of
theorem indexK (h : X.K = K) : MtR X "list.index" (rIndex K) := by subst h; exact mt_index
theorem piL (h : X.K = K) {tg l : Expr} {tl : TE} (hl : PE X l tl) : PI X tg l (iList K tl) := by subst h; exact pi_list hl
theorem piT (h : X.K = K) {tg l : Expr} {tl : TE} (hl : PE X l tl) : PI X tg l (iTup K tl) := by subst h; exact pi_tup hl
theorem pgT (h : X.K = K) {es : List Expr} {k : Nat} {t : TGs} {n : Nat} {pos : Pos} (hc : X.calm = true) (hh : PGs X es t)
    (hn : (assignEach es X.env).length = n := by rfl) (hst : (assignEach es X.env).findIdx? (·.1) = none := by rfl) : PG X (.Tuple es k pos) (gTup K n t) := by subst h; exact pg_tup hc hh hn hst
theorem piEn (h : X.K = K) {e : Expr} {ta : TA} {p pos tpos : Pos} {elts : List Expr} {kk : Nat} (hg : Gl X "enumerate") (hm : X.mg "enumerate" = none) (ha : PA X [e] ta) (hs : starEach [e] X.env = [(false, eval e X.env)] := by rfl) :
    PI X (.Tuple elts kk tpos) (.Call (.Name "enumerate" p) [e] [] pos) (iEnum K ta) := by subst h; exact pi_enum hg hm ha hs
theorem piZip (h : X.K = K) {e e2 : Expr} {ta : TA} {p pos tpos : Pos} {elts : List Expr} {kk : Nat} (hg : Gl X "zip") (hm : X.mg "zip" = none) (ha : PA X [e, e2] ta)
    (hs : starEach [e, e2] X.env = (false, eval e X.env) :: starEach [e2] X.env := by rfl) (hpl : (backTo pos (starEach [e2] X.env)).any (·.1) = false := by rfl) :
    PI X (.Tuple elts kk tpos) (.Call (.Name "zip" p) [e, e2] [] pos) (RZ.iZipA K ta) := by subst h; exact RZ.pi_zipA hg hm ha hs hpl
theorem pbm (h : X.K = K) {o e : Expr} {es : List Expr} {to : TE} {t : TA} {name : Str} {apos cpos : Pos} {T id : String} {r : V → List V → Hp → VK → Prop} (pa : PlainAttrs T) (slot : PySem.Slot T name id) (hty : typeOf (.builtin id) = pure (.type "method_descriptor")) (hm : MtR X id r) (ho : PE X o to) (ha : PA X (e :: es) t)
    (hbase : attributeBase o name X.env (eval o X.env) = eval o X.env := by rfl)
    (hfew : ((backTo cpos (starEach (e :: es) X.env)).all (fun x => !x.1) && (backToKw cpos (keywordEach [] X.env)).all (fun x => x.1.isSome)
      && decide ((e :: es).length + ([] : List Keyword).length + (if ([] : List Keyword).isEmpty then 0 else 1) < 30)) = true := by rfl)
    (hline : (apos.endLine == cpos.line) = true := by rfl) (hs : starEach (e :: es) X.env = (false, eval e X.env) :: starEach es X.env := by rfl) (hplain : (backTo cpos (starEach es X.env)).any (·.1) = false := by rfl) :
    PE X (.Call (.Attribute o name apos) (e :: es) [] cpos) (tBM K T r to t) := by subst h; exact pe_bm pa slot hty hm ho ha hbase hfew hline hs hplain
theorem blkB {N : List Str} {sc scope : Scope} {own : List (Str × Nat)} (h : blkC N sc scope own = true) : BlkOk N sc scope own := blkOk_by h
end
section
variable {K : PySem.W.Frag} {F : Fr} {sl : List Slot} {ta tb te : TE} {d : Dt} {ds es : List Dt}
theorem ev_lenL (ha : EvRd K F sl ta ds) : EvD K F sl (tCB (rLenK K) (tCons ta tNil)) (.int (ds.length : Int)) :=
  ev_len (fun l xs H Q hl q => ⟨l, xs, rfl, .inl (SqL.of hl), q⟩) ha
theorem ev_tupL (ha : EvRd K F sl ta ds) : EvD K F sl (tCB (rTupK K) (tCons ta tNil)) (.tup ds) := fun σ B H s Q q =>
  ha σ B H s _ fun l xs B1 H1 a1 e1 hl x1 => ⟨l, xs, rfl, .inl ⟨SqL.of hl, fun p hp => by
    obtain ⟨a2, e2⟩ := a1.new' (o := .tup xs) hp
    exact q _ _ _ a2 (e1.trans e2) (.tup (SqT.of upd_same) (x1.up e2.e))⟩⟩
theorem el_listL (ha : EvRd K F sl ta ds) : EvL K F sl (tCB (rListK K) (tCons ta tNil)) ds := fun σ B H s Q q =>
  ha σ B H s _ fun l xs B1 H1 a1 e1 hl x1 => ⟨l, xs, rfl, .inl (SqL.of hl), fun p hp => by
    obtain ⟨a2, e2⟩ := a1.newO' (o := .lst xs) hp
    exact q p xs B1 _ a2 (e1.trans e2) upd_same x1 (a1.bh.free hp) (e1.g.free hp)⟩
theorem ev_max {i j : Int} (ha : EvD K F sl ta (.int i)) (hb : EvD K F sl tb (.int j)) : EvD K F sl (tCB (fun xs H Q => ∃ i j, xs = [.int i, .int j] ∧ Q (.int (if j > i then j else i)) H) (tCons ta (tCons tb tNil))) (.int (if j > i then j else i)) := fun σ B H s Q q =>
  ha σ B H s _ fun x B1 H1 a1 e1 x1 => hb σ B1 H1 a1 _ fun y B2 H2 a2 e2 y2 => by
    cases x1; cases y2
    exact ⟨i, j, rfl, q _ B2 H2 a2 (e1.trans e2) (.int _)⟩
theorem ev_min {i j : Int} (ha : EvD K F sl ta (.int i)) (hb : EvD K F sl tb (.int j)) : EvD K F sl (tCB (fun xs H Q => ∃ i j, xs = [.int i, .int j] ∧ Q (.int (if j < i then j else i)) H) (tCons ta (tCons tb tNil))) (.int (if j < i then j else i)) := fun σ B H s Q q =>
  ha σ B H s _ fun x B1 H1 a1 e1 x1 => hb σ B1 H1 a1 _ fun y B2 H2 a2 e2 y2 => by
    cases x1; cases y2
    exact ⟨i, j, rfl, q _ B2 H2 a2 (e1.trans e2) (.int _)⟩
theorem ev_intB {b : Bool} (ha : EvD K F sl ta (.bl b)) : EvD K F sl (tCB (fun xs H Q => (∃ i, xs = [.int i] ∧ Q (.int i) H) ∨ ∃ k, xs = [.bl k] ∧ Q (.int (if k then 1 else 0)) H) (tCons ta tNil)) (.int (if b then 1 else 0)) := fun σ B H s Q q =>
  ha σ B H s _ fun x B1 H1 a1 e1 x1 => by
    cases x1
    exact .inr ⟨b, rfl, q _ B1 H1 a1 e1 (.int _)⟩
/-- list.index of a text -/
theorem ev_indexS {x : Str} {ns : List Str} {j : Nat} (ha : EvRd K F sl ta (ns.map Dt.str)) (hb : EvD K F sl tb (.str x)) (hj : ns[j]? = some x) (hf : ∀ m, m < j → ns[m]? ≠ some x) : EvD K F sl (tBM K "list" (rIndex K) ta (tCons tb tNil)) (.int (j : Int)) := fun σ B H s Q q =>
  ha σ B H s _ fun l xs B1 H1 a1 e1 hl x1 => by
    have ex := x1.strs
    subst ex
    refine ⟨.inl ⟨rfl, _, SqL.of hl⟩, hb σ B1 H1 a1 _ fun y B2 H2 a2 e2 y2 => ?_⟩
    cases y2
    refine ⟨l, _, .str x, j, .str x, rfl, rfl, SqL.of (e2.g _ _ hl), rfl, flat_strs ns, by rw [List.getElem?_map, hj]; rfl, by show (x == x) = true; simp, fun m z hm hz => ?_, q _ B2 H2 a2 (e1.trans e2) (.int _)⟩
    rw [List.getElem?_map] at hz
    cases e : ns[m]? with
    | none => rw [e] at hz; cases hz
    | some y =>
      rw [e] at hz
      cases hz
      have ne : y ≠ x := fun q => hf m hm (by rw [e, q])
      show (y == x) = false
      simpa using ne
end
/-- a def that keeps its promise, as it is called by its name -/
structure Cal (P : Program) (w : World) (K : PySem.W.Frag) (mg : Str → Option Value) (base : Heap) (k : Nat) (x : Str) (sp : Sp) : Prop where
  ex : ∃ f fd ps, FnOk P w K mg base CX0 k f fd ps sp ∧ mg x = some (.ref f) ∧ PySem.W.keepIn K (.ref f) = true ∧ Binds K fd ps []
/-- a def of the text where it stands -/
structure Df (K : PySem.W.Frag) (mg : Str → Option Value) (x : Str) (st : Stmt) (ps : List Str) : Prop where
  ex : ∃ f fd, Fun K x x st f fd ∧ mg x = some (.ref f) ∧ Binds K fd ps []
section
variable {X : Cx} {k : Nat} {x : Str} {sp : Sp} {e : Expr} {es : List Expr} {t : TA} {p pos : Pos}
theorem pe_cal (C : Cal X.prog X.w X.K X.mg X.base k x sp) (hr : Room k X.A) (ha : PA X (e :: es) t) (hg : Gl X x := by rfl)
    (hdb : (x == ("__debug__" : Str)) = false := by decide) (he : starEach (e :: es) X.env = (false, eval e X.env) :: starEach es X.env := by rfl) (hpl : (backTo pos (starEach es X.env)).any (·.1) = false := by rfl) :
    PE X (.Call (.Name x p) (e :: es) [] pos) (tCall sp [] E0 t) := by
  obtain ⟨f, fd, ps, G, hm, kp, b⟩ := C.ex
  exact pe_call G hr hg hm kp b .nil pass0 ha hdb he hpl
theorem pe_cal0 (C : Cal X.prog X.w X.K X.mg X.base k x sp) (hr : Room k X.A) (hg : Gl X x := by rfl) (hdb : (x == ("__debug__" : Str)) = false := by decide) :
    PE X (.Call (.Name x p) [] [] pos) (tCall sp [] E0 tNil) := by
  obtain ⟨f, fd, ps, G, hm, kp, b⟩ := C.ex
  exact pe_call0 G hr hg hm kp b .nil pass0 hdb
end
section
variable {P : Program} {w : World} {K : PySem.W.Frag} {mg : Str → Option Value} {base : Heap}
/-- THE RULE for a def of data -/
theorem Df.cal {x : Str} {st : Stmt} {N ps : List Str} {k n : Nat} {ι : Type} {args : ι → List Dt} {pre : ι → Prop} {post : ι → Dt → Prop} (D : Df K mg x st ps) (S : FnScope N ps (defScope st)) (hn : ps.length = n)
    (hbody : ∀ (f : Addr) (cdv : Value) (A : Around) (outer : List Env) (s : Shared) (H : Hp) (E : XK), Room k (A.deeper (envOfC x (defScope st) s.heap.objs.size f cdv)) →
      ∃ t, PSs (cxOf CX0 P w K mg base N x (defScope st) f cdv A outer s H E).nox (defBody st) t ∧ ∀ B H i, pre i → Rn K (F0 B H) ((args i).map .fz ++ List.replicate (N.length - n) .un) t { nx := fun _ => post i .non, rt := fun d _ => post i d }) :
    Cal P w K mg base (k + 1) x (spI K n args pre post) := by
  obtain ⟨f, fd, F, hm, b⟩ := D.ex
  refine ⟨f, fd, ps, ?_, hm, F.kp, b⟩
  refine F.ok S (fun vs H Q E h => (spI_len h).trans hn.symm) (fun cdv A outer s H vs Q E hr h => ?_)
  obtain ⟨t, h1, h2⟩ := hbody f cdv A outer s H E hr
  exact ⟨t, h1, body_ok h fun B H i _ hp => h2 B H i hp⟩
theorem Cal.mono {j k : Nat} {x : Str} {sp : Sp} (C : Cal P w K mg base j x sp) (h : j ≤ k) : Cal P w K mg base k x sp := by
  obtain ⟨f, fd, ps, G, r⟩ := C.ex
  exact ⟨f, fd, ps, G.mono h, r⟩
end
end FZ
namespace FW
open PySem PySem.Spec PyProof.Rows L2 FZ
def topS (i : Nat) : Stmt := PySem.Challenge.pw_focuswalk_k47_whole_each_reached_or_shut.main.body.getD i (.Pass ⟨0, 0, 0, 0⟩)
/-- the built-ins' names stand free; the module's constants -/
structure Tx (K : PySem.W.Frag) (w : World) (mg : Str → Option Value) : Prop where
  len : mg "len" = none
  range : mg "range" = none
  enumerate : mg "enumerate" = none
  zip : mg "zip" = none
  reversed : mg "reversed" = none
  any : mg "any" = none
  all : mg "all" = none
  sorted : mg "sorted" = none
  max : mg "max" = none
  min : mg "min" = none
  int : mg "int" = none
  tuple : mg "tuple" = none
  list : mg "list" = none
  FREE : ∃ t, mg "FREE" = some (.str "free" t)
  SHUT : ∃ t, mg "SHUT" = some (.str "shut" t)
  HIDDEN : ∃ t, mg "HIDDEN" = some (.str "hidden" t)
  SIDES : ∃ a, mg "SIDES" = some (.ref a) ∧ ∀ B, D K B (.ref a) (.tup [.str "up", .str "down", .str "left", .str "right"])
  KEYS : ∃ a, mg "KEYS" = some (.ref a) ∧ ∀ B, D K B (.ref a) (.tup [.str "on", .str "back", .str "up", .str "down", .str "left", .str "right", .str "into", .str "out"])
  WAYS : ∃ a, mg "WAYS" = some (.ref a) ∧ ∀ B, D K B (.ref a) (.tup [.str "up", .str "down", .str "left", .str "right", .str "into", .str "out"])
/-- a module's text constant, tuple constant -/
theorem pe_gs {X : Cx} {x s : Str} {pos : Pos} (h : ∃ t, X.mg x = some (.str s t)) (hg : Gl X x := by rfl) (hd : (x == ("__debug__" : Str)) = false := by decide) : PE X (.Name x pos) (tC (.str s)) := by
  obtain ⟨t, h⟩ := h
  exact pe_glob hg h ⟨t, rfl⟩ hd
theorem pe_ga {X : Cx} {x : Str} {a : Addr} {pos : Pos} (h : X.mg x = some (.ref a)) (hg : Gl X x := by rfl) (hd : (x == ("__debug__" : Str)) = false := by decide) : PE X (.Name x pos) (tC (.ref a)) :=
  pe_glob hg h rfl hd
end FW
set_option maxHeartbeats 2000000
/-! enumerate over a tuple -/
namespace PySem
open Sem (wp)
open AutoSeq1 (wpAny_loadPart')
set_option maxHeartbeats 4000000 in
theorem fz_meets_enumerate_newT (l : Addr) (items : Array Value) (n : Nat) (dct : Option Addr) (sl : Array (Option Value)) :
    Meets (Builtin.«enumerate.__new__» ⟨[.type "enumerate", .ref l], []⟩) (fun _ R s => s.heap.get? l = some { cls := .type "tuple", dict := dct, data := .seq items n, slots := sl } ∧
      R (.ok (.ret (.ref (s.heap.push { cls := .type "tuple_iterator", data := .fields #[.ref l, .int 0 0] }).objs.size)))
        { s with heap := (s.heap.push { cls := .type "tuple_iterator", data := .fields #[.ref l, .int 0 0] }).push { cls := .type "enumerate", data := .fields #[.none, .bool false, .ref s.heap.objs.size, rawInt 0, .none, .none] } }) :=
  .of_wp fun prog w A R s h => by
    obtain ⟨hp, g, d, tk, os⟩ := s; obtain ⟨hl, h⟩ := h
    have hsub := sub_enumerate
    have hL : Heap.IsTuple (Shared.heap ⟨hp, g, d, tk, os⟩) l items := ⟨_, hl, rfl, n, rfl⟩
    wp_walk using wpAny_loadPart' hl
    refine wpAny_stack_any fun st => wpAny_pure ?_
    split
    · rename_i c _ _ _ _ _
      cases (c == Value.type "enumerate")
      · wp_walk using wpAny_loadPart' hl, wpAny_pyIter_tuple hL
        exact ⟨_, rfl, h⟩
      · wp_walk using wpAny_loadPart' hl, wpAny_pyIter_tuple hL
        exact ⟨_, rfl, h⟩
    · wp_walk using wpAny_loadPart' hl, wpAny_pyIter_tuple hL
      exact ⟨_, rfl, h⟩
section
variable {prog : Program} {w : World} {A : Around} {E : Value → Shared → Prop} {s : Shared}
theorem fz_call_enumerate_tuple {l : Addr} {items : Array Value} {Q : Value → Shared → Prop} (hL : s.heap.IsTuple l items)
    (h : ∀ h', IsEnum h' (s.heap.objs.size + 1) s.heap.objs.size 0 .none → h'.IsTupleIter s.heap.objs.size l 0 → h'.objs.size = s.heap.objs.size + 2 →
      (∀ b o, s.heap.get? b = some o → h'.get? b = some o) → Q (.ref (s.heap.objs.size + 1)) { s with heap := h' }) :
    wpAny (model prog w) A (call (.type "enumerate") [.ref l]) Q E s := by
  obtain ⟨⟨c, dct, dt, sl⟩, hl, hc, n, hd⟩ := hL
  replace hc : c = .type "tuple" := hc
  replace hd : dt = .seq items n := hd
  subst hc hd
  refine callType_new F.called_enumerate (by decide) (F.typeCall_enumerate_1 _) (F.newCall_enumerate_1 _) (fun obj => F.args_object_init_2 obj _) F.entry_enumerate_new
    (fz_meets_enumerate_newT l items n dct sl) ⟨hl, ?_⟩
  have hz : (s.heap.push { cls := .type "tuple_iterator", data := .fields #[.ref l, .int 0 0] }).objs.size = s.heap.objs.size + 1 := Heap.size_push ..
  show _ ∧ _
  rw [hz]
  have he : IsEnum ((s.heap.push { cls := .type "tuple_iterator", data := .fields #[.ref l, .int 0 0] }).push
      { cls := .type "enumerate", data := .fields #[.none, .bool false, .ref s.heap.objs.size, rawInt 0, .none, .none] }) (s.heap.objs.size + 1) s.heap.objs.size 0 .none := by
    have := Heap.get?_push_size (s.heap.push { cls := .type "tuple_iterator", data := .fields #[.ref l, .int 0 0] })
      (o := { cls := .type "enumerate", data := .fields #[.none, .bool false, .ref s.heap.objs.size, rawInt 0, .none, .none] }) rfl
    rw [hz] at this; exact this
  refine ⟨⟨_, he, rfl⟩, h _ he ⟨_, Heap.get?_push_of_some _ (Heap.get?_push_size _ rfl), rfl, rfl⟩ (by rw [Heap.size_push, hz]) fun b o x => Heap.get?_push_of_some _ (Heap.get?_push_of_some _ x)⟩
end
end PySem
namespace FZ
open PySem PySem.Spec PyProof.Rows L2
/-- the tuple at a, each item in a new pair -/
def IteT (K : PySem.W.Frag) (a : Addr) : It :=
  ⟨fun i H => ∃ (xs : List V) (x : V), SqT K H a xs ∧ xs[i]? = some x, fun i H v H' => ∃ T x, v = .ref T ∧ H T = none ∧ H' = upd H T (.tup [.int (i : Nat), x]) ∧ ∀ xs, SqT K H a xs → xs[i]? = some x, fun i H => ∃ xs : List V, SqT K H a xs ∧ xs.length ≤ i⟩
theorem turn_enumT {P : Program} {w : World} {K : PySem.W.Frag} {elts : List Expr} {kk : Nat} {tpos : Pos} (a e it : Addr) :
    Turn P w K (.Tuple elts kk tpos) (IteT K a) [e, it] e (fun i h => (∃ old, IsEnum h e it ((i : Nat) : Int) old) ∧ h.IsTupleIter it a i ∧ e ≠ it ∧ a ≠ it ∧ a ≠ e) where
  mem := by simp
  obj := fun i h st b hb => by
    obtain ⟨⟨old, he⟩, ⟨o, ho, hc, hd⟩, _⟩ := st
    have e' : b = e ∨ b = it := by simpa using hb
    rcases e' with z | z
    · rw [z]; exact ⟨_, he, fun v q => nomatch q⟩
    · rw [z]; exact ⟨o, ho, fun v q => by rw [hd] at q; cases q⟩
  keep := fun i h h' st k => let ⟨⟨old, he⟩, hi, hne⟩ := st; ⟨⟨old, k e (by simp) _ he⟩, hi.at fun o q => k it (by simp) o q, hne⟩
  item := by
    intro X hP hw hK hc i pins s σ H E I hf st hg
    subst hP hw hK
    obtain ⟨⟨old, he⟩, hit, hne, hai, hae⟩ := st
    obtain ⟨xs, x, hq, hx⟩ := hg
    obtain ⟨its, rv, p, hz⟩ := I.tuple hq
    obtain ⟨u, hu, ru⟩ := rv.get hx
    have pT : s.heap.IsTuple a its.toArray := p
    have hel : e < s.heap.objs.size := Heap.lt_size he
    have hil : it < s.heap.objs.size := by obtain ⟨_, q, _⟩ := hit; exact Heap.lt_size q
    have hsz : i < its.toArray.size := by
      have := (List.getElem?_eq_some_iff.mp hu).1
      simpa using this
    refine wpAny_pyNext_enum_itemD (Draws.tuple (A := X.A.in1) (I.ok.hd hc) it a hai its.toArray) he ⟨hit, pT⟩ hsz hne (by simp only [List.mem_cons, List.not_mem_nil, or_false, not_or]; exact ⟨hne, fun z => hae z.symm⟩) fun x' h' tk hx' ho hst' hT hszz hk => ?_
    obtain rfl : x' = u := by
      have : its.toArray[i]? = some u := by simpa using hu
      rw [hx'] at this
      exact Option.some.inj this
    refine ⟨_, rfl, wpAny_letOwnedTupleGo_enum (s := { s with heap := h', toks := tk + 1 }) ho fun h'' he' sb => ?_⟩
    have hT2 : h''.get? s.heap.objs.size = some { cls := .type "tuple", data := .seq #[.int i tk, x'] } := (sb.2 _ (Nat.ne_of_gt hel)).trans hT
    have new : ObjOk X.prog X.w (upd H s.heap.objs.size (.tup [.int (i : Nat), x])) h'' s.heap.objs.size (.tup [.int (i : Nat), x]) :=
      ⟨by show 2 ≤ sizeLine; decide, [.int i tk, x'], .cons ⟨_, rfl⟩ (.cons ru .nil), ⟨_, hT2, rfl, _, rfl⟩⟩
    have I1 : Inv X pins σ (upd H s.heap.objs.size (.tup [.int (i : Nat), x])) { s with heap := h'', toks := tk + 1 } :=
      I.turnedNew (ch := [e, it]) (fun b ob hb q => (sb.2 b (fun z => hb (by simp [z]))).trans (hk b ob (fun z => hb (by simp [z])) (fun z => hb (by simp [z])) q)) hf (Nat.le_refl _) new
    refine ⟨.ref s.heap.objs.size, _, I1, rfl, ⟨_, x, rfl, I.hok.fresh (Nat.le_refl _), rfl, fun ys hy => by rw [I.tuple_inj hy hq]; exact hx⟩, ⟨⟨x', ?_⟩, hst'.1.at fun o q => (sb.2 it (Ne.symm hne)).trans q, hne, hai, hae⟩, fun b hb => ?_⟩
    · have e1 : ((i + 1 : Nat) : Int) = (i : Int) + 1 := by omega
      rw [e1]; exact he'
    · have hb' : b < s.heap.objs.size := by
        have e' : b = e ∨ b = it := by simpa using hb
        rcases e' with z | z
        · rw [z]; exact hel
        · rw [z]; exact hil
      rw [upd_ne (Nat.ne_of_lt hb')]
      exact (hf b hb).1
  done := by
    intro X hP hw hK hc i pins s σ H E I hf st hg
    subst hP hw hK
    obtain ⟨⟨old, he⟩, hit, hne, hai, hae⟩ := st
    obtain ⟨xs, hq, hx⟩ := hg
    obtain ⟨its, rv, p, hz⟩ := I.tuple hq
    have pT : s.heap.IsTuple a its.toArray := p
    obtain ⟨f0, f1, f2, f3, f4, f5⟩ := hf it (by simp)
    have hl := rv.length
    have hT : s.TypeIs (.ref e) "enumerate" := ⟨_, he, rfl⟩
    unfold pyNext
    refine wpAny_bind (wpAny_attempt (wpAny_callSpecial?_slot (name := Str.ofString "__next__") hT F.slot_enumerate_next
      (wpAny_call_entry F.slot_enumerate_next hT F.entry_enumerate_next ?_ (F.args_enumerate_next_1 _))))
    show wpAny _ _ (field (.ref e) 2 >>= _) _ _ _
    refine wpAny_bind (wpAny_field he rfl (x := .ref it) rfl ?_)
    refine wpAny_bind (wpAny_nextOf_tuple_end (A := X.A.in1) (I.ok.hd hc) hit pT (by simp; omega) fun h' x he' hx' => ?_)
    obtain ⟨o, ho, hc'⟩ := hx'
    refine wpAny_bind (wpAny_isInstance (T := "StopIteration") (b := true) ⟨o, ho, hc'⟩ isSubtype_stop ?_)
    exact wpAny_pure ⟨rfl, I.turned (t' := s.toks) (fun b o hb q => he' b o hb q) f0 f1 f3 f4 f5⟩
  self := fun A i s Q E st h => let ⟨⟨_, he⟩, _⟩ := st; wpAny_pyIter_enum he h
def iEnumT (K : PySem.W.Frag) (ta : TA) : TI := fun σ H R => ta σ H fun vs H1 => ∃ a xs, vs = [.ref a] ∧ SqT K H1 a xs ∧ R (IteT K a) H1
theorem piEnT {X : Cx} (K : PySem.W.Frag) (hK : X.K = K) {e : Expr} {ta : TA} {p pos tpos : Pos} {elts : List Expr} {kk : Nat} (hg : Gl X "enumerate") (hm : X.mg "enumerate" = none) (ha : PA X [e] ta) (hs : starEach [e] X.env = [(false, eval e X.env)] := by rfl) :
    PI X (.Tuple elts kk tpos) (.Call (.Name "enumerate" p) [e] [] pos) (iEnumT K ta) := by
  subst hK
  refine ⟨fun pins s σ H R I h => ?_⟩
  refine Call_ (ld_blt I hg hm boot_enumerate (PyProof.Rows.callWith_type1 (thn (ha.run pos pins s σ H _ I h) fun us s1 ⟨vs, H1, I1, r1, q1⟩ => ?_) hs rfl))
  obtain ⟨a, xs, ex, hq, q⟩ := q1
  subst ex
  cases r1 with
  | cons r rr =>
    cases rr
    cases r
    obtain ⟨its, rv, p', hz⟩ := I1.tuple hq
    have hal : a < s1.heap.objs.size := p'.lt
    refine fz_call_enumerate_tuple (show s1.heap.IsTuple a its.toArray from p') fun h' he hit hsz hk => wpAny_pyIter_enum he ?_
    have I2 : Inv X pins σ H1 { s1 with heap := h' } := I1.kept (t' := s1.toks) hk
    refine ⟨s1.heap.objs.size + 1, [s1.heap.objs.size + 1, s1.heap.objs.size], _, _, H1, rfl, I2, turn_enumT a (s1.heap.objs.size + 1) s1.heap.objs.size, ⟨⟨.none, he⟩, hit, Nat.succ_ne_self _, Nat.ne_of_lt hal, Nat.ne_of_lt (Nat.lt_succ_of_lt hal)⟩, fun b hb => ?_, q⟩
    have e' : b = s1.heap.objs.size + 1 ∨ b = s1.heap.objs.size := by simpa using hb
    have hle : s1.heap.objs.size ≤ b := by
      rcases e' with z | z
      · rw [z]; exact Nat.le_add_right _ _
      · rw [z]; exact Nat.le_refl _
    exact I1.fpOk hle (I1.hok.fresh hle)
theorem is_enumT {K : PySem.W.Frag} {F : Fr} {sl : List Slot} {te : TE} {ds : List Dt} (h : EvD K F sl te (.tup ds)) : ItS K F sl (iEnumT K (tCons te tNil)) (enumD ds) := fun σ B H s R q => h σ B H s _ fun v B1 H1 a1 e1 x1 => by
  cases x1 with
  | @tup a xs _ h1 h2 =>
    refine ⟨a, xs, rfl, same_t a1.bh h1, q _ B1 H1 a1 e1 fun i B2 H2 f1 f2 => ?_⟩
    have hl : SqT K H2 a xs := same_t (f1.trans f2) h1
    refine ⟨fun d hd => ?_, fun hi => ⟨xs, hl, by rw [h2.len, ← enumD_len]; exact hi⟩⟩
    obtain ⟨e, he, rfl⟩ := enumD_get hd
    obtain ⟨v, hv, dv⟩ := h2.get' he
    refine ⟨⟨xs, v, hl, hv⟩, fun x H3 y => ?_⟩
    obtain ⟨T, x', rfl, hT, rfl, y⟩ := y
    have := y xs hl
    rw [hv] at this
    cases this
    have st : Stp B2 H2 (upd B2 T (.tup [.int (i : Nat), v])) (upd H2 T (.tup [.int (i : Nat), v])) := Stp.new f2 hT
    refine ⟨_, st, fun a u e => ?_, .tup (SqT.of upd_same) (.cons (.int _) (.cons ((dv.up f1).up st.e) .nil))⟩
    by_cases q : a = T
    · subst q; rw [upd_same] at e ⊢; exact e
    · rw [upd_ne q] at e ⊢; exact f2 a u e
end FZ
set_option maxHeartbeats 2000000
/-! calls that change a list handed in -/
namespace FZ
open PySem PySem.Spec PyProof.Rows L2
section
variable {K : PySem.W.Frag} {F : Fr} {sl : List Slot} {σ : L2.St} {B B' H H' : Hp}
theorem SA.callA (h : SA K F sl σ B H) {i : Nat} {l : Addr} {s s' : Slot} (hs : sl[i]? = some s) (ho : s.own = true) (e : σ[i]? = some (some (.ref l))) (e1 : Same B B') (bh : Same B' H') (n : ∀ a, H a ≠ none → B a = none → B' a = none)
    (kp : ∀ a o, a ≠ l → H a = some o → H' a = some o) (ok : SlotOk K B' H' (some (.ref l)) s') (ho' : s'.own = true) (th : H' l ≠ none) : SA K F (sl.set i s') σ B' H' := by
  have hi : i < sl.length := (List.getElem?_eq_some_iff.mp hs).1
  obtain ⟨b, w⟩ := h.ow i s l hs ho e
  have hl : ∃ o, H l = some o := by
    obtain ⟨l', e', _, _, o, q⟩ := h.addr hs ho
    rw [e] at e'
    cases e'
    exact ⟨o, q⟩
  have bl : B' l = none := n l (by obtain ⟨o, q⟩ := hl; rw [q]; exact fun z => nomatch z) b
  refine ⟨by rw [List.length_set]; exact h.len, fun j t ht => ?_, fun j t m ht o1 em => ?_, fun j k t u m h1 h2 o1 o2 e1' e2' => ?_, h.b0.trans e1, bh, fun a h0 b0 => ?_, fun a u q nw => ?_, fun a h0 q => ?_⟩
  · by_cases q : i = j
    · subst q
      rw [List.getElem?_set_self hi] at ht
      cases ht
      exact ⟨_, e, ok⟩
    · rw [List.getElem?_set_ne q] at ht
      obtain ⟨o', e', ok'⟩ := h.ok j t ht
      refine ⟨o', e', ?_⟩
      have nl : ∀ m, t.own = true → o' = some (.ref m) → m ≠ l := fun m ot em z => by
        subst z
        rw [em] at e'
        exact q (h.dis i j s t m hs ht ho ot e e')
      cases t with
      | un => trivial
      | fz d => obtain ⟨v, a1, a2⟩ := ok'; exact ⟨v, a1, a2.up e1⟩
      | ow ds => obtain ⟨m, xs, a1, a2, a3⟩ := ok'; exact ⟨m, xs, a1, kp _ _ (nl m rfl a1) a2, a3.up e1⟩
      | od ds => obtain ⟨m, xs, a1, a2, a3⟩ := ok'; exact ⟨m, xs, a1, kp _ _ (nl m rfl a1) a2, a3.up e1⟩
      | oa k ds => obtain ⟨m, xs, a1, a2, a3, a4⟩ := ok'; exact ⟨m, xs, a1, kp _ _ (nl m rfl a1) a2, a3.up e1, a4⟩
      | oda k ds => obtain ⟨m, xs, a1, a2, a3, a4⟩ := ok'; exact ⟨m, xs, a1, kp _ _ (nl m rfl a1) a2, a3.up e1, a4⟩
      | fd k n => obtain ⟨m, xs, a1, a2, ⟨kvs, a3, a5⟩, a4⟩ := ok'; exact ⟨m, xs, a1, kp _ _ (nl m rfl a1) a2, ⟨kvs, a3.up e1, a5⟩, a4⟩
  · by_cases q : i = j
    · subst q
      rw [e] at em
      cases em
      exact ⟨bl, w⟩
    · rw [List.getElem?_set_ne q] at ht
      obtain ⟨l', e', b', w', o, hl'⟩ := h.addr ht o1
      rw [em] at e'
      cases e'
      exact ⟨n m (by rw [hl']; exact fun z => nomatch z) b', w'⟩
  · have fix : ∀ {j : Nat} {t : Slot}, (sl.set i s')[j]? = some t → t.own = true → ∃ t', sl[j]? = some t' ∧ t'.own = true := fun {j t} h1 o1 => by
      by_cases q : i = j
      · subst q; exact ⟨s, hs, ho⟩
      · rw [List.getElem?_set_ne q] at h1; exact ⟨t, h1, o1⟩
    obtain ⟨t', h1', o1'⟩ := fix h1 o1
    obtain ⟨u', h2', o2'⟩ := fix h2 o2
    exact h.dis j k t' u' m h1' h2' o1' o2' e1' e2'
  · exact n a (h.th a h0) (h.nn a h0 b0)
  · have na : a ≠ l := fun z => by
      subst z
      rcases w with w | w
      · rw [w] at q; cases q
      · exact nw w
    exact kp a u na (h.kp a u q nw)
  · by_cases z : a = l
    · subst z; exact th q
    · cases r : H a with
      | none => exact h.th a h0 r
      | some o => rw [kp a o z r] at q; cases q
theorem SA.initW {vs : List V} {ds : List Dt} (W : Addr → Prop) (e : Same B H) (h : Ds K B vs ds) (m : Nat) : SA K ⟨B, H, W⟩ (ds.map .fz ++ List.replicate m .un) (vs.map some ++ List.replicate m none) B H := by
  have a := SA.init e h m
  exact ⟨a.len, a.ok, fun i s l h1 h2 h3 => let ⟨p, q⟩ := a.ow i s l h1 h2 h3; ⟨p, .inl (q.resolve_right fun z => z)⟩, a.dis, a.b0, a.bh, a.nn, fun x o q _ => q, a.th⟩
theorem set_at {α : Type} (x y : α) (bs : List α) : ∀ as : List α, (as ++ x :: bs).set as.length y = as ++ y :: bs
  | [] => rfl
  | a :: as => by
    show a :: (as ++ x :: bs).set as.length y = _
    rw [set_at x y bs as]; rfl
/-- the slots of an entry whose last argument is a list that may change -/
theorem SA.initO {vs : List V} {ds own : List Dt} {l : Addr} {xs : List V} (e : Same B H) (h : Ds K B vs ds) (hl : H l = some (.lst xs)) (bl : B l = none) (hx : Ds K B xs own) (m : Nat) :
    SA K ⟨B, H, fun a => a = l⟩ (ds.map .fz ++ .oa l own :: List.replicate m .un) ((vs ++ [V.ref l]).map some ++ List.replicate m none) B H := by
  have a := SA.initW (fun a => a = l) e h (m + 1)
  have hlen : (ds.map Slot.fz ++ List.replicate (m + 1) Slot.un).length = ds.length + (m + 1) := by simp
  have hσ : (vs.map some ++ List.replicate (m + 1) (none : Option V)).length = ds.length + (m + 1) := by simp [h.len]
  have no : ∀ (j : Nat) (t : Slot), (ds.map Slot.fz ++ List.replicate (m + 1) Slot.un)[j]? = some t → t.own = true → (vs.map some ++ List.replicate (m + 1) (none : Option V))[j]? ≠ some (some (.ref l)) := fun j t ht ho => by
    exfalso
    have hm := List.mem_of_getElem? ht
    rcases List.mem_append.mp hm with z | z
    · obtain ⟨d, _, rfl⟩ := List.mem_map.mp z; cases ho
    · rw [(List.mem_replicate.mp z).2] at ho; cases ho
  have b := a.setO (i := ds.length) (l := l) (s := .oa l own) (by rw [hlen]; omega) ⟨l, xs, rfl, hl, hx, rfl⟩ bl (.inr rfl) no
  have e1 : (ds.map Slot.fz ++ List.replicate (m + 1) Slot.un).set ds.length (.oa l own) = ds.map .fz ++ .oa l own :: List.replicate m .un := by
    have := set_at Slot.un (.oa l own) (List.replicate m .un) (ds.map Slot.fz)
    rw [List.length_map] at this
    exact this
  have e2 : (vs.map some ++ List.replicate (m + 1) (none : Option V)).set ds.length (some (V.ref l)) = (vs ++ [V.ref l]).map some ++ List.replicate m none := by
    have := set_at (none : Option V) (some (V.ref l)) (List.replicate m none) (vs.map some)
    rw [List.length_map, h.len] at this
    rw [List.map_append, List.append_assoc]
    exact this
  rw [e1, e2] at b
  exact b
end
/-- from the arguments args i and a list that holds own i: the list holds own' i behind it -/
def spO (K : PySem.W.Frag) (n : Nat) {ι : Type} (args : ι → List Dt) (own : ι → List Dt) (pre : ι → Prop) (own' : ι → List Dt) : Sp := fun vs H Q _ => ∃ B i ws l xs, vs = ws ++ [.ref l] ∧ Same B H ∧ Ds K B ws (args i) ∧ (args i).length = n ∧ H l = some (.lst xs) ∧ B l = none ∧ Ds K B xs (own i) ∧ pre i ∧
  ∀ B' H' xs', Same B B' → Same B' H' → (∀ a, H a ≠ none → B a = none → B' a = none) → (∀ a o, a ≠ l → H a = some o → H' a = some o) → H' l = some (.lst xs') → Ds K B' xs' (own' i) → Q .non H'
theorem spO_len {K : PySem.W.Frag} {n : Nat} {ι : Type} {args own own' : ι → List Dt} {pre : ι → Prop} {vs : List V} {H : Hp} {Q : VK} {E : XK} (h : spO K n args own pre own' vs H Q E) : vs.length = n + 1 := by
  obtain ⟨B, i, ws, l, xs, rfl, _, hd, hn, _⟩ := h
  rw [List.length_append, hd.len, hn]; rfl
theorem body_okO {K : PySem.W.Frag} {n : Nat} {ι : Type} {args own own' : ι → List Dt} {pre : ι → Prop} {N : List Str} {ts : TS} {vs : List V} {H : Hp} {Q : VK} {E : XK} (h : spO K n args own pre own' vs H Q E)
    (hb : ∀ B H l i, (args i).length = n → pre i → Rn K ⟨B, H, fun a => a = l⟩ ((args i).map .fz ++ .oa l (own i) :: List.replicate (N.length - (n + 1)) .un) ts { nx := fun s => s[n]? = some (.oa l (own' i)), rt := fun _ _ => False }) : ts { nx := fun _ H' => Q .non H', rt := Q } (L2.start N vs) H := by
  obtain ⟨B, i, ws, l, xs, rfl, e, hd, hn, hl, bl, hx, hp, k⟩ := h
  have a : SA K ⟨B, H, fun a => a = l⟩ ((args i).map .fz ++ .oa l (own i) :: List.replicate (N.length - (n + 1)) .un) (L2.start N (ws ++ [.ref l])) B H := by
    have := SA.initO e hd hl bl hx (N.length - (n + 1))
    unfold L2.start
    rw [List.length_append, hd.len, hn]; exact this
  refine hb B H l i hn hp _ B H _ a ⟨fun s σ B' H' p a z => ?_, fun d s v σ B' H' p a z dv => p.elim, fun s σ B' H' p a z => p, fun s σ B' H' p a z => p⟩
  obtain ⟨o, _, m, xs', _, h1, h2, rfl⟩ := a.ok n _ p
  exact k B' H' xs' z a.bh (fun x h0 b0 => a.nn x h0 b0) (fun x o nl q => a.kp x o q nl) h1 h2
/-- arguments, the last one the owned object of slot j -/
def EvAo (K : PySem.W.Frag) (F : Fr) (sl : List Slot) (ta : TA) (ds : List Dt) (j : Nat) : Prop := ∀ σ B H, SA K F sl σ B H → ∀ l, σ[j]? = some (some (.ref l)) → ∀ Q : List V → Hp → Prop, (∀ vs B' H', SA K F sl σ B' H' → Stp B H B' H' → Ds K B' vs ds → Q (vs ++ [.ref l]) H') → ta σ H Q
section
variable {P : Program} {w : World} {K : PySem.W.Frag} {mg : Str → Option Value} {base : Heap} {F : Fr} {sl : List Slot} {tas : TA} {te : TE} {ds : List Dt} {d : Dt} {j n : Nat} {ι : Type} {args own own' : ι → List Dt} {pre : ι → Prop} {E : XK} {Po : Po}
theorem eao_last : EvAo K F sl (tCons (tVar j) tNil) [] j := fun σ B H s l e Q q => ⟨.ref l, e, q [] B H s Stp.refl .nil⟩
theorem eao_cons (h : EvD K F sl te d) (hr : EvAo K F sl tas ds j) : EvAo K F sl (tCons te tas) (d :: ds) j := fun σ B H s l e Q q => h σ B H s _ fun x B1 H1 a1 e1 x1 => hr σ B1 H1 a1 l e _ fun xs B2 H2 a2 e2 x2 =>
  q (x :: xs) B2 H2 a2 (e1.trans e2) (.cons (x1.up e2.e) x2)
theorem rn_callO (i : ι) (hs : sl[j]? = some (.ow (own i))) (ha : EvAo K F sl tas (args i) j) (hp : pre i) (k : Po.nx (sl.set j (.ow (own' i)))) (hn : (args i).length = n := by rfl) : Rn K F sl (tDrop (tCall (spO K n args own pre own') [] E tas)) Po := fun σ B H Y a t => by
  obtain ⟨o, eo, l, xs, rfl, hl, hx⟩ := a.ok j _ hs
  refine ha σ B H a l eo _ fun vs B1 H1 a1 e1 dv => ?_
  have bl1 : B1 l = none := (a1.ow j _ l hs rfl eo).1
  refine ⟨B1, i, vs, l, xs, List.append_nil _, a1.bh, dv, hn, e1.g _ _ hl, bl1, hx.up e1.e, hp, fun B' H' xs' q1 q2 q3 q4 q5 q6 => ?_⟩
  exact t.nx _ σ B' H' k (a1.callA hs rfl eo q1 q2 q3 q4 ⟨l, xs', rfl, q5, q6⟩ rfl (by rw [q5]; exact fun z => nomatch z)) (e1.e.trans q1)
theorem rn_callOa {b : Addr} (i : ι) (hs : sl[j]? = some (.oa b (own i))) (ha : EvAo K F sl tas (args i) j) (hp : pre i) (k : Po.nx (sl.set j (.oa b (own' i)))) (hn : (args i).length = n := by rfl) : Rn K F sl (tDrop (tCall (spO K n args own pre own') [] E tas)) Po := fun σ B H Y a t => by
  obtain ⟨o, eo, l, xs, rfl, hl, hx, rfl⟩ := a.ok j _ hs
  refine ha σ B H a l eo _ fun vs B1 H1 a1 e1 dv => ?_
  have bl1 : B1 l = none := (a1.ow j _ l hs rfl eo).1
  refine ⟨B1, i, vs, l, xs, List.append_nil _, a1.bh, dv, hn, e1.g _ _ hl, bl1, hx.up e1.e, hp, fun B' H' xs' q1 q2 q3 q4 q5 q6 => ?_⟩
  exact t.nx _ σ B' H' k (a1.callA hs rfl eo q1 q2 q3 q4 ⟨l, xs', rfl, q5, q6, rfl⟩ rfl (by rw [q5]; exact fun z => nomatch z)) (e1.e.trans q1)
/-- x.append(e), x handed in -/
theorem rn_appA {i : Nat} {b : Addr} (hs : sl[i]? = some (.oa b ds)) (h : EvD K F sl te d) (hz : ds.length < 100000) (k : Po.nx (sl.set i (.oa b (ds ++ [d])))) : Rn K F sl (tDrop (tBM K "list" rAppend (tVar i) (tCons te tNil))) Po := fun σ B H E a t => by
  obtain ⟨o, eo, l, xs, rfl, hl, hx, rfl⟩ := a.ok i _ hs
  refine ⟨.ref l, eo, .inl ⟨rfl, xs, SqL.of hl⟩, h σ B H a _ fun v B1 H1 a1 e1 dv => ⟨l, xs, v, rfl, rfl, e1.g _ _ hl, by rw [hx.len]; exact Nat.lt_trans hz (by decide), ?_⟩⟩
  exact t.nx _ _ B1 _ k (a1.mut hs rfl eo ⟨l, xs ++ [v], rfl, upd_same, (hx.up e1.e).app (.cons dv .nil), rfl⟩ rfl) e1.e
theorem wk_oa {b : Addr} {xs ys : List Dt} {as bs : List Slot} (e : xs = ys) (w : Wk as bs) : Wk (.oa b xs :: as) (.oa b ys :: bs) := wk_cons (.inr (by rw [e])) w
theorem Df.calO {x : Str} {st : Stmt} {N ps : List Str} {k n : Nat} {ι : Type} {args own own' : ι → List Dt} {pre : ι → Prop} (D : Df K mg x st ps) (S : FnScope N ps (defScope st)) (hn : ps.length = n + 1)
    (hbody : ∀ (f : Addr) (cdv : Value) (A : Around) (outer : List Env) (s : Shared) (H : Hp) (E : XK), Room k (A.deeper (envOfC x (defScope st) s.heap.objs.size f cdv)) →
      ∃ t, PSs (cxOf CX0 P w K mg base N x (defScope st) f cdv A outer s H E).nox (defBody st) t ∧ ∀ B H l i, pre i → Rn K ⟨B, H, fun a => a = l⟩ ((args i).map .fz ++ .oa l (own i) :: List.replicate (N.length - (n + 1)) .un) t { nx := fun s => s[n]? = some (.oa l (own' i)), rt := fun _ _ => False }) :
    Cal P w K mg base (k + 1) x (spO K n args own pre own') := by
  obtain ⟨f, fd, F, hm, b⟩ := D.ex
  refine ⟨f, fd, ps, ?_, hm, F.kp, b⟩
  refine F.ok S (fun vs H Q E h => (spO_len h).trans hn.symm) (fun cdv A outer s H vs Q E hr h => ?_)
  obtain ⟨t, h1, h2⟩ := hbody f cdv A outer s H E hr
  exact ⟨t, h1, body_okO h fun B H l i _ hp => h2 B H l i hp⟩
/-- a promise that is never asked -/
theorem Df.never {x : Str} {st : Stmt} {ps : List Str} {k : Nat} {sp : Sp} (D : Df K mg x st ps) (h : ∀ vs H Q E, ¬ sp vs H Q E) : Cal P w K mg base k x sp := by
  obtain ⟨f, fd, F, hm, b⟩ := D.ex
  exact ⟨f, fd, ps, ⟨fun vs H Q E z => (h vs H Q E z).elim, fun A outer s H args us vs Q E _ _ _ _ z => (h vs H Q E z).elim⟩, hm, F.kp, b⟩
end
end FZ
set_option maxHeartbeats 2000000
/-! deep equality without limits on texts; sorted of alike tuples; a written dict -/
namespace FZ
open PySem PySem.Spec PyProof.Rows L2
open PySem.W (EachIs dataLe AllAlike Sortable sort_each)
mutual
def toP : Dt → PyData
  | .non => .none
  | .bl b => .bool b
  | .int i => .int i
  | .str x => .str x
  | .lst ds => .list (toPs ds)
  | .tup ds => .tuple (toPs ds)
  | .dct _ => .dict []
def toPs : List Dt → List PyData
  | [] => []
  | d :: ds => toP d :: toPs ds
end
theorem toPs_map : ∀ ds : List Dt, toPs ds = ds.map toP
  | [] => rfl
  | d :: ds => by rw [toPs, toPs_map ds]; rfl
section
variable {K : PySem.W.Frag} {B H : Hp}
mutual
theorem D.dp (e : Same B H) : ∀ (d : Dt) (v : V), D K B v d → (toP d).plain = true → Dp K H v (toP d)
  | .non, _, h, _ => by cases h; exact .non
  | .bl b, _, h, _ => by cases h; exact .bl b
  | .int i, _, h, _ => by cases h; exact .int i
  | .str x, _, h, _ => by cases h; exact .str x
  | .lst ds, _, h, p => by
    cases h with
    | lst h1 h2 =>
      refine .lst (SqL.of (e _ _ h1)) (Ds.dp e ds _ h2 ?_)
      simpa [toP, PyData.plain] using p
  | .tup ds, _, h, p => by
    cases h with
    | tup h1 h2 =>
      refine .tup (same_t e h1) (Ds.dp e ds _ h2 ?_)
      simpa [toP, PyData.plain] using p
  | .dct kvs, _, h, p => by simp [toP, PyData.plain] at p
theorem Ds.dp (e : Same B H) : ∀ (ds : List Dt) (vs : List V), Ds K B vs ds → PyData.plainAll (toPs ds) = true → DpAll K H vs (toPs ds)
  | [], _, h, _ => by cases h; exact .nil
  | d :: ds, _, h, p => by
    cases h with
    | cons h1 h2 =>
      rw [toPs, PyData.plainAll, Bool.and_eq_true] at p
      exact .cons (D.dp e d _ h1 p.1) (Ds.dp e ds _ h2 p.2)
end
end
def rEqP (K : PySem.W.Frag) : R2 := fun x y H Q => ∃ d e, Dp K H x d ∧ Dp K H y e ∧ d.plain = true ∧ e.plain = true ∧ d.depth ≤ 60 ∧ Q (.bl (PyData.eqv d e)) H
def rNeP (K : PySem.W.Frag) : R2 := fun x y H Q => ∃ d e, Dp K H x d ∧ Dp K H y e ∧ d.plain = true ∧ e.plain = true ∧ d.depth ≤ 60 ∧ Q (.bl (!PyData.eqv d e)) H
theorem eqPK {X : Cx} (K : PySem.W.Frag) (hK : X.K = K) (hu : X.A.units + 64 < cLine) : OpR X (compareOp .Eq) (rEqP K) := by
  subst hK
  intro pins s σ H x y v u Q I rx ry h
  obtain ⟨d, e, hd, he, sd, se, dp, q⟩ := h
  obtain ⟨as, r1⟩ := Dp.reads I d x v hd rx
  obtain ⟨bs, r2⟩ := Dp.reads I e y u he ry
  exact PySem.SeqAt.eq_plain r1 r2 sd se (by have := Nat.min_le_left d.depth e.depth; omega) ⟨.bl _, H, I, rfl, q⟩
theorem nePK {X : Cx} (K : PySem.W.Frag) (hK : X.K = K) (hu : X.A.units + 64 < cLine) : OpR X (compareOp .NotEq) (rNeP K) := by
  subst hK
  intro pins s σ H x y v u Q I rx ry h
  obtain ⟨d, e, hd, he, sd, se, dp, q⟩ := h
  obtain ⟨as, r1⟩ := Dp.reads I d x v hd rx
  obtain ⟨bs, r2⟩ := Dp.reads I e y u he ry
  exact PySem.SeqAt.ne_plain r1 r2 sd se (by have := Nat.min_le_left d.depth e.depth; omega) ⟨.bl _, H, I, rfl, q⟩
section
variable {K : PySem.W.Frag} {F : Fr} {sl : List Slot} {ta tb : TE} {d e : Dt}
theorem ev_eqP (ha : EvD K F sl ta d) (hb : EvD K F sl tb e) (p1 : (toP d).plain = true) (p2 : (toP e).plain = true) (dp : (toP d).depth ≤ 60) : EvD K F sl (tOp (rEqP K) ta tb) (.bl (PyData.eqv (toP d) (toP e))) :=
  ev_op ha hb fun x y B H s hx hy Q q => ⟨_, _, D.dp s d x hx p1, D.dp s e y hy p2, p1, p2, dp, q _ (.bl _)⟩
theorem ev_neP (ha : EvD K F sl ta d) (hb : EvD K F sl tb e) (p1 : (toP d).plain = true) (p2 : (toP e).plain = true) (dp : (toP d).depth ≤ 60) : EvD K F sl (tOp (rNeP K) ta tb) (.bl (!PyData.eqv (toP d) (toP e))) :=
  ev_op ha hb fun x y B H s hx hy Q q => ⟨_, _, D.dp s d x hx p1, D.dp s e y hy p2, p1, p2, dp, q _ (.bl _)⟩
open PySem.W in
/-- = by a Datum -/
theorem ev_eqU {α : Type} [DecidableEq α] [Datum α] {a b : α} (ha : EvD K F sl ta d) (hb : EvD K F sl tb e) (h1 : toP d = Datum.toD a) (h2 : toP e = Datum.toD b) (dp : Datum.depth α ≤ 60 := by decide) : EvD K F sl (tOp (rEqP K) ta tb) (.bl (decide (a = b))) :=
  (ev_eqP ha hb (by rw [h1]; exact Datum.plain a) (by rw [h2]; exact Datum.plain b) (by rw [h1]; exact Nat.le_trans (Datum.depth_le a) dp)).is (by rw [h1, h2, Datum.eqv])
open PySem.W in
theorem ev_neU {α : Type} [DecidableEq α] [Datum α] {a b : α} (ha : EvD K F sl ta d) (hb : EvD K F sl tb e) (h1 : toP d = Datum.toD a) (h2 : toP e = Datum.toD b) (dp : Datum.depth α ≤ 60 := by decide) : EvD K F sl (tOp (rNeP K) ta tb) (.bl (!decide (a = b))) :=
  (ev_neP ha hb (by rw [h1]; exact Datum.plain a) (by rw [h2]; exact Datum.plain b) (by rw [h1]; exact Nat.le_trans (Datum.depth_le a) dp)).is (by rw [h1, h2, Datum.eqv])
open PySem.W in
theorem toP_ints (ns : List Int) : toP (.tup (ns.map .int)) = Datum.toD (Tup.mk ns) := by
  show PyData.tuple (toPs _) = PyData.tuple _
  rw [toPs_map, List.map_map]; rfl
open PySem.W in
theorem toP_intsL (ns : List Int) : toP (.lst (ns.map .int)) = Datum.toD ns := by
  show PyData.list (toPs _) = PyData.list _
  rw [toPs_map, List.map_map]; rfl
open PySem.W in
theorem toP_strsL (ns : List Str) : toP (.lst (ns.map .str)) = Datum.toD ns := by
  show PyData.list (toPs _) = PyData.list _
  rw [toPs_map, List.map_map]; rfl
open PySem.W in
theorem toP_strsLL (ns : List (List Str)) : toP (.lst (ns.map fun l => .lst (l.map .str))) = Datum.toD ns := by
  show PyData.list (toPs _) = PyData.list _
  rw [toPs_map, List.map_map]
  congr 1
  exact List.map_congr_left fun l _ => toP_strsL l
end
/-! sorted -/
def rSortQ (K : PySem.W.Frag) : List V → Hp → VK → Prop := fun vs H Q => ∃ (a : Addr) (zs : List (V × PyData)), vs = [V.ref a] ∧ SqL K H a (zs.map Prod.fst) ∧ DpAll K H (zs.map Prod.fst) (zs.map Prod.snd) ∧ AllAlike (zs.map Prod.snd) ∧ (∀ z ∈ zs, ∃ x r, z.2 = .tuple (x :: r)) ∧
  (∀ z ∈ zs, z.2.depth ≤ 8) ∧ ∀ p, H p = none → Q (.ref p) (upd H p (.lst ((zs.mergeSort (dataLe false Prod.snd)).map Prod.fst)))
theorem DpAll.ref {K : PySem.W.Frag} {H : Hp} : ∀ {vs : List V} {ds : List PyData}, DpAll K H vs ds → (∀ d ∈ ds, ∃ x r, d = .tuple (x :: r)) → ∀ v ∈ vs, ∃ a, v = V.ref a
  | _, _, .nil, _, v, h => by simp at h
  | _, _, .cons (d := d) h1 h2, ht, v, h => by
    rcases List.mem_cons.mp h with rfl | h
    · obtain ⟨x, r, rfl⟩ := ht d (List.mem_cons_self ..)
      cases h1
      exact ⟨_, rfl⟩
    · exact DpAll.ref h2 (fun d hd => ht d (List.mem_cons_of_mem _ hd)) v h
theorem each_zip {R : Value → PyData → Prop} : ∀ {us : List Value} {ds : List PyData}, EachIs R us ds → EachIs (fun v (b : Value × PyData) => v = b.1 ∧ R v b.2) us (us.zip ds)
  | _, _, .nil => .nil
  | _, _, .cons h t => .cons ⟨rfl, h⟩ (each_zip t)
theorem each_fst {β : Type} {f : β → Value} : ∀ {us : List Value} {bs : List β}, EachIs (fun v b => v = f b) us bs → us = bs.map f
  | _, _, .nil => rfl
  | _, _, .cons h t => by rw [List.map_cons, ← h, ← each_fst t]
theorem each_self {α β : Type} (f : α → β) : ∀ as : List α, EachIs (fun a b => b = f a) as (as.map f)
  | [] => .nil
  | a :: as => .cons rfl (each_self f as)
theorem each_map {α β : Type} {f : α → β} : ∀ {as : List α} {bs : List β}, EachIs (fun a b => b = f a) as bs → bs = as.map f
  | _, _, .nil => rfl
  | _, _, .cons h t => by rw [List.map_cons, h, each_map t]
/-- sorting goes under a map -/
theorem sort_map {α β : Type} (f : α → β) (k : β → PyData) (as : List α) : (as.map f).mergeSort (dataLe false k) = (as.mergeSort (dataLe false fun a => k (f a))).map f := by
  refine each_map (sort_each (each_self f as) fun p hp q hq => ?_)
  have h1 := (each_self f as).zip p hp
  have h2 := (each_self f as).zip q hq
  show dataLe false (fun a => k (f a)) p.1 q.1 = dataLe false k p.2 q.2
  rw [h1, h2]
  rfl
theorem sortQ {X : Cx} (K : PySem.W.Frag) (hK : X.K = K) (hu : X.A.units + 64 < cLine) : CallR X (.builtin "sorted") (rSortQ K) := by
  subst hK
  intro pins s σ H vs us Q I r h
  obtain ⟨a, zs, rfl, hs, hd, hal, ht, hdp, q⟩ := h
  obtain ⟨its, rv, hl, hz⟩ := I.list hs
  obtain ⟨u, rfl, ru⟩ := vals1 r
  obtain rfl : u = Value.ref a := ru
  have ht' : ∀ d ∈ zs.map Prod.snd, ∃ x r, d = PyData.tuple (x :: r) := fun d hm => by
    obtain ⟨z, hz, rfl⟩ := List.mem_map.mp hm
    exact ht z hz
  obtain ⟨e1, e2⟩ := refs_back rv (DpAll.ref hd ht')
  obtain ⟨as, rd⟩ := Dp.readsAll I _ _ _ hd rv
  have er : EachIs (fun v d => ∃ as, Reads s.heap v d as) its (zs.map Prod.snd) := PySem.W.readsAll_each (enc := id) (by rw [List.map_id]; exact rd)
  have ez := each_zip er
  have lz : its.length = zs.length := by
    have := rv.length
    rw [List.length_map] at this
    omega
  have em : ∀ (x : List Value) (y : List PyData), x.length = y.length → (x.zip y).map Prod.snd = y := fun x y h => List.map_snd_zip (by omega)
  have lz2 : its.length = (zs.map Prod.snd).length := by rw [List.length_map]; exact lz
  refine PySem.W.sorted_data (enc := Prod.snd) hl.isList (ez.mono fun _ _ h => h.1) (ez.mono fun _ _ h => h.2) (by rw [em _ _ lz2]; exact hal) (by rw [em _ _ lz2]; exact .inl ht') (by rw [← ez.length, ← rv.length]; exact hz) (fun b hb => ?_) fun out hlen eo => ?_
  · have hm := (List.of_mem_zip hb).2
    obtain ⟨z, hz, e⟩ := List.mem_map.mp hm
    have := hdp z hz
    rw [← e]
    omega
  · have eout := each_fst eo
    have hzb : zs = (its.zip (zs.map Prod.snd)).map fun b => (backV b.1, b.2) := by
      have : ∀ (us : List Value) (zs : List (V × PyData)), zs.map Prod.fst = us.map backV → zs = (us.zip (zs.map Prod.snd)).map fun b => (backV b.1, b.2) := by
        intro us
        induction us with
        | nil => intro zs h; cases zs with
          | nil => rfl
          | cons z zs => simp at h
        | cons u us ih => intro zs h; cases zs with
          | nil => simp at h
          | cons z zs =>
            simp only [List.map_cons, List.cons.injEq] at h
            rw [List.map_cons, List.zip_cons_cons, List.map_cons, ← ih zs h.2, ← h.1]
      exact this its zs e1
    have hsz : zs.mergeSort (dataLe false Prod.snd) = ((its.zip (zs.map Prod.snd)).mergeSort (dataLe false Prod.snd)).map fun b => (backV b.1, b.2) := by
      conv => lhs; rw [hzb]
      exact sort_map (fun b : Value × PyData => (backV b.1, b.2)) Prod.snd _
    have hres : (zs.mergeSort (dataLe false Prod.snd)).map Prod.fst = out.map backV := by
      rw [hsz, eout, List.map_map, List.map_map]; rfl
    have hperm : out.Perm its := by
      rw [eout]
      have p1 := (List.mergeSort_perm (its.zip (zs.map Prod.snd)) (dataLe false Prod.snd)).map Prod.fst
      rw [List.map_fst_zip (by omega)] at p1
      exact p1
    have h3 : ∀ u ∈ out, ∃ a, u = Value.ref a := fun u hu => e2 u (hperm.mem_iff.mp hu)
    obtain ⟨n, hn⟩ := sortedAll_at s.heap its out.toArray
    rw [hres] at q
    refine ⟨.ref (s.heap.objs.size + 1), upd H (s.heap.objs.size + 1) (.lst (out.map backV)), I.laid (t' := s.toks) (fun b o e => sortedAll_old e) (Nat.le_succ _) ⟨?_, out, n, vals_back h3, hn⟩, rfl, q _ (I.hok.fresh (Nat.le_succ _))⟩
    rw [List.length_map, hperm.length_eq, ← rv.length]; exact hz
def sortD (ds : List Dt) : List Dt := ds.mergeSort (dataLe false toP)
theorem Ds.sorted {K : PySem.W.Frag} {B : Hp} : ∀ {vs : List V} {ds : List Dt}, Ds K B vs ds → EachIs (fun (z : V × PyData) d => D K B z.1 d ∧ z.2 = toP d) (vs.zip (toPs ds)) ds
  | _, _, .nil => .nil
  | _, _, .cons h t => .cons ⟨h, rfl⟩ (Ds.sorted t)
theorem Ds.ofEach {K : PySem.W.Frag} {B : Hp} : ∀ {zs : List (V × PyData)} {ds : List Dt}, EachIs (fun (z : V × PyData) d => D K B z.1 d ∧ z.2 = toP d) zs ds → Ds K B (zs.map Prod.fst) ds
  | _, _, .nil => .nil
  | _, _, .cons h t => .cons h.1 (Ds.ofEach t)
section
variable {K : PySem.W.Frag} {F : Fr} {sl : List Slot} {ta tb : TE} {ds : List Dt}
theorem el_sort (ha : EvRd K F sl ta ds) (hp : PyData.plainAll (toPs ds) = true) (hal : AllAlike (toPs ds)) (ht : ∀ d ∈ ds, ∃ x r, d = .tup (x :: r)) (hdp : ∀ d ∈ ds, (toP d).depth ≤ 8) : EvL K F sl (tCB (rSortQ K) (tCons ta tNil)) (sortD ds) := fun σ B H s Q q =>
  ha σ B H s _ fun l xs B1 H1 a1 e1 hl x1 => by
    have ln : xs.length = (toPs ds).length := by rw [toPs_map, List.length_map]; exact x1.len
    have f1 : (xs.zip (toPs ds)).map Prod.fst = xs := List.map_fst_zip (by omega)
    have f2 : (xs.zip (toPs ds)).map Prod.snd = toPs ds := List.map_snd_zip (by omega)
    have mem : ∀ z ∈ xs.zip (toPs ds), ∃ d ∈ ds, z.2 = toP d := fun z hz => by
      have := (List.of_mem_zip hz).2
      rw [toPs_map] at this
      obtain ⟨d, hd, e⟩ := List.mem_map.mp this
      exact ⟨d, hd, e.symm⟩
    refine ⟨l, xs.zip (toPs ds), rfl, by rw [f1]; exact SqL.of hl, by rw [f1, f2]; exact Ds.dp a1.bh ds xs x1 hp, by rw [f2]; exact hal, fun z hz => ?_, fun z hz => ?_, fun p hp => ?_⟩
    · obtain ⟨d, hd, e⟩ := mem z hz
      obtain ⟨x, r, rfl⟩ := ht d hd
      exact ⟨toP x, toPs r, e⟩
    · obtain ⟨d, hd, e⟩ := mem z hz
      rw [e]; exact hdp d hd
    · have es := Ds.ofEach (sort_each (r := dataLe false Prod.snd) (s := dataLe false toP) x1.sorted fun p hp q hq => by
        have h1 := (x1.sorted.zip p hp).2
        have h2 := (x1.sorted.zip q hq).2
        unfold dataLe PySem.W.sortLe
        simp only [h1, h2])
      obtain ⟨a2, e2⟩ := a1.newO' (o := .lst (((xs.zip (toPs ds)).mergeSort (dataLe false Prod.snd)).map Prod.fst)) hp
      exact q p _ B1 _ a2 (e1.trans e2) upd_same es (a1.bh.free hp) (e1.g.free hp)
end
/-! a written dict -/
section
variable {K : PySem.W.Frag} {w : World} {d : Addr}
def rNiKD (K : PySem.W.Frag) (d : Addr) : R2 := fun x y H Q => ∃ (z : Str) (r : Option Value), x = .str z ∧ y = .ref d ∧ PySem.W.nsIn K d z = some r ∧ Q (.bl (!r.isSome)) H
theorem niKD {X : Cx} {es : Array DictEntry} {n : Nat} (hK : X.K = K) (D : KDict K X.w d es n) : OpR X (compareOp .NotIn) (rNiKD K d) := by subst hK; exact op_notIn_kd D
theorem ixKD {X : Cx} (hK : X.K = K) : IxR X (rIxD K X.w) := by subst hK; exact ix_kdict
end
end FZ
set_option maxHeartbeats 2000000
namespace FZ
open PySem PySem.Spec PyProof.Rows L2
def rIdxT (K : PySem.W.Frag) : V → List V → Hp → VK → Prop := fun x xs H Q => ∃ p, ∃ ys : List Str, ∃ z j, x = .ref p ∧ xs = [.str z] ∧ SqT K H p (ys.map V.str) ∧ ys[j]? = some z ∧ (∀ m, m < j → ys[m]? ≠ some z) ∧ Q (.int (j : Nat)) H
theorem indexT {X : Cx} (K : PySem.W.Frag) (h : X.K = K) : MtR X "tuple.index" (rIdxT K) := by subst h; exact mt_tup_index
section
variable {K : PySem.W.Frag} {F : Fr} {sl : List Slot} {ta tb te : TE} {d : Dt} {ds es : List Dt}
theorem ev_neg {i : Int} (ha : EvD K F sl ta (.int i)) : EvD K F sl (tUn (rU fun i => .int (-i)) ta) (.int (-i)) :=
  ev_un ha fun x B H e hx Q q => by cases hx; exact ⟨i, rfl, q _ (.int _)⟩
theorem ev_ltT {ns ms : List Int} (ha : EvD K F sl ta (.tup (ns.map .int))) (hb : EvD K F sl tb (.tup (ms.map .int))) : EvD K F sl (tOp (rLtT K) ta tb) (.bl (HT.lexLt ns ms)) :=
  ev_op ha hb fun x y B H e hx hy Q q => by
    cases hx with
    | @tup a xs _ h1 h2 =>
      cases hy with
      | @tup b ys _ k1 k2 =>
        have e1 := h2.ints
        have e2 := k2.ints
        subst e1 e2
        exact ⟨a, b, ns, ms, rfl, rfl, same_t e h1, same_t e k1, q _ (.bl _)⟩
/-- index of a constant tuple -/
theorem ev_indexTK {a : Addr} {o : Obj} {x : Str} {ns : List Str} {j : Nat} (hl : K.lookup a = some o) (hc : o.cls = .type "tuple") (hn : o.dict = none) (ha : ∀ B, D K B (.ref a) (.tup (ns.map .str))) (hb : EvD K F sl tb (.str x)) (hj : ns[j]? = some x) (hf : ∀ m, m < j → ns[m]? ≠ some x) : EvD K F sl (tBM K "tuple" (rIdxT K) (tC (.ref a)) (tCons tb tNil)) (.int (j : Int)) := fun σ B H s Q q => by
  have x1 := ha H
  refine ⟨.inr (.inl ⟨rfl, o, hl, hc, hn⟩), hb σ B H s _ fun y B2 H2 a2 e2 y2 => ?_⟩
  cases y2
  cases x1 with
  | @tup _ xs _ h1 h2 =>
    have e2' := h2.strs
    subst e2'
    exact ⟨a, ns, x, j, rfl, rfl, same_t e2.g h1, hj, hf, q _ B2 H2 a2 e2 (.int _)⟩
theorem ev_fmod {i j : Int} (ha : EvD K F sl ta (.int i)) (hb : EvD K F sl tb (.int j)) (hj : j ≠ 0) : EvD K F sl (tOp (rI (fun _ j => j ≠ 0) fun i j => .int (i.fmod j)) ta tb) (.int (i.fmod j)) := ev_I (C := fun _ j => j ≠ 0) (g := fun i j => i.fmod j) ha hb hj
end
theorem cutD_init (ds : List Dt) : cutD ds none (some (-1)) = ds.dropLast := by
  have e : HT.sIx ds.length ds.length (some (-1)) = ds.length - 1 := by
    show (if (-1 : Int) < 0 then ((-1 : Int) + (ds.length : Int)).toNat else min (-1 : Int).toNat ds.length) = ds.length - 1
    rw [if_pos (by decide)]; omega
  unfold cutD
  rw [e, HT.sIx_none, List.drop_zero, Nat.sub_zero, List.dropLast_eq_take]
theorem cutD_mid (ds : List Dt) (lo hi : Nat) (h : hi ≤ ds.length) (h2 : lo ≤ hi) : cutD ds (some (lo : Int)) (some (hi : Int)) = (ds.drop lo).take (hi - lo) := by
  unfold cutD
  rw [HT.sIx_nat, HT.sIx_nat, Nat.min_eq_left h, Nat.min_eq_left (Nat.le_trans h2 h)]
theorem cutD_from (ds : List Dt) (lo : Nat) (h : lo ≤ ds.length) : cutD ds (some (lo : Int)) none = ds.drop lo := by
  unfold cutD
  rw [HT.sIx_nat, HT.sIx_none, Nat.min_eq_left h, List.take_of_length_le (by rw [List.length_drop]; omega)]
theorem cutD_to (ds : List Dt) (hi : Nat) : cutD ds none (some (hi : Int)) = ds.take hi := by
  unfold cutD
  rw [HT.sIx_nat, HT.sIx_none, List.drop_zero, Nat.sub_zero]
  rcases Nat.le_total hi ds.length with h | h
  · rw [Nat.min_eq_left h]
  · rw [Nat.min_eq_right h, List.take_of_length_le (Nat.le_refl _), List.take_of_length_le h]
theorem atI_nat {α : Type} {xs : List α} {j : Nat} {x : α} (h : xs[j]? = some x) : atI xs (j : Int) = some x := by
  have hl : j < xs.length := (List.getElem?_eq_some_iff.mp h).1
  unfold atI ixN
  rw [if_pos (by omega), if_pos (by omega)]
  show xs[(j : Int).toNat]? = _
  rw [Int.toNat_natCast]; exact h
theorem atI_last {α : Type} {xs : List α} {x : α} (h : xs.getLast? = some x) : atI xs (-1) = some x := by
  have hl : xs ≠ [] := fun e => by rw [e] at h; cases h
  have hp : 0 < xs.length := List.length_pos_iff.mpr hl
  unfold atI ixN
  rw [if_neg (by omega), if_pos (by omega)]
  show xs[((-1 : Int) + xs.length).toNat]? = _
  rw [List.getLast?_eq_getElem?] at h
  rw [← h]
  congr 1
  omega
theorem ixN_nat {n j : Nat} (h : j < n) : ixN n (j : Int) = some j := by
  unfold ixN
  rw [if_pos (by omega), if_pos (by omega), Int.toNat_natCast]
end FZ
set_option maxHeartbeats 2000000
namespace FZ
open PySem PySem.Spec PyProof.Rows L2
/-! dict displays -/
section
variable {K : PySem.W.Frag} {F : Fr} {sl : List Slot} {tk tv : TE} {d : Dt}
def EvPs (K : PySem.W.Frag) (F : Fr) (sl : List Slot) (trs : List (TE × TE)) (kds : List (Str × Dt)) : Prop := ∀ σ B H, SA K F sl σ B H → ∀ Q : List (V × V) → Hp → Prop, (∀ kvs B' H', SA K F sl σ B' H' → Stp B H B' H' → Dk K B' kvs kds → Q (kvs.map fun kv => (kV kv.1, kv.2)) H') → tPairs trs σ H Q
theorem eps_nil : EvPs K F sl [] [] := fun σ B H s Q q => q [] B H s Stp.refl .nil
theorem eps_cons {x : Str} {trs : List (TE × TE)} {kds : List (Str × Dt)} (hk : EvD K F sl tk (.str x)) (hv : EvD K F sl tv d) (hr : EvPs K F sl trs kds) : EvPs K F sl ((tk, tv) :: trs) ((x, d) :: kds) := fun σ B H s Q q =>
  hk σ B H s _ fun v B1 H1 a1 e1 dv => hv σ B1 H1 a1 _ fun u B2 H2 a2 e2 du => hr σ B2 H2 a2 _ fun kvs B3 H3 a3 e3 dk => by
    cases dv
    exact q ((Sum.inr x, u) :: kvs) B3 H3 a3 (e1.trans (e2.trans e3)) (.cons (du.up e3.e) dk)
theorem Dk.merge {B : Hp} : ∀ (kds : List (Str × Dt)) (kvs : List (Key × V)) (ks : List (Key × V)) (ds : List (Str × Dt)), Dk K B kvs kds → Dk K B ks ds → Dk K B (mergeK ks kvs) (kds.foldl (fun acc p => dput acc p.1 p.2) ds)
  | [], _, _, _, h, g => by cases h; exact g
  | (k, d) :: kds, _, ks, ds, h, g => by
    cases h with
    | @cons v _ ks' _ _ h1 h2 => exact Dk.merge kds ks' (putK ks (Sum.inr k) v) (dput ds k d) h2 (g.put k h1)
theorem ek_disp {trs : List (TE × TE)} {kds : List (Str × Dt)} (h : EvPs K F sl trs kds) (hz : kds.length ≤ 15) : EvK K F sl (tDisp trs) (kds.foldl (fun acc p => dput acc p.1 p.2) []) := fun σ B H s Q q => fun p hp => by
  obtain ⟨a1, e1⟩ := s.newO' (o := .dK []) hp
  refine h σ B _ a1 _ fun kvs B2 H2 a2 e2 dk => ?_
  have hp2 : H2 p = some (.dK []) := e2.g _ _ upd_same
  have bp : B2 p = none := e2.n p (by rw [upd_same]; exact fun z => nomatch z) (s.bh.free hp)
  refine ⟨hp2, kvs, rfl, by rw [dk.len]; exact hz, ?_⟩
  have h0 := s.h0free hp
  have no := s.notOwn hp
  have e12 := e1.trans e2
  refine q p _ B2 _ (a2.mutOut bp h0 no) ⟨e12.e, fun a u e => ?_, fun a n b => e12.n a n b⟩ upd_same (Dk.merge _ _ _ _ dk .nil) bp hp
  rw [upd_ne (fun z => by rw [z, hp] at e; cases e)]
  exact e12.g a u e
end
end FZ
set_option maxHeartbeats 2000000
/-! draws: expressions and calls that change the law's feed -/
namespace FZ
open PySem PySem.Spec PyProof.Rows L2
/-- all but the object at a stays -/
structure Sd (a : Addr) (B H B' H' : Hp) : Prop where
  e : Same B B'
  g : ∀ x o, x ≠ a → H x = some o → H' x = some o
  n : ∀ x, H x ≠ none → B x = none → B' x = none
  t : H a ≠ none → H' a ≠ none
theorem Sd.refl {a : Addr} {B H : Hp} : Sd a B H B H := ⟨Same.refl B, fun _ _ _ e => e, fun _ _ b => b, fun h => h⟩
theorem Stp.sd {a : Addr} {B H B' H' : Hp} (s : Stp B H B' H') : Sd a B H B' H' := ⟨s.e, fun x o _ e => s.g x o e, s.n, fun h q => by
  cases e : H a with
  | none => exact h e
  | some o => rw [s.g a o e] at q; cases q⟩
theorem Sd.there {a : Addr} {B H B' H' : Hp} (s : Sd a B H B' H') {x : Addr} (h : H x ≠ none) : H' x ≠ none := by
  by_cases z : x = a
  · rw [z] at h ⊢; exact s.t h
  · cases e : H x with
    | none => exact absurd e h
    | some o => rw [s.g x o z e]; exact fun q => nomatch q
theorem Sd.trans {a : Addr} {B H B1 H1 B2 H2 : Hp} (p : Sd a B H B1 H1) (q : Sd a B1 H1 B2 H2) : Sd a B H B2 H2 :=
  ⟨p.e.trans q.e, fun x o n e => q.g x o n (p.g x o n e), fun x h b => q.n x (p.there h) (p.n x h b), fun h => q.t (p.t h)⟩
/-- from the feed at l and the arguments args i: at most c i draws -/
def spF (K : PySem.W.Frag) (n : Nat) {ι : Type} (args : ι → List Dt) (pre : ι → Prop) (c : ι → Nat) (post : ι → Dt → Prop) : Sp := fun vs H Q _ => ∃ (B : Hp) (i : ι) (ws : List V) (l : Addr) (ks : List (Key × V)) (kvs : List (Str × Dt)) (m : Nat),
  vs = .ref l :: ws ∧ Same B H ∧ Ds K B ws (args i) ∧ (args i).length = n ∧ H l = some (.dK ks) ∧ B l = none ∧ Dk K B ks kvs ∧ FeedOk m kvs ∧ m + c i ≤ 100000 ∧ pre i ∧
  ∀ v d B' H' ks' kvs', Sd l B H B' H' → Same B' H' → H' l = some (.dK ks') → B' l = none → Dk K B' ks' kvs' → FeedOk (m + c i) kvs' → D K B' v d → post i d → Q v H'
theorem spF_len {K : PySem.W.Frag} {n : Nat} {ι : Type} {args : ι → List Dt} {pre : ι → Prop} {c : ι → Nat} {post : ι → Dt → Prop} {vs : List V} {H : Hp} {Q : VK} {E : XK} (h : spF K n args pre c post vs H Q E) : vs.length = n + 1 := by
  obtain ⟨B, i, ws, l, ks, kvs, m, rfl, _, hd, hn, _⟩ := h
  rw [List.length_cons, hd.len, hn]
section
variable {K : PySem.W.Frag} {F : Fr} {sl sl1 sl2 sl' : List Slot} {te ta tb : TE} {a : Addr} {d : Dt} {ds : List Dt}
def EvFP (K : PySem.W.Frag) (F : Fr) (sl : List Slot) (te : TE) (sl' : List Slot) (a : Addr) (P : Dt → Prop) : Prop := ∀ σ B H, SA K F sl σ B H → ∀ Q : VK, (∀ d v B' H', P d → SA K F sl' σ B' H' → Sd a B H B' H' → D K B' v d → Q v H') → te σ H Q
def EvFA (K : PySem.W.Frag) (F : Fr) (sl : List Slot) (tas : TA) (sl' : List Slot) (a : Addr) (P : List Dt → Prop) : Prop := ∀ σ B H, SA K F sl σ B H → ∀ Q : List V → Hp → Prop, (∀ ds vs B' H', P ds → SA K F sl' σ B' H' → Sd a B H B' H' → Ds K B' vs ds → Q vs H') → tas σ H Q
def EvFL (K : PySem.W.Frag) (F : Fr) (sl : List Slot) (te : TE) (sl' : List Slot) (a : Addr) (P : List Dt → Prop) : Prop := ∀ σ B H, SA K F sl σ B H → ∀ Q : VK, (∀ ds l xs B' H', P ds → SA K F sl' σ B' H' → Sd a B H B' H' → H' l = some (.lst xs) → Ds K B' xs ds → B' l = none → H l = none → (∀ (i : Nat) (t : Slot), sl'[i]? = some t → t.own = true → σ[i]? ≠ some (some (.ref l))) → Q (.ref l) H') → te σ H Q
def PI (P : Int → Prop) (d : Dt) : Prop := ∃ i, d = .int i ∧ P i
theorem ef_p {P : Dt → Prop} (h : EvP K F sl te P) : EvFP K F sl te sl a P := fun σ B H s Q q => h σ B H s Q fun d v B' H' p s' e dv => q d v B' H' p s' e.sd dv
theorem ef_d (h : EvD K F sl te d) : EvFP K F sl te sl a (fun e => e = d) := ef_p h.p
theorem ef_imp {P R : Dt → Prop} (h : EvFP K F sl te sl' a P) (pr : ∀ d, P d → R d) : EvFP K F sl te sl' a R := fun σ B H s Q q => h σ B H s Q fun d v B' H' p => q d v B' H' (pr d p)
theorem ef_i {i : Int} (h : EvD K F sl te (.int i)) : EvFP K F sl te sl a (PI fun j => j = i) := ef_imp (ef_d h) fun d e => ⟨i, e, rfl⟩
theorem ef_op {C : Int → Int → Prop} {g : Int → Int → Int} {P R S : Int → Prop} (ha : EvFP K F sl ta sl1 a (PI P)) (hb : EvFP K F sl1 tb sl2 a (PI R)) (hs : ∀ i j, P i → R j → C i j ∧ S (g i j)) : EvFP K F sl (tOp (rI C fun i j => .int (g i j)) ta tb) sl2 a (PI S) := fun σ B H s Q q =>
  ha σ B H s _ fun d1 v1 B1 H1 p1 s1 e1 dv1 => hb σ B1 H1 s1 _ fun d2 v2 B2 H2 p2 s2 e2 dv2 => by
    obtain ⟨i, rfl, pi⟩ := p1
    obtain ⟨j, rfl, rj⟩ := p2
    cases dv1; cases dv2
    obtain ⟨c, sij⟩ := hs i j pi rj
    exact ⟨i, j, rfl, rfl, c, q _ _ B2 H2 ⟨_, rfl, sij⟩ s2 (e1.trans e2) (.int _)⟩
theorem ef_op0 {g : Int → Int → Int} {P R S : Int → Prop} (ha : EvFP K F sl ta sl1 a (PI P)) (hb : EvFP K F sl1 tb sl2 a (PI R)) (hs : ∀ i j, P i → R j → S (g i j)) : EvFP K F sl (tOp (rI0 fun i j => .int (g i j)) ta tb) sl2 a (PI S) := fun σ B H s Q q =>
  ha σ B H s _ fun d1 v1 B1 H1 p1 s1 e1 dv1 => hb σ B1 H1 s1 _ fun d2 v2 B2 H2 p2 s2 e2 dv2 => by
    obtain ⟨i, rfl, pi⟩ := p1
    obtain ⟨j, rfl, rj⟩ := p2
    cases dv1; cases dv2
    exact ⟨i, j, rfl, rfl, q _ _ B2 H2 ⟨_, rfl, hs i j pi rj⟩ s2 (e1.trans e2) (.int _)⟩
theorem ef_eqI {P : Int → Prop} {j : Int} (ha : EvFP K F sl ta sl1 a (PI P)) (hb : EvD K F sl1 tb (.int j)) : EvFP K F sl (tOp rEq ta tb) sl1 a (fun d => ∃ b, d = .bl b) := fun σ B H s Q q =>
  ha σ B H s _ fun d1 v1 B1 H1 p1 s1 e1 dv1 => by
    obtain ⟨i, rfl, pi⟩ := p1
    refine hb σ B1 H1 s1 _ fun v2 B2 H2 s2 e2 dv2 => ?_
    cases dv1; cases dv2
    exact ⟨rfl, q _ _ B2 H2 ⟨_, rfl⟩ s2 (e1.trans e2.sd) (.bl _)⟩
theorem ef_neg {P S : Int → Prop} (ha : EvFP K F sl ta sl1 a (PI P)) (hs : ∀ i, P i → S (-i)) : EvFP K F sl (tUn (rU fun i => .int (-i)) ta) sl1 a (PI S) := fun σ B H s Q q =>
  ha σ B H s _ fun d1 v1 B1 H1 p1 s1 e1 dv1 => by
    obtain ⟨i, rfl, pi⟩ := p1
    cases dv1
    exact ⟨i, rfl, q _ _ B1 H1 ⟨_, rfl, hs i pi⟩ s1 e1 (.int _)⟩
/-! arguments, displays -/
theorem efa_nil {R : List Dt → Prop} (h : R []) : EvFA K F sl tNil sl a R := fun σ B H s Q q => q [] [] B H h s Sd.refl .nil
theorem efa_cons {tas : TA} {P : Dt → Prop} {R : List Dt → Prop} (ha : EvFP K F sl te sl1 a P) (hr : ∀ d, P d → EvFA K F sl1 tas sl2 a (fun ds => R (d :: ds))) : EvFA K F sl (tCons te tas) sl2 a R := fun σ B H s Q q =>
  ha σ B H s _ fun d v B1 H1 p1 s1 e1 dv => hr d p1 σ B1 H1 s1 _ fun ds vs B2 H2 p2 s2 e2 dvs => q (d :: ds) (v :: vs) B2 H2 p2 s2 (e1.trans e2) (.cons (dv.up e2.e) dvs)
theorem efa_d {tas : TA} {R : List Dt → Prop} (ha : EvD K F sl te d) (hr : EvFA K F sl tas sl2 a (fun ds => R (d :: ds))) : EvFA K F sl (tCons te tas) sl2 a R :=
  efa_cons (ef_d ha) fun e he => by rw [he]; exact hr
theorem ef_tup {tas : TA} {R : List Dt → Prop} (h : EvFA K F sl tas sl' a R) (hz : ∀ ds, R ds → ds.length ≤ 100000) : EvFP K F sl (tTup tas) sl' a (fun d => ∃ ds, d = .tup ds ∧ R ds) := fun σ B H s Q q =>
  h σ B H s _ fun ds vs B1 H1 p1 s1 e1 dvs => ⟨by rw [dvs.len]; exact Nat.le_trans (hz ds p1) (by decide), fun p hp => by
    obtain ⟨s2, e2⟩ := s1.new' (o := .tup vs) hp
    exact q _ _ _ _ ⟨ds, rfl, p1⟩ s2 (e1.trans e2.sd) (.tup (SqT.of upd_same) (dvs.up e2.e))⟩
theorem efl_lst {tas : TA} {R : List Dt → Prop} (h : EvFA K F sl tas sl' a R) (hz : ∀ ds, R ds → ds.length ≤ 100000) : EvFL K F sl (tLst tas) sl' a R := fun σ B H s Q q =>
  h σ B H s _ fun ds vs B1 H1 p1 s1 e1 dvs => ⟨by rw [dvs.len]; exact Nat.le_trans (hz ds p1) (by decide), fun p hp => by
    obtain ⟨s2, e2⟩ := s1.newO' (o := .lst vs) hp
    have hp0 : H p = none := by
      cases e : H p with
      | none => rfl
      | some o => exact absurd hp (e1.there (by rw [e]; exact fun q => nomatch q))
    exact q ds p vs B1 _ p1 s2 (e1.trans e2.sd) upd_same dvs (s1.bh.free hp) hp0 (s1.notOwn hp)⟩
theorem EvFL.fz {R : List Dt → Prop} (h : EvFL K F sl te sl' a R) : EvFP K F sl te sl' a (fun d => ∃ ds, d = .lst ds ∧ R ds) := fun σ B H s Q q =>
  h σ B H s _ fun ds l xs B1 H1 p1 s1 e1 hl x1 bl hl0 hn => by
    have s2 := s1.seal bl hl (s.h0free hl0) hn
    have e2 : Same B1 (upd B1 l (.lst xs)) := Same.new bl
    refine q _ _ _ _ ⟨ds, rfl, p1⟩ s2 ⟨e1.e.trans e2, e1.g, fun x n b => ?_, e1.t⟩ (.lst upd_same (x1.up e2))
    have na : x ≠ l := fun z => n (z ▸ hl0)
    rw [upd_ne na]; exact e1.n x n b
/-- xs[i] -/
theorem ef_ixL {R : List Dt → Prop} {P : Int → Prop} {S : Dt → Prop} (ha : EvFP K F sl ta sl1 a (fun d => ∃ ds, d = .lst ds ∧ R ds)) (hb : EvFP K F sl1 tb sl2 a (PI P)) (hs : ∀ ds i, R ds → P i → ∃ d, L2.atI ds i = some d ∧ S d) : EvFP K F sl (tOp (rIxL K) ta tb) sl2 a S := fun σ B H s Q q =>
  ha σ B H s _ fun d1 v1 B1 H1 p1 s1 e1 dv1 => hb σ B1 H1 s1 _ fun d2 v2 B2 H2 p2 s2 e2 dv2 => by
    obtain ⟨ds, rfl, r⟩ := p1
    obtain ⟨i, rfl, pi⟩ := p2
    obtain ⟨d, hd, sd⟩ := hs ds i r pi
    cases dv2
    cases dv1.up e2.e with
    | @lst l xs _ h1 h2 =>
      obtain ⟨v, h3, h4⟩ := h2.atI hd
      exact ⟨l, xs, i, v, rfl, rfl, SqL.of (s2.bh _ _ h1), h3, q d v B2 H2 sd s2 (e1.trans e2) h4⟩
/-- text[i] -/
theorem ef_ixS {z : Str} {P : Int → Prop} {S : Dt → Prop} (ha : EvD K F sl ta (.str z)) (hb : EvFP K F sl tb sl2 a (PI P)) (hz : z.length ≤ 100000) (hs : ∀ i, P i → ∃ c, L2.atI z.cps.toList i = some c ∧ S (.str ⟨#[c]⟩)) : EvFP K F sl (tOp rIxS ta tb) sl2 a S := fun σ B H s Q q =>
  ha σ B H s _ fun v1 B1 H1 s1 e1 dv1 => hb σ B1 H1 s1 _ fun d2 v2 B2 H2 p2 s2 e2 dv2 => by
    obtain ⟨i, rfl, pi⟩ := p2
    obtain ⟨c, hc, sc⟩ := hs i pi
    cases dv1; cases dv2
    exact ⟨z, i, c, rfl, rfl, Nat.le_trans hz (by decide), hc, q _ _ B2 H2 sc s2 (e1.sd.trans e2) (.str _)⟩
/-- a call of a def of data, its arguments drawn -/
theorem ef_call {tas : TA} {n : Nat} {ι : Type} {args : ι → List Dt} {pre : ι → Prop} {post : ι → Dt → Prop} {E : XK} {S : Dt → Prop} (ha : EvFA K F sl tas sl' a (fun ds => ∃ i, ds = args i ∧ (args i).length = n ∧ pre i ∧ ∀ d, post i d → S d)) : EvFP K F sl (tCall (spI K n args pre post) [] E tas) sl' a S := fun σ B H s Q q =>
  ha σ B H s _ fun ds vs B1 H1 p1 s1 e1 x1 => by
    obtain ⟨i, rfl, hn, hp, hs⟩ := p1
    refine ⟨B1, i, s1.bh, by rw [List.append_nil]; exact x1, hn, hp, fun v d B' H' st b' dv po => ?_⟩
    exact q d v B' H' (hs d po) (s1.to st b') (e1.trans st.sd) dv
/-- a call that draws -/
theorem ef_callF {tas : TA} {j m n : Nat} {ι : Type} {args : ι → List Dt} {pre : ι → Prop} {c : ι → Nat} {post : ι → Dt → Prop} {E : XK} (i : ι) (hj : sl[j]? = some (.fd a m)) (ha : EvAs K F sl tas (args i)) (hp : pre i) (hc : m + c i ≤ 100000) (hn : (args i).length = n := by rfl) :
    EvFP K F sl (tCall (spF K n args pre c post) [] E (tCons (tVar j) tas)) (sl.set j (.fd a (m + c i))) a (post i) := fun σ B H s Q q => by
  obtain ⟨o, eo, l, ks, rfl, hl, ⟨kvs, hk, fo⟩, rfl⟩ := s.ok j _ hj
  refine ⟨.ref l, eo, ha σ B H s _ fun vs B1 H1 s1 e1 x1 => ?_⟩
  have bl1 : B1 l = none := (s1.ow j _ l hj rfl eo).1
  refine ⟨B1, i, vs, l, ks, kvs, m, by rw [List.append_nil], s1.bh, x1, hn, e1.g _ _ hl, bl1, hk.up e1.e, fo, hc, hp, fun v d B' H' ks' kvs' sd b' hl' bl' hk' fo' dv po => ?_⟩
  refine q d v B' H' po (s1.callA hj rfl eo sd.e b' sd.n sd.g ⟨l, ks', rfl, hl', ⟨kvs', hk', fo'⟩, rfl⟩ rfl (by rw [hl']; exact fun z => nomatch z)) (e1.sd.trans sd) dv
/-! statements -/
variable {ts tu : TS} {P : Po}
theorem rn_asgF {i : Nat} {R : Dt → Prop} (h : EvFP K F sl te sl' a R) (k : ∀ d, R d → P.nx (sl'.set i (.fz d))) (hi : ∃ s, sl'[i]? = some s := by exact ⟨_, rfl⟩) : Rn K F sl (tAsg te (gName i)) P := fun σ B H E s t => h σ B H s _ fun d v B1 H1 r s1 e1 dv =>
  t.nx _ _ B1 H1 (k d r) (s1.set (ix_lt hi) dv) e1.e
theorem rn_asgFL {i : Nat} {R : List Dt → Prop} (h : EvFL K F sl te sl' a R) (k : ∀ ds, R ds → P.nx (sl'.set i (.ow ds))) (hi : ∃ s, sl'[i]? = some s := by exact ⟨_, rfl⟩) : Rn K F sl (tAsg te (gName i)) P := fun σ B H E s t => h σ B H s _ fun ds l xs B1 H1 r s1 e1 hl x1 bl hl0 hn =>
  t.nx _ _ B1 H1 (k ds r) (s1.setO (ix_lt hi) ⟨l, xs, rfl, hl, x1⟩ bl (.inl (s.h0free hl0)) hn) e1.e
theorem rn_retF {R : Dt → Prop} (h : EvFP K F sl te sl' a R) (k : ∀ d, R d → P.rt d sl') : Rn K F sl (tRet te) P := fun σ B H E s t => h σ B H s _ fun d v B1 H1 r s1 e1 dv => t.rt d sl' v σ B1 H1 (k d r) s1 e1.e dv
theorem rn_ifF (h : EvFP K F sl te sl' a (fun d => ∃ b, d = .bl b)) (h1 : Rn K F sl' ts P) (h2 : Rn K F sl' tu P) : Rn K F sl (tIfS (tTest te) ts tu) P := fun σ B H E s t => h σ B H s _ fun d v B1 H1 r s1 e1 dv => by
  obtain ⟨b, rfl⟩ := r
  cases dv
  refine ⟨b, rfl, ?_⟩
  cases b with
  | true => rw [if_pos rfl]; exact h1 σ B1 H1 E s1 (t.up e1.e)
  | false => rw [if_neg Bool.false_ne_true]; exact h2 σ B1 H1 E s1 (t.up e1.e)
/-- x[n] = e, e drawn -/
theorem rn_setLF {i : Nat} {R : Dt → Prop} {n : Int} {j : Nat} {ds : List Dt} (hs : sl'[i]? = some (.ow ds)) (h : EvFP K F sl te sl' a R) (hn : EvD K F sl' tb (.int n)) (hj : ixN ds.length n = some j) (k : ∀ d, R d → P.nx (sl'.set i (.ow (ds.set j d)))) : Rn K F sl (tAsg te (gSub (tVar i) tb rSetL)) P := fun σ B H E s t => h σ B H s _ fun d v B1 H1 r s1 e1 dv => by
  obtain ⟨o, eo, l, xs, rfl, hl, hx⟩ := s1.ok i _ hs
  refine ⟨.ref l, eo, hn σ B1 H1 s1 _ fun w B2 H2 a2 e2 dn => ?_⟩
  cases dn
  refine ⟨l, xs, n, j, rfl, rfl, e2.g _ _ hl, by rw [hx.len]; exact hj, ?_⟩
  exact t.nx _ _ B2 _ (k d r) (a2.mut hs rfl eo ⟨l, xs.set j v, rfl, upd_same, (hx.up e2.e).set (dv.up e2.e) j⟩ rfl) (e1.e.trans e2.e)
/-- x.append(e), e drawn -/
theorem rn_appF {i : Nat} {R : Dt → Prop} {ds : List Dt} (hs : sl[i]? = some (.ow ds)) (hs' : sl'[i]? = some (.ow ds)) (h : EvFP K F sl te sl' a R) (hz : ds.length < 100000) (k : ∀ d, R d → P.nx (sl'.set i (.ow (ds ++ [d])))) : Rn K F sl (tDrop (tBM K "list" rAppend (tVar i) (tCons te tNil))) P := fun σ B H E s t => by
  obtain ⟨o, eo, l, xs, rfl, hl, hx⟩ := s.ok i _ hs
  refine ⟨.ref l, eo, .inl ⟨rfl, xs, SqL.of hl⟩, h σ B H s _ fun d v B1 H1 r s1 e1 dv => ?_⟩
  obtain ⟨o', eo', l', xs', e', hl', hx'⟩ := s1.ok i _ hs'
  rw [eo] at eo'
  cases eo'
  cases e'
  refine ⟨l, xs', v, rfl, rfl, hl', by rw [hx'.len]; exact Nat.lt_trans hz (by decide), ?_⟩
  exact t.nx _ _ B1 _ (k d r) (s1.mut hs' rfl eo ⟨l, xs' ++ [v], rfl, upd_same, hx'.app (.cons dv .nil)⟩ rfl) e1.e
end
/-! the feed opened -/
section
variable {K : PySem.W.Frag} {F : Fr} {sl : List Slot} {te ta tb : TE} {a : Addr} {d : Dt} {ts : TS} {P : Po}
theorem rn_open {i m : Nat} (hs : sl[i]? = some (.fd a m)) (h : ∀ kvs, FeedOk m kvs → Rn K F (sl.set i (.oda a kvs)) ts P) : Rn K F sl ts P := fun σ B H E s t => by
  obtain ⟨o, eo, l, ks, rfl, hl, ⟨kvs, hk, fo⟩, rfl⟩ := s.ok i _ hs
  exact h kvs fo σ B H E (s.callA hs rfl eo (Same.refl B) s.bh (fun _ _ b => b) (fun _ _ _ e => e) ⟨l, ks, rfl, hl, hk, rfl⟩ rfl (by rw [hl]; exact fun z => nomatch z)) t
theorem rk_oda {i : Nat} {kvs : List (Str × Dt)} (h : sl[i]? = some (.oda a kvs)) : EvRk K F sl (tVar i) kvs := fun σ B H s Q q => by
  obtain ⟨o, e, l, xs, rfl, hl, hx, _⟩ := s.ok i _ h
  exact ⟨.ref l, e, q l xs B H s Stp.refl hl hx⟩
theorem rn_dputA {i : Nat} {k : Str} {kvs : List (Str × Dt)} (hs : sl[i]? = some (.oda a kvs)) (h : EvD K F sl te d) (hk : EvD K F sl tb (.str k)) (hz : kvs.length < 100000) (q : P.nx (sl.set i (.oda a (dput kvs k d)))) : Rn K F sl (sDPut (tVar i) tb te) P := fun σ B H E s t => by
  obtain ⟨o, eo, l, xs, rfl, hl, hx, rfl⟩ := s.ok i _ hs
  refine h σ B H s _ fun v B1 H1 a1 e1 dv => ⟨.ref l, eo, hk σ B1 H1 a1 _ fun w B2 H2 a2 e2 dn => ?_⟩
  cases dn
  have e12 := e1.trans e2
  refine ⟨l, _, rfl, DPut.k (k := Sum.inr k) (e12.g _ _ hl) (by rw [hx.len]; exact Nat.lt_trans hz (by decide)), ?_⟩
  exact t.nx _ _ B2 _ q (a2.mut hs rfl eo ⟨l, _, rfl, upd_same, (hx.up e12.e).put k (dv.up e2.e), rfl⟩ rfl) e12.e
end
/-- the feed's slot at the end -/
def FdAt (s : List Slot) (l : Addr) (m : Nat) : Prop := (∃ m', m' ≤ m ∧ s[0]? = some (.fd l m')) ∨ ∃ kvs, s[0]? = some (.oda l kvs) ∧ FeedOk m kvs
theorem fd_at {s : List Slot} {l : Addr} {m m' : Nat} (h : s[0]? = some (.fd l m')) (hm : m' ≤ m) : FdAt s l m := .inl ⟨m', hm, h⟩
section
variable {P : Program} {w : World} {K : PySem.W.Frag} {mg : Str → Option Value} {base : Heap}
theorem Df.calF {x : Str} {st : Stmt} {N ps : List Str} {k n : Nat} {ι : Type} {args : ι → List Dt} {pre : ι → Prop} {c : ι → Nat} {post : ι → Dt → Prop} (D : Df K mg x st ps) (S : FnScope N ps (defScope st)) (hn : ps.length = n + 1)
    (hbody : ∀ (f : Addr) (cdv : Value) (A : Around) (outer : List Env) (s : Shared) (H : Hp) (E : XK), Room k (A.deeper (envOfC x (defScope st) s.heap.objs.size f cdv)) →
      ∃ t, PSs (cxOf CX0 P w K mg base N x (defScope st) f cdv A outer s H E).nox (defBody st) t ∧ ∀ B H l m i, pre i → m + c i ≤ 100000 → Rn K ⟨B, H, fun a => a = l⟩ (.fd l m :: ((args i).map .fz ++ List.replicate (N.length - (n + 1)) .un)) t { nx := fun s => FdAt s l (m + c i) ∧ post i .non, rt := fun d s => FdAt s l (m + c i) ∧ post i d }) :
    Cal P w K mg base (k + 1) x (spF K n args pre c post) := by
  obtain ⟨f, fd, F, hm, b⟩ := D.ex
  refine ⟨f, fd, ps, ?_, hm, F.kp, b⟩
  refine F.ok S (fun vs H Q E h => (spF_len h).trans hn.symm) (fun cdv A outer s H vs Q E hr h => ?_)
  obtain ⟨t, h1, h2⟩ := hbody f cdv A outer s H E hr
  refine ⟨t, h1, ?_⟩
  obtain ⟨B, i, ws, l, ks, kvs, m, rfl, hB, hd, hl, hl1, bl, hk, fo, hc, hp, kk⟩ := h
  have a0 := SA.initW (fun a => a = l) hB (Ds.cons (.non) hd) (N.length - (n + 1))
  have no : ∀ (j : Nat) (t : Slot), ((Dt.non :: args i).map Slot.fz ++ List.replicate (N.length - (n + 1)) Slot.un)[j]? = some t → t.own = true → ((V.non :: ws).map some ++ List.replicate (N.length - (n + 1)) (none : Option V))[j]? ≠ some (some (.ref l)) := fun j t ht ho => by
    exfalso
    have hm := List.mem_of_getElem? ht
    rcases List.mem_append.mp hm with z | z
    · obtain ⟨d, _, rfl⟩ := List.mem_map.mp z; cases ho
    · rw [(List.mem_replicate.mp z).2] at ho; cases ho
  have a : SA K ⟨B, H, fun a => a = l⟩ (.fd l m :: ((args i).map .fz ++ List.replicate (N.length - (n + 1)) .un)) (L2.start N (.ref l :: ws)) B H := by
    have := a0.setO (i := 0) (l := l) (s := .fd l m) (by simp) ⟨l, ks, rfl, hl1, ⟨kvs, hk, fo⟩, rfl⟩ bl (.inr rfl) no
    unfold L2.start
    rw [List.length_cons, hd.len, hl]
    exact this
  have fin : ∀ {s σ B' H' d v}, SA K ⟨B, H, fun a => a = l⟩ s σ B' H' → FdAt s l (m + c i) → FZ.D K B' v d → post i d → Q v H' := fun {s σ B' H' d v} a' f dv po => by
    have sd : Sd l B H B' H' := ⟨a'.b0, fun x o nl q => a'.kp x o q nl, fun x h0 b0 => a'.nn x h0 b0, fun h => a'.th l h⟩
    rcases f with ⟨m', hm', f⟩ | ⟨kvs', f, fo'⟩
    · obtain ⟨o, eo, l', ks', e', hl', ⟨kvs', hk', fo'⟩, rfl⟩ := a'.ok 0 _ f
      subst e'
      exact kk v d B' H' ks' kvs' sd a'.bh hl' (a'.ow 0 _ l' f rfl eo).1 hk' (fo'.mono hm') dv po
    · obtain ⟨o, eo, l', ks', e', hl', hk', rfl⟩ := a'.ok 0 _ f
      subst e'
      exact kk v d B' H' ks' kvs' sd a'.bh hl' (a'.ow 0 _ l' f rfl eo).1 hk' fo' dv po
  exact h2 B H l m i hp hc _ B H _ a ⟨fun s σ B' H' p a' z => fin a' p.1 .non p.2, fun d s v σ B' H' p a' z dv => fin a' p.1 dv p.2, fun s σ B' H' p a' z => p, fun s σ B' H' p a' z => p⟩
end
end FZ
set_option maxHeartbeats 2000000
namespace FZ
open PySem PySem.Spec PyProof.Rows L2
/-! text * int, join -/
def repS (z : Str) (n : Nat) : Str := if n = 1 then z else ⟨(List.replicate n z.cps).foldl (· ++ ·) #[]⟩
def rRepS : R2 := fun x y H Q => ∃ z i, x = .str z ∧ y = .int i ∧ z.length = 1 ∧ 1 ≤ i ∧ i ≤ 100 ∧ Q (.str (repS z i.toNat)) H
theorem foldl_len (c : Nat) (cps : Array Nat) (h : cps.size = 1) : ∀ (n : Nat) (acc : Array Nat), ((List.replicate n cps).foldl (· ++ ·) acc).size = acc.size + n
  | 0, acc => rfl
  | n + 1, acc => by
    rw [List.replicate_succ, List.foldl_cons, foldl_len c cps h n, Array.size_append, h]
    omega
theorem repS_len {z : Str} (h : z.length = 1) (n : Nat) : (repS z n).cps.size = n := by
  have h' : z.cps.size = 1 := h
  unfold repS
  split
  · rename_i e; rw [h', e]
  · show ((List.replicate n z.cps).foldl (· ++ ·) #[]).size = n
    rw [foldl_len 0 z.cps h' n]
    simp
theorem op_repS {X : Cx} : OpR X (binaryOp .Mult) rRepS := by
  intro pins s σ H x y v u Q I rx ry h
  obtain ⟨z, i, rfl, rfl, hz, h1, h2, q⟩ := h
  obtain ⟨t, rfl⟩ := rx
  obtain ⟨t', rfl⟩ := ry
  have a1 : ¬ i < 1 := by omega
  refine P.mul_str ?_ (fun _ _ => ?_) (fun _ _ => ?_) ?_
  · rw [decide_eq_false (show ¬ i < -(2 ^ 63 : Int) by omega), decide_eq_false (show ¬ i ≥ 2 ^ 63 by omega)]; rfl
  · rw [hz]
    have : i = 1 ∨ i = 2 ∨ 3 ≤ i := by omega
    intro hh
    have e : (1 : Int) * i ≤ 2 ^ 63 - 1 := by omega
    have := (Int.le_ediv_iff_mul_le (a := (1 : Int)) (b := 2 ^ 63 - 1) (c := i) (by omega)).mpr e
    omega
  · rw [hz]
    unfold Builtin.Str.tooLong
    rw [sizeLine_eq]
    simp
    omega
  · rw [if_neg a1]
    by_cases e : i = 1
    · subst e
      rw [if_pos (by rfl)]
      have : repS z (1 : Int).toNat = z := by unfold repS; rw [if_pos (by rfl)]
      rw [this] at q
      exact ⟨.str z, H, I, ⟨_, rfl⟩, q⟩
    · have hne : (i == 1 || z.length == 0) = false := by
        rw [hz]
        simp [e]
      rw [hne, if_neg Bool.false_ne_true]
      have hn1 : i.toNat ≠ 1 := by omega
      have er : repS z i.toNat = ⟨(List.replicate i.toNat z.cps).foldl (· ++ ·) #[]⟩ := by unfold repS; rw [if_neg hn1]
      refine ⟨?_, ?_⟩
      · have := repS_len hz i.toNat
        rw [er] at this
        show Array.size _ ≤ _
        rw [this, sizeLine_eq]
        omega
      · rw [← er]
        exact ⟨.str _, H, I.tok _, ⟨_, rfl⟩, q⟩
def rJoin (K : PySem.W.Frag) : V → List V → Hp → VK → Prop := fun x xs H Q => ∃ a p, ∃ ys : List Str, x = .str a ∧ xs = [.ref p] ∧ (SqL K H p (ys.map V.str) ∨ SqT K H p (ys.map V.str)) ∧ (ys.map (·.length)).sum + ys.length * a.length ≤ 16777216 ∧ Q (.str (Txt.join a ys)) H
theorem pe_joinK {X : Cx} (K : PySem.W.Frag) (hK : X.K = K) {o e : Expr} {to te : TE} {apos pos : Pos} (ho : PE X o to) (he : PE X e te) (hs : starEach [e] X.env = [(false, eval e X.env)] := by rfl) (hbase : attributeBase o "join" X.env (eval o X.env) = eval o X.env := by rfl) (hline : (apos.endLine == pos.line) = true := by rfl) :
    PE X (.Call (.Attribute o "join" apos) [e] [] pos) (tM1 (rJoin K) to te) := by subst hK; exact pe_join ho he hs hbase hline
section
variable {K : PySem.W.Frag} {F : Fr} {sl : List Slot} {ta tb te : TE}
theorem ev_repS {z : Str} {i : Int} (ha : EvD K F sl ta (.str z)) (hb : EvD K F sl tb (.int i)) (hz : z.length = 1) (h1 : 1 ≤ i) (h2 : i ≤ 100) : EvD K F sl (tOp rRepS ta tb) (.str (repS z i.toNat)) :=
  ev_op ha hb fun x y B H e hx hy Q q => by cases hx; cases hy; exact ⟨z, i, rfl, rfl, hz, h1, h2, q _ (.str _)⟩
theorem ev_join {a : Str} {ys : List Str} (ha : EvD K F sl ta (.str a)) (hb : EvRd K F sl tb (ys.map Dt.str)) (hz : (ys.map (·.length)).sum + ys.length * a.length ≤ 16777216) : EvD K F sl (tM1 (rJoin K) ta tb) (.str (Txt.join a ys)) := fun σ B H s Q q =>
  ha σ B H s _ fun v B1 H1 a1 e1 x1 => by
    cases x1
    refine ⟨⟨a, rfl⟩, hb σ B1 H1 a1 _ fun l xs B2 H2 a2 e2 hl y2 => ?_⟩
    have ex := y2.strs
    subst ex
    exact ⟨a, l, ys, rfl, rfl, .inl (SqL.of hl), hz, q _ B2 H2 a2 (e1.trans e2) (.str _)⟩
end
theorem join_cps (ys : List Str) : (Txt.join "" ys).cps.toList = ys.flatMap fun y => y.cps.toList := by
  rw [TL.join_eq]
  have h := TL.tl_join ("" : Str) ys
  have h0 : TL.tl ("" : Str) = [] := rfl
  rw [h0] at h
  have j : ∀ ps : List (List Nat), TL.joinL [] ps = ps.flatten := fun ps => by
    induction ps with
    | nil => rfl
    | cons p ps ih =>
      cases ps with
      | nil => simp [TL.joinL]
      | cons q r =>
        show p ++ ([] ++ TL.joinL [] (q :: r)) = _
        rw [ih]; simp
  rw [j] at h
  have h' : (Str.join "" ys).cps.toList = (ys.map TL.tl).flatten := h
  rw [h', List.flatMap_def]
/-! a comprehension over a range, both drawn -/
section
variable {K : PySem.W.Frag} {F : Fr} {sl : List Slot} {σ σ' : L2.St} {B H : Hp} {te ts_ : TE} {a : Addr}
theorem SA.reun {j : Nat} (h : SA K F sl σ B H) (hu : sl[j]? = some .un) (hl : σ'.length = σ.length) (he : ∀ i, i ≠ j → σ'[i]? = σ[i]?) : SA K F sl σ' B H := by
  have ne : ∀ {i : Nat} {s : Slot}, sl[i]? = some s → s.own = true → i ≠ j := fun {i s} hs ho z => by
    subst z
    rw [hu] at hs
    cases hs
    cases ho
  refine ⟨hl.trans h.len, fun i s hs => ?_, fun i s l hs ho e => h.ow i s l hs ho (by rw [← he i (ne hs ho)]; exact e), fun i k s t l h1 h2 o1 o2 e1 e2 => h.dis i k s t l h1 h2 o1 o2 (by rw [← he i (ne h1 o1)]; exact e1) (by rw [← he k (ne h2 o2)]; exact e2), h.b0, h.bh, h.nn, h.kp, h.th⟩
  by_cases z : i = j
  · subst z
    rw [hu] at hs
    cases hs
    obtain ⟨o, eo, _⟩ := h.ok i _ hu
    have : i < σ'.length := by
      rw [hl]
      exact (List.getElem?_eq_some_iff.mp eo).1
    exact ⟨σ'[i], List.getElem?_eq_getElem this, trivial⟩
  · rw [he i z]; exact h.ok i s hs
theorem SA.fdUp {j n m : Nat} (h : SA K F sl σ B H) (hs : sl[j]? = some (.fd a n)) (hm : n ≤ m) : SA K F (sl.set j (.fd a m)) σ B H := by
  obtain ⟨o, eo, l, ks, rfl, hl, ⟨kvs, hk, fo⟩, rfl⟩ := h.ok j _ hs
  exact h.callA hs rfl eo (Same.refl B) h.bh (fun _ _ b => b) (fun _ _ _ e => e) ⟨l, ks, rfl, hl, ⟨kvs, hk, fo.mono hm⟩, rfl⟩ rfl (by rw [hl]; exact fun z => nomatch z)
theorem el_rngF {jf jv n0 c M : Nat} {R : Int → Prop} {E : Dt → Prop} (hf : ∃ n, sl[jf]? = some (.fd a n)) (hu : sl[jv]? = some .un) (hs : EvFP K F sl ts_ (sl.set jf (.fd a n0)) a (PI R)) (hR : ∀ i, R i → 0 ≤ i ∧ i ≤ M) (hM : M ≤ 1000)
    (he : ∀ i : Nat, i < M → EvFP K F ((sl.set jf (.fd a (n0 + i * c))).set jv (.fz (.int (i : Nat)))) te ((sl.set jf (.fd a (n0 + (i + 1) * c))).set jv (.fz (.int (i : Nat)))) a E) :
    EvFL K F sl (tLc (iRng1 (tCons ts_ tNil)) (gName jv) tYes te [jv]) (sl.set jf (.fd a (n0 + M * c))) a (fun ds => R ds.length ∧ ∀ d ∈ ds, E d) := fun σ B H s Q q => by
  obtain ⟨nf, hf⟩ := hf
  have hne : jv ≠ jf := fun z => by rw [z, hf] at hu; cases hu
  have hjl : jf < sl.length := (List.getElem?_eq_some_iff.mp hf).1
  have hvl : jv < sl.length := (List.getElem?_eq_some_iff.mp hu).1
  have hun : ∀ n, (sl.set jf (.fd a n))[jv]? = some .un := fun n => by rw [List.getElem?_set_ne (Ne.symm hne)]; exact hu
  have hfd : ∀ n, (sl.set jf (.fd a n))[jf]? = some (.fd a n) := fun n => List.getElem?_set_self hjl
  refine hs σ B H s _ fun d v B1 H1 p1 s1 e1 dv => ?_
  obtain ⟨r, rfl, pr⟩ := p1
  cases dv
  obtain ⟨r0, rM⟩ := hR r pr
  obtain ⟨rn, rfl⟩ : ∃ rn : Nat, r = (rn : Int) := ⟨r.toNat, by omega⟩
  have rM' : rn ≤ M := by omega
  refine ⟨(rn : Int), rfl, by omega, by omega, fun D hD => ?_⟩
  obtain ⟨s2, e2⟩ := s1.newO' (o := .lst []) hD
  have no : ∀ (i : Nat) (t : Slot), (sl.set jf (.fd a n0))[i]? = some t → t.own = true → σ[i]? ≠ some (some (.ref D)) := s1.notOwn hD
  have no' : ∀ n (i : Nat) (t : Slot), (sl.set jf (.fd a n))[i]? = some t → t.own = true → σ[i]? ≠ some (some (.ref D)) := fun n i t ht ho => by
    by_cases z : jf = i
    · subst z
      exact no jf _ (hfd n0) rfl
    · rw [List.getElem?_set_ne z] at ht
      exact no i t (by rw [List.getElem?_set_ne z]; exact ht) ho
  have Da : D ≠ a := fun z => by
    obtain ⟨l, el, _, _, o, hl⟩ := s1.addr (hfd n0) rfl
    obtain ⟨o', eo', l', ks', e', _, _, e3⟩ := s1.ok jf _ (hfd n0)
    rw [el] at eo'
    cases eo'
    cases e'
    rw [e3, ← z, hD] at hl
    cases hl
  have b1D : B1 D = none := s1.bh.free hD
  have h0D : F.H0 D = none := s1.h0free hD
  have hHD : H D = none := by
    cases e : H D with
    | none => rfl
    | some o => rw [e1.g D o Da e] at hD; cases hD
  refine ⟨fun i m H' => m = rn - i ∧ i ≤ rn ∧ ∃ B' acc ds, SA K F (sl.set jf (.fd a (n0 + i * c))) σ B' H' ∧ Sd a B1 H1 B' H' ∧ H' D = some (.lst acc) ∧ B' D = none ∧ Ds K B' acc ds ∧ ds.length = i ∧ ∀ d ∈ ds, E d, ⟨rn, by simp, Nat.zero_le _, B1, [], [], by rw [Nat.zero_mul, Nat.add_zero]; exact s2, e2.sd, upd_same, b1D, .nil, rfl, fun d hd => by cases hd⟩, ?_⟩
  rintro i m H' ⟨rfl, hil, B', acc, ds, a3, e3, hacc, bD, dacc, dl, dE⟩
  by_cases hlt : i < rn
  · refine .inr ⟨show i < (rn : Int).toNat by omega, fun H'' => i + 1 ≤ rn ∧ ∃ B' acc ds, SA K F (sl.set jf (.fd a (n0 + (i + 1) * c))) σ B' H'' ∧ Sd a B1 H1 B' H'' ∧ H'' D = some (.lst acc) ∧ B' D = none ∧ Ds K B' acc ds ∧ ds.length = i + 1 ∧ ∀ d ∈ ds, E d, fun H'' h => ⟨rn - (i + 1), by omega, rfl, h.1, h.2⟩, fun v H2 hy => ?_⟩
    obtain ⟨eh, ev⟩ := hy
    rw [ev, Int.zero_add, eh]
    have a5 : SA K F (sl.set jf (.fd a (n0 + i * c))) (L2.wipe σ [jv]) B' H' := a3.wipe (un1 (hun _))
    have a6 := a5.set (i := jv) (v := .int (i : Nat)) (d := .int (i : Nat)) (by rw [List.length_set]; exact hvl) (.int _)
    refine ⟨wipe_same (js := [jv]) (by rw [List.length_set]) (fun k hk => List.getElem?_set_ne (show jv ≠ k from fun z => hk (by simp [z]))) (fun _ h => h), ?_⟩
    unfold tYes
    dsimp only
    rw [if_pos rfl]
    refine he i (by omega) _ B' H' a6 _ fun d v B4 H4 pd a7 s7 dv => ?_
    have nD : H' D ≠ none := by rw [hacc]; exact fun z => nomatch z
    have h4D : H4 D = some (.lst acc) := s7.g D _ Da hacc
    have b4D : B4 D = none := s7.n D nD bD
    have a8 : SA K F (sl.set jf (.fd a (n0 + (i + 1) * c))) ((L2.wipe σ [jv]).set jv (some (.int (i : Nat)))) B4 H4 := a7.weak ⟨by rw [List.length_set], fun k t ht => by
      by_cases z : jv = k
      · subst z
        rw [hun] at ht
        cases ht
        exact .inl rfl
      · right
        rw [List.getElem?_set_ne z]
        exact ht⟩
    have a9 : SA K F (sl.set jf (.fd a (n0 + (i + 1) * c))) σ B4 H4 := a8.reun (j := jv) (hun _) (by rw [List.length_set, wipe_length]) (fun k hk => by
      rw [List.getElem?_set_ne (Ne.symm hk), wipe_get, if_neg (by simp [hk])])
    refine ⟨acc, h4D, ?_, hlt, B4, acc ++ [v], ds ++ [d], a9.mutOut b4D h0D (no' _), ?_, upd_same, b4D, (dacc.up s7.e).app (.cons dv .nil), by rw [List.length_append, dl]; rfl, fun x hx => ?_⟩
    · rw [dacc.len, dl]
      have : rn ≤ 1000 := by omega
      exact Nat.lt_of_lt_of_le (show i < 1000 by omega) (by decide)
    · have s14 := e3.trans s7
      refine ⟨s14.e, fun x o n e => ?_, fun x n b => s14.n x n b, fun h => ?_⟩
      · rw [upd_ne (fun z => by rw [z, hD] at e; cases e)]
        exact s14.g x o n e
      · rw [upd_ne (Ne.symm Da)]; exact s14.t h
    · rcases List.mem_append.mp hx with hx | hx
      · exact dE x hx
      · rw [List.mem_singleton.mp hx]; exact pd
  · have e : i = rn := by omega
    subst e
    refine .inl ⟨show (i : Int).toNat ≤ i by omega, ?_⟩
    have a4 := a3.fdUp (j := jf) (m := n0 + M * c) (hfd _) (Nat.add_le_add_left (Nat.mul_le_mul_right c rM') n0)
    rw [List.set_set] at a4
    exact q ds D acc B' H' ⟨by rw [dl]; exact pr, dE⟩ a4 (e1.trans e3) hacc dacc bD hHD (no' _)
theorem rn_freezeF {i j n : Nat} {ds : List Dt} {ts : TS} {P : Po} (hW : ∀ x, F.W x → x = a) (hj : sl[j]? = some (.fd a n)) (hs : sl[i]? = some (.ow ds)) (h : Rn K F (sl.set i (.fz (.lst ds))) ts P) : Rn K F sl ts P := fun σ B H E s t => by
  obtain ⟨l, e, _, w, _⟩ := s.addr hs rfl
  have w' : F.H0 l = none := by
    rcases w with w | w
    · exact w
    · exfalso
      have := hW l w
      subst this
      obtain ⟨o, eo, l', ks, e', _, _, rfl⟩ := s.ok j _ hj
      subst e'
      have := s.dis i j _ _ l' hs hj rfl rfl e eo
      subst this
      rw [hs] at hj
      cases hj
  obtain ⟨B', a', e', _⟩ := s.freeze hs e w'
  exact h σ B' H E a' (t.up e')
end
end FZ
set_option maxHeartbeats 2000000
namespace FZ
open PySem PySem.Spec PyProof.Rows L2
theorem pe_revLK {X : Cx} (K : PySem.W.Frag) (hK : X.K = K) {e : Expr} {te : TE} {k : Nat} {p1 p2 p3 pos : Pos} (he : PE X e te) : PE X (.Subscript e (.Slice none none (some (.UnaryOp .USub (.Constant (.int 1) k p1) p2)) p3) pos) (tRevL K te) := by subst hK; exact pe_revL he
theorem el_rev {K : PySem.W.Frag} {F : Fr} {sl : List Slot} {te : TE} {ds : List Dt} (h : EvRd K F sl te ds) : EvL K F sl (tRevL K te) ds.reverse := fun σ B H s Q q =>
  h σ B H s _ fun l xs B1 H1 a1 e1 hl x1 => ⟨l, xs, rfl, SqL.of hl, fun p hp => by
    obtain ⟨a2, e2⟩ := a1.newO' (o := .lst xs.reverse) hp
    exact q p _ B1 _ a2 (e1.trans e2) upd_same x1.rev (a1.bh.free hp) (e1.g.free hp)⟩
end FZ
set_option maxHeartbeats 2000000
/-! plain data of the program and what its defs compute -/
namespace FW
open PySem FZ
structure B4 where
  l : Int
  t : Int
  w : Int
  h : Int
structure PD where
  name : Str
  box : B4
  word : Str
  rank : Int
  head : Dt
/-- parts side by side: the first one, those within it, those behind it -/
inductive Fo where
  | nil
  | cons (p : PD) (inner rest : Fo)
def boxD (b : B4) : Dt := .tup [.int b.l, .int b.t, .int b.w, .int b.h]
def encF : Fo → List Dt
  | .nil => []
  | .cons p i r => .tup [.str p.name, boxD p.box, .str p.word, .int p.rank, p.head, .tup (encF i)] :: encF r
def encP (p : PD) (i : Fo) : Dt := .tup [.str p.name, boxD p.box, .str p.word, .int p.rank, p.head, .tup (encF i)]
abbrev shD (s : Fo) : Dt := .tup (encF s)
structure En where
  place : List Int
  p : PD
  inner : Fo
  names : List Str
def encE (e : En) : Dt := .tup [.tup (e.place.map .int), encP e.p e.inner, .lst (e.names.map .str)]
abbrev entsD (es : List En) : Dt := .lst (es.map encE)
def lay : Fo → List Int → List Str → Nat → List En
  | .nil, _, _, _ => []
  | .cons p i r, pl, ns, k => ⟨pl ++ [(k : Int)], p, i, ns⟩ :: (lay i (pl ++ [(k : Int)]) (ns ++ [p.name]) 0 ++ lay r pl ns (k + 1))
def ents (s : Fo) : List En := lay s [] [] 0
def Fo.hgt : Fo → Nat
  | .nil => 0
  | .cons _ i r => max (i.hgt + 1) r.hgt
theorem lay_bd : ∀ (s : Fo) (pl : List Int) (ns : List Str) (k : Nat) (e : En), e ∈ lay s pl ns k → e.names.length < ns.length + s.hgt ∧ e.place.length + ns.length = e.names.length + pl.length + 1 ∧ e.inner.hgt + e.names.length < ns.length + s.hgt
  | .nil, pl, ns, k, e, h => by simp [lay] at h
  | .cons p i r, pl, ns, k, e, h => by
    rw [lay, List.mem_cons, List.mem_append] at h
    rcases h with rfl | h | h
    · simp [Fo.hgt]; omega
    · have := lay_bd i _ _ _ e h
      simp [Fo.hgt] at this ⊢
      omega
    · have := lay_bd r _ _ _ e h
      simp [Fo.hgt] at this ⊢
      omega
structure Okf (s : Fo) : Prop where
  hgt : s.hgt ≤ 6
  nd : ((ents s).map fun e => e.p.name).Nodup
  sz : (ents s).length ≤ 40
theorem Okf.nl {s : Fo} (h : Okf s) {e : En} (he : e ∈ ents s) : e.names.length ≤ 6 ∧ e.place.length ≤ 7 ∧ e.place.length = e.names.length + 1 := by
  have := lay_bd s [] [] 0 e he
  have := h.hgt
  simp at *
  omega
def toL : Fo → List (PD × Fo)
  | .nil => []
  | .cons p i r => (p, i) :: toL r
theorem encF_toL : ∀ s : Fo, encF s = (toL s).map fun x => encP x.1 x.2
  | .nil => rfl
  | .cons p i r => by rw [encF, toL, List.map_cons, encF_toL r]; rfl
def layStep (pl : List Int) (ns : List Str) (es : List En) (x : (PD × Fo) × Nat) : List En := es ++ (⟨pl ++ [(x.2 : Int)], x.1.1, x.1.2, ns⟩ :: lay x.1.2 (pl ++ [(x.2 : Int)]) (ns ++ [x.1.1.name]) 0)
theorem lay_fold (pl : List Int) (ns : List Str) : ∀ (s : Fo) (k : Nat) (es : List En), ((toL s).zipIdx k).foldl (layStep pl ns) es = es ++ lay s pl ns k
  | .nil, k, es => by simp [toL, lay]
  | .cons p i r, k, es => by
    rw [toL, List.zipIdx_cons, List.foldl_cons, lay_fold pl ns r (k + 1), layStep, lay]
    simp
theorem hgt_mem : ∀ (s : Fo) (x : PD × Fo), x ∈ toL s → x.2.hgt < s.hgt
  | .nil, x, h => by simp [toL] at h
  | .cons p i r, x, h => by
    rw [toL, List.mem_cons] at h
    rcases h with rfl | h
    · simp [Fo.hgt]; omega
    · have := hgt_mem r x h
      simp [Fo.hgt]; omega
theorem nodup_inj {α β : Type} {f : α → β} : ∀ {l : List α}, (l.map f).Nodup → ∀ {a b : α}, a ∈ l → b ∈ l → f a = f b → a = b
  | [], _, _, _, h, _, _ => by simp at h
  | x :: l, nd, a, b, ha, hb, e => by
    rw [List.map_cons, List.nodup_cons] at nd
    rcases List.mem_cons.mp ha with h1 | h1
    · rcases List.mem_cons.mp hb with h2 | h2
      · rw [h1, h2]
      · exact absurd (List.mem_map.mpr ⟨b, h2, by rw [← e, h1]⟩) nd.1
    · rcases List.mem_cons.mp hb with h2 | h2
      · exact absurd (List.mem_map.mpr ⟨a, h1, by rw [e, h2]⟩) nd.1
      · exact nodup_inj nd.2 h1 h2 e
theorem Okf.inj {s : Fo} (h : Okf s) {a b : En} (ha : a ∈ ents s) (hb : b ∈ ents s) (e : a.p.name = b.p.name) : a = b := nodup_inj h.nd ha hb e
abbrev strsD (ns : List Str) : Dt := .lst (ns.map .str)
/-! boxes -/
abbrev stD (s : Int × Int) : Dt := .tup [.int s.1, .int s.2]
def across (b : B4) : Int × Int := (b.l, b.l + b.w)
def downO (b : B4) : Int × Int := (b.t, b.t + b.h)
def common (a b : Int × Int) : Bool := decide (a.1 < b.2) && decide (b.1 < a.2)
def farA (a b : Int × Int) : Int := if common a b = true then 0 else (if a.1 - b.2 > b.1 - a.2 then a.1 - b.2 else b.1 - a.2)
abbrev Near := Option (List Int)
def nearB (g : Int) (a b : Int × Int) : Near := if g < 0 then none else some [if (!common a b) = true then 1 else 0, g, farA a b]
def nearD : Near → Dt
  | none => .non
  | some ns => .tup (ns.map .int)
def nears4 (b o : B4) : List Near :=
  [nearB ((downO b).1 - (downO o).2) (across b) (across o), nearB ((downO o).1 - (downO b).2) (across b) (across o),
   nearB ((across b).1 - (across o).2) (downO b) (downO o), nearB ((across o).1 - (across b).2) (downO b) (downO o)]
/-! what is open -/
structure OpenE (s : Fo) (e : En) : Prop where
  ok : Okf s
  mem : e ∈ ents s
  free : ∀ n ∈ e.names ++ [e.p.name], ∃ e' ∈ ents s, e'.p.name = n ∧ e'.p.word = "free"
theorem dfold_len {α : Type} (f : α → Str) (g : α → Dt) : ∀ (xs : List α) (kvs : List (Str × Dt)), (xs.foldl (fun k x => dput k (f x) (g x)) kvs).length ≤ kvs.length + xs.length
  | [], kvs => Nat.le_refl _
  | x :: xs, kvs => by
    rw [List.foldl_cons, List.length_cons]
    have h1 := dfold_len f g xs (dput kvs (f x) (g x))
    have h2 := dput_len kvs (f x) (g x)
    omega
/-- a table filled by new keys -/
theorem dput_fold {α : Type} (f : α → Str) (g : α → Dt) : ∀ (xs : List α) (kvs : List (Str × Dt)), (∀ x ∈ xs, kvs.lookup (f x) = none) → (xs.map f).Nodup → xs.foldl (fun k x => dput k (f x) (g x)) kvs = kvs ++ xs.map fun x => (f x, g x)
  | [], kvs, _, _ => by simp
  | x :: xs, kvs, h, nd => by
    rw [List.map_cons, List.nodup_cons] at nd
    have e : dput kvs (f x) (g x) = kvs ++ [(f x, g x)] := by
      unfold dput
      rw [h x (List.mem_cons_self ..), if_neg (by decide)]
    rw [List.foldl_cons, e, dput_fold f g xs _ (fun y hy => ?_) nd.2]
    · simp
    · have ne : ¬ f y = f x := fun q => nd.1 (List.mem_map.mpr ⟨y, hy, q⟩)
      have e1 : (f y == f x) = false := by simpa using ne
      rw [List.lookup_append, h y (List.mem_cons_of_mem _ hy)]
      simp [List.lookup, e1]
theorem lookup_map {α : Type} (f : α → Str) (g : α → Dt) : ∀ (xs : List α), (xs.map f).Nodup → ∀ x ∈ xs, (xs.map fun x => (f x, g x)).lookup (f x) = some (g x)
  | [], _, x, h => by simp at h
  | y :: xs, nd, x, h => by
    rw [List.map_cons, List.nodup_cons] at nd
    rw [List.map_cons]
    rcases List.mem_cons.mp h with rfl | h
    · simp [List.lookup]
    · have ne : ¬ f x = f y := fun q => nd.1 (List.mem_map.mpr ⟨x, h, q⟩)
      have e1 : (f x == f y) = false := by simpa using ne
      have := lookup_map f g xs nd.2 x h
      simp [List.lookup, e1, this]
theorem lookup_none {α : Type} (f : α → Str) (g : α → Dt) (k : Str) : ∀ (xs : List α), k ∉ xs.map f → (xs.map fun x => (f x, g x)).lookup k = none
  | [], _ => rfl
  | y :: xs, h => by
    rw [List.map_cons, List.mem_cons, not_or] at h
    have e1 : (k == f y) = false := by simpa using h.1
    have := lookup_none f g k xs h.2
    simp [List.lookup, e1, this]
def shutB (e : En) (shut : List Str) : Bool := !decide (e.p.word = "free") || e.names.any fun n => decide (n ∈ shut)
def openStep (b : List Str × List Str) (e : En) : List Str × List Str := if shutB e b.2 = true then (b.1, b.2 ++ [e.p.name]) else (b.1 ++ [e.p.name], b.2)
def openFs (s : Fo) : List Str × List Str := (ents s).foldl openStep ([], [])
def opens (s : Fo) : List Str := (openFs s).1
end FW
set_option maxHeartbeats 2000000
/-! plain data of the ways -/
namespace FW
open PySem FZ
def optD : Option Str → Dt
  | none => .non
  | some x => .str x
def openB (s : Fo) (e : En) : Bool := decide (e.p.name ∈ opens s)
def oents (s : Fo) : List En := (ents s).filter (openB s)
def encPE (e : En) : Dt := encP e.p e.inner
def encO (e : En) : Dt := .tup [.tup (e.place.map .int), encPE e]
abbrev toldD (es : List En) : Dt := .lst (es.map encO)
def mateB (pl : List Int) (e : En) : Bool := decide (e.place.dropLast = pl.dropLast)
def mates (es : List En) (pl : List Int) : List En := es.filter (mateB pl)
def ltN (a b : Near) : Bool := match a, b with
  | some ns, some ms => HT.lexLt ns ms
  | _, _ => false
abbrev St4 := List Near × List (Option Str)
def nearC (st : St4) (x : Near × Nat) : Bool := x.1.isSome && ((st.1.getD x.2 none).isNone || ltN x.1 (st.1.getD x.2 none))
def nearStep (nm : Str) (st : St4) (x : Near × Nat) : St4 := if nearC st x = true then (st.1.set x.2 x.1, st.2.set x.2 (some nm)) else st
def nearPart (b : B4) (st : St4) (e : En) : St4 := ((nears4 b e.p.box).zipIdx).foldl (nearStep e.p.name) st
def st0 : St4 := ([none, none, none, none], [none, none, none, none])
def near4 (ms : List En) (b : B4) : List (Option Str) := (ms.foldl (nearPart b) st0).2
theorem nearStep_len (nm : Str) (st : St4) (x : Near × Nat) : (nearStep nm st x).1.length = st.1.length ∧ (nearStep nm st x).2.length = st.2.length := by
  unfold nearStep
  split <;> simp
theorem nearFold_len (nm : Str) : ∀ (xs : List (Near × Nat)) (st : St4), (xs.foldl (nearStep nm) st).1.length = st.1.length ∧ (xs.foldl (nearStep nm) st).2.length = st.2.length
  | [], st => ⟨rfl, rfl⟩
  | x :: xs, st => by
    rw [List.foldl_cons]
    have h1 := nearFold_len nm xs (nearStep nm st x)
    have h2 := nearStep_len nm st x
    omega
theorem nearPart_len (b : B4) : ∀ (ms : List En) (st : St4), (ms.foldl (nearPart b) st).1.length = st.1.length ∧ (ms.foldl (nearPart b) st).2.length = st.2.length
  | [], st => ⟨rfl, rfl⟩
  | e :: ms, st => by
    rw [List.foldl_cons]
    have h1 := nearPart_len b ms (nearPart b st e)
    have h2 := nearFold_len e.p.name ((nears4 b e.p.box).zipIdx) st
    show _ ∧ _
    unfold nearPart at h1 ⊢
    omega
theorem near4_len (ms : List En) (b : B4) : (near4 ms b).length = 4 := (nearPart_len b ms st0).2
/-- whoever is told is one of them -/
theorem near4_mem (ms : List En) (b : B4) {x : Str} (h : some x ∈ near4 ms b) : ∃ e ∈ ms, e.p.name = x := by
  have step : ∀ (nm : Str) (xs : List (Near × Nat)) (st : St4), some x ∈ (xs.foldl (nearStep nm) st).2 → some x ∈ st.2 ∨ nm = x := by
    intro nm xs
    induction xs with
    | nil => intro st h; exact .inl h
    | cons y xs ih =>
      intro st h
      rw [List.foldl_cons] at h
      rcases ih _ h with h | h
      · unfold nearStep at h
        split at h
        · rcases List.mem_or_eq_of_mem_set h with h | h
          · exact .inl h
          · exact .inr (Option.some.inj h).symm
        · exact .inl h
      · exact .inr h
  have all : ∀ (ms : List En) (st : St4), some x ∈ (ms.foldl (nearPart b) st).2 → some x ∈ st.2 ∨ ∃ e ∈ ms, e.p.name = x := by
    intro ms
    induction ms with
    | nil => intro st h; exact .inl h
    | cons e ms ih =>
      intro st h
      rw [List.foldl_cons] at h
      rcases ih _ h with h | ⟨e', he, h⟩
      · rcases step _ _ _ h with h | h
        · exact .inl h
        · exact .inr ⟨e, List.mem_cons_self .., h⟩
      · exact .inr ⟨e', List.mem_cons_of_mem _ he, h⟩
  rcases all ms st0 h with h | h
  · simp [st0] at h
  · exact h
def inB (pl : List Int) (e : En) : Bool := decide (e.place.dropLast = pl)
def firstIn (es : List En) (pl : List Int) : Option Str := (es.find? (inB pl)).map fun e => e.p.name
def lead6 (s : Fo) (e : En) : List (Option Str) := near4 (mates (oents s) e.place) e.p.box ++ [firstIn (oents s) e.place, e.names.getLast?]
theorem lead6_len (s : Fo) (e : En) : (lead6 s e).length = 6 := by
  unfold lead6
  rw [List.length_append, near4_len]
  rfl
def ways6 : List Str := ["up", "down", "left", "right", "into", "out"]
theorem mem_opens_ents {s : Fo} {n : Str} (h : n ∈ opens s) : ∃ e ∈ ents s, e.p.name = n := by
  have all : ∀ (es : List En) (b : List Str × List Str), n ∈ (es.foldl openStep b).1 → n ∈ b.1 ∨ ∃ e ∈ es, e.p.name = n := by
    intro es
    induction es with
    | nil => intro b h; exact .inl h
    | cons e es ih =>
      intro b h
      rw [List.foldl_cons] at h
      rcases ih _ h with h | ⟨e', he, h⟩
      · unfold openStep at h
        split at h
        · exact .inl h
        · rcases List.mem_append.mp h with h | h
          · exact .inl h
          · exact .inr ⟨e, List.mem_cons_self .., (List.mem_singleton.mp h).symm⟩
      · exact .inr ⟨e', List.mem_cons_of_mem _ he, h⟩
  rcases all _ _ h with h | h
  · simp at h
  · exact h
def rankOf (s : Fo) (n : Str) : Int := ((ents s).find? fun e => decide (e.p.name = n)).elim 0 fun e => e.p.rank
theorem find_ent {s : Fo} (ok : Okf s) {e : En} (he : e ∈ ents s) : (ents s).find? (fun x => decide (x.p.name = e.p.name)) = some e := by
  cases h : (ents s).find? (fun x => decide (x.p.name = e.p.name)) with
  | none =>
    have := List.find?_eq_none.mp h e he
    simp at this
  | some x =>
    have h1 := List.find?_some h
    have h2 := List.mem_of_find?_eq_some h
    rw [ok.inj h2 he (of_decide_eq_true h1)]
abbrev Qd := Int × Int × Nat × Str
def encQ (q : Qd) : Dt := .tup [.int q.1, .int q.2.1, .int (q.2.2.1 : Nat), .str q.2.2.2]
theorem filter_eq_of {α : Type} {p q : α → Bool} : ∀ {l : List α}, (∀ x ∈ l, p x = q x) → l.filter p = l.filter q := fun h => List.filter_congr h
theorem opens_len {s : Fo} : (opens s).length ≤ (ents s).length := by
  have all : ∀ (es : List En) (b : List Str × List Str), (es.foldl openStep b).1.length ≤ b.1.length + es.length := by
    intro es
    induction es with
    | nil => intro b; exact Nat.le_refl _
    | cons e es ih =>
      intro b
      rw [List.foldl_cons, List.length_cons]
      refine Nat.le_trans (ih _) ?_
      unfold openStep
      split <;> simp <;> omega
  have := all (ents s) ([], [])
  rw [List.length_nil, Nat.zero_add] at this
  exact this
end FW
set_option maxHeartbeats 2000000
/-! what is open, by words -/
namespace FW
open PySem FZ
theorem split_app {α : Type} {e : α} : ∀ {xs ys pre post : List α}, xs ++ ys = pre ++ e :: post → (∃ q, xs = pre ++ e :: q) ∨ (∃ q, pre = xs ++ q ∧ ys = q ++ e :: post)
  | [], ys, pre, post, h => .inr ⟨pre, rfl, h⟩
  | x :: xs, ys, [], post, h => by
    simp only [List.cons_append, List.nil_append, List.cons.injEq] at h
    exact .inl ⟨xs, by rw [h.1]; rfl⟩
  | x :: xs, ys, y :: pre, post, h => by
    simp only [List.cons_append, List.cons.injEq] at h
    rcases split_app h.2 with ⟨q, e1⟩ | ⟨q, e1, e2⟩
    · exact .inl ⟨q, by rw [h.1, e1]; rfl⟩
    · exact .inr ⟨q, by rw [h.1, e1]; rfl, e2⟩
/-- who is around a part stands ahead of it -/
theorem lay_up : ∀ (s : Fo) (pl : List Int) (ns : List Str) (k : Nat) (pre post : List En) (e : En), lay s pl ns k = pre ++ e :: post → (∀ n ∈ ns, n ∈ e.names) ∧ ∀ n ∈ e.names, n ∈ ns ∨ ∃ e' ∈ pre, e'.p.name = n ∧ ∀ m ∈ e'.names, m ∈ e.names
  | .nil, pl, ns, k, pre, post, e, h => by simp [lay] at h
  | .cons p i r, pl, ns, k, pre, post, e, h => by
    rw [lay] at h
    cases pre with
    | nil =>
      simp only [List.nil_append, List.cons.injEq] at h
      rw [← h.1]
      exact ⟨fun n h => h, fun n h => .inl h⟩
    | cons e0 pre =>
      simp only [List.cons_append, List.cons.injEq] at h
      obtain ⟨h0, h⟩ := h
      rcases split_app h with ⟨q, h1⟩ | ⟨q, h1, h2⟩
      · obtain ⟨a, b⟩ := lay_up i _ _ _ _ _ _ h1
        refine ⟨fun n hn => a n (List.mem_append_left _ hn), fun n hn => ?_⟩
        rcases b n hn with hn | ⟨e', he, e1, e2⟩
        · rcases List.mem_append.mp hn with hn | hn
          · exact .inl hn
          · have : n = p.name := by simpa using hn
            refine .inr ⟨e0, List.mem_cons_self .., ?_, ?_⟩
            · rw [← h0]; exact this.symm
            · rw [← h0]
              intro m hm
              exact a m (List.mem_append_left _ hm)
        · exact .inr ⟨e', List.mem_cons_of_mem _ he, e1, e2⟩
      · obtain ⟨a, b⟩ := lay_up r _ _ _ _ _ _ h2
        refine ⟨a, fun n hn => ?_⟩
        rcases b n hn with hn | ⟨e', he, e1, e2⟩
        · exact .inl hn
        · exact .inr ⟨e', List.mem_cons_of_mem _ (by rw [h1]; exact List.mem_append_right _ he), e1, e2⟩
def wordOf (s : Fo) (n : Str) : Str := ((ents s).find? fun e => decide (e.p.name = n)).elim "" fun e => e.p.word
theorem wordOf_ent {s : Fo} (ok : Okf s) {e : En} (he : e ∈ ents s) : wordOf s e.p.name = e.p.word := by
  unfold wordOf
  rw [find_ent ok he]
  rfl
def freeE (s : Fo) (e : En) : Bool := (e.names ++ [e.p.name]).all fun n => decide (wordOf s n = "free")
theorem freeE_iff {s : Fo} {e : En} : freeE s e = true ↔ ∀ n ∈ e.names ++ [e.p.name], wordOf s n = "free" := by
  unfold freeE
  rw [List.all_eq_true]
  exact ⟨fun h n hn => of_decide_eq_true (h n hn), fun h n hn => decide_eq_true (h n hn)⟩
theorem ents_up {s : Fo} {pre post : List En} {e : En} (h : ents s = pre ++ e :: post) {n : Str} (hn : n ∈ e.names) : ∃ e' ∈ pre, e'.p.name = n ∧ ∀ m ∈ e'.names, m ∈ e.names := by
  rcases (lay_up s [] [] 0 pre post e h).2 n hn with h | h
  · cases h
  · exact h
theorem snoc_ind {α : Type} {P : List α → Prop} (h0 : P []) (h1 : ∀ l a, P l → P (l ++ [a])) : ∀ l, P l := fun l => by
  have : ∀ r : List α, P r.reverse := by
    intro r
    induction r with
    | nil => exact h0
    | cons a r ih => rw [List.reverse_cons]; exact h1 _ _ ih
  have := this l.reverse
  rwa [List.reverse_reverse] at this
theorem open_pre {s : Fo} (ok : Okf s) : ∀ (pre post : List En), ents s = pre ++ post → pre.foldl openStep ([], []) = ((pre.filter (freeE s)).map (fun e => e.p.name), (pre.filter fun e => !freeE s e).map fun e => e.p.name) := by
  intro pre
  refine snoc_ind (P := fun pre => ∀ post : List En, ents s = pre ++ post → pre.foldl openStep ([], []) = ((pre.filter (freeE s)).map (fun e => e.p.name), (pre.filter fun e => !freeE s e).map fun e => e.p.name)) ?_ ?_ pre
  · intro post h; rfl
  · intro pre e ih post h
    rw [List.append_assoc] at h
    have h' : ents s = pre ++ e :: post := h
    rw [List.foldl_append, ih _ h, List.foldl_cons, List.foldl_nil]
    have me : e ∈ ents s := by rw [h']; simp
    have hs : shutB e ((pre.filter fun e => !freeE s e).map fun e => e.p.name) = !freeE s e := by
      cases hf : freeE s e with
      | true =>
        have f := freeE_iff.mp hf
        unfold shutB
        have w : e.p.word = "free" := by rw [← wordOf_ent ok me]; exact f _ (by simp)
        rw [w]
        show (!decide (("free" : Str) = "free") || _) = false
        rw [decide_eq_true rfl]
        show (List.any _ _) = false
        rw [List.any_eq_false]
        intro n hn q
        obtain ⟨e', he, h1⟩ := List.mem_map.mp (of_decide_eq_true q)
        obtain ⟨h2, h3⟩ := List.mem_filter.mp he
        obtain ⟨e'', k1, k2, k3⟩ := ents_up h' hn
        have m' : e' ∈ ents s := by rw [h']; exact List.mem_append_left _ h2
        have m'' : e'' ∈ ents s := by rw [h']; exact List.mem_append_left _ k1
        have : e' = e'' := ok.inj m' m'' (h1.trans k2.symm)
        subst this
        have : freeE s e' = true := freeE_iff.mpr fun m hm => by
          rcases List.mem_append.mp hm with hm | hm
          · exact f m (List.mem_append_left _ (k3 m hm))
          · rw [List.mem_singleton.mp hm, h1]
            exact f n (List.mem_append_left _ hn)
        rw [this] at h3
        cases h3
      | false =>
        unfold shutB
        by_cases w : e.p.word = "free"
        · rw [decide_eq_true w]
          show (List.any _ _) = true
          rw [List.any_eq_true]
          have : ∃ n ∈ e.names ++ [e.p.name], wordOf s n ≠ "free" := by
            have hn : ¬ ∀ n ∈ e.names ++ [e.p.name], wordOf s n = "free" := fun z => by rw [freeE_iff.mpr z] at hf; cases hf
            exact Classical.byContradiction fun c => hn fun n hn => Classical.byContradiction fun d => c ⟨n, hn, d⟩
          obtain ⟨n, hn, wn⟩ := this
          rcases List.mem_append.mp hn with hn | hn
          · obtain ⟨e', k1, k2, k3⟩ := ents_up h' hn
            refine ⟨n, hn, decide_eq_true (List.mem_map.mpr ⟨e', List.mem_filter.mpr ⟨k1, ?_⟩, k2⟩)⟩
            cases hq : freeE s e' with
            | false => rfl
            | true => exact absurd (freeE_iff.mp hq n (by rw [← k2]; simp)) wn
          · rw [List.mem_singleton.mp hn, wordOf_ent ok me] at wn
            exact absurd w wn
        · rw [decide_eq_false w]
          rfl
    unfold openStep
    rw [hs]
    cases hf : freeE s e with
    | true => simp [List.filter_append, hf]
    | false => simp [List.filter_append, hf]
theorem opens_eq {s : Fo} (ok : Okf s) : opens s = ((ents s).filter (freeE s)).map fun e => e.p.name := by
  unfold opens openFs
  rw [open_pre ok (ents s) [] (by rw [List.append_nil])]
theorem openB_eq {s : Fo} (ok : Okf s) {e : En} (he : e ∈ ents s) : openB s e = freeE s e := by
  unfold openB
  rw [opens_eq ok]
  cases hf : freeE s e with
  | true => exact decide_eq_true (List.mem_map.mpr ⟨e, List.mem_filter.mpr ⟨he, hf⟩, rfl⟩)
  | false =>
    refine decide_eq_false fun h => ?_
    obtain ⟨e', h1, h2⟩ := List.mem_map.mp h
    obtain ⟨h3, h4⟩ := List.mem_filter.mp h1
    rw [ok.inj h3 he h2, hf] at h4
    cases h4
theorem oents_eq {s : Fo} (ok : Okf s) : oents s = (ents s).filter (freeE s) := List.filter_congr fun e he => openB_eq ok he
theorem opens_oents {s : Fo} (ok : Okf s) : opens s = (oents s).map fun e => e.p.name := by rw [opens_eq ok, oents_eq ok]
theorem opens_nd {s : Fo} (ok : Okf s) : (opens s).Nodup := by
  rw [opens_eq ok]
  exact List.Nodup.sublist (List.Sublist.map _ (List.filter_sublist)) ok.nd
theorem oents_mem {s : Fo} {e : En} (h : e ∈ oents s) : e ∈ ents s ∧ e.p.name ∈ opens s := by
  obtain ⟨h1, h2⟩ := List.mem_filter.mp h
  exact ⟨h1, of_decide_eq_true h2⟩
theorem openE_of {s : Fo} (ok : Okf s) {e : En} (he : e ∈ oents s) : OpenE s e := by
  have he' := he
  rw [oents_eq ok] at he
  obtain ⟨h1, h2⟩ := List.mem_filter.mp he
  have f := freeE_iff.mp h2
  refine ⟨ok, h1, fun n hn => ?_⟩
  obtain ⟨pre, post, hsp⟩ := List.append_of_mem h1
  rcases List.mem_append.mp hn with hn' | hn'
  · obtain ⟨e', k1, k2, k3⟩ := ents_up hsp hn'
    have m : e' ∈ ents s := by rw [hsp]; exact List.mem_append_left _ k1
    exact ⟨e', m, k2, by rw [← wordOf_ent ok m, k2]; exact f n hn⟩
  · exact ⟨e, h1, (List.mem_singleton.mp hn').symm, by rw [← wordOf_ent ok h1, ← List.mem_singleton.mp hn']; exact f n hn⟩
/-- the part around an open part is open -/
theorem up_open {s : Fo} (ok : Okf s) {e : En} (he : e ∈ oents s) {n : Str} (hn : n ∈ e.names) : n ∈ opens s := by
  rw [oents_eq ok] at he
  obtain ⟨h1, h2⟩ := List.mem_filter.mp he
  have f := freeE_iff.mp h2
  obtain ⟨pre, post, hsp⟩ := List.append_of_mem h1
  obtain ⟨e', k1, k2, k3⟩ := ents_up hsp hn
  have m : e' ∈ ents s := by rw [hsp]; exact List.mem_append_left _ k1
  rw [opens_eq ok]
  refine List.mem_map.mpr ⟨e', List.mem_filter.mpr ⟨m, freeE_iff.mpr fun x hx => ?_⟩, k2⟩
  rcases List.mem_append.mp hx with hx | hx
  · exact f x (List.mem_append_left _ (k3 x hx))
  · rw [List.mem_singleton.mp hx, k2]; exact f n (List.mem_append_left _ hn)
/-- ways lead to open parts -/
theorem lead6_open {s : Fo} (ok : Okf s) {e : En} (he : e ∈ oents s) {x : Str} (h : some x ∈ lead6 s e) : x ∈ opens s := by
  unfold lead6 at h
  rcases List.mem_append.mp h with h | h
  · obtain ⟨e', h1, rfl⟩ := near4_mem _ _ h
    exact (oents_mem (List.mem_filter.mp h1).1).2
  · rcases List.mem_cons.mp h with h | h
    · unfold firstIn at h
      cases q : (oents s).find? (inB e.place) with
      | none => rw [q] at h; cases h
      | some e' =>
        rw [q] at h
        cases h
        exact (oents_mem (List.mem_of_find?_eq_some q)).2
    · rw [List.mem_singleton] at h
      exact up_open ok he (List.mem_of_getLast? h.symm)
theorem opens_entry {s : Fo} (ok : Okf s) {n : Str} (h : n ∈ opens s) : ∃ e ∈ oents s, e.p.name = n := by
  rw [opens_oents ok] at h
  obtain ⟨e, h1, h2⟩ := List.mem_map.mp h
  exact ⟨e, h1, h2⟩
/-- where the six ways lead from a name -/
def leads (s : Fo) (n : Str) : List (Option Str) := ((oents s).find? fun e => decide (e.p.name = n)).elim [] (lead6 s)
theorem leads_ent {s : Fo} (ok : Okf s) {e : En} (he : e ∈ oents s) : leads s e.p.name = lead6 s e := by
  unfold leads
  have : (oents s).find? (fun x => decide (x.p.name = e.p.name)) = some e := by
    cases h : (oents s).find? (fun x => decide (x.p.name = e.p.name)) with
    | none =>
      have := List.find?_eq_none.mp h e he
      simp at this
    | some x =>
      have h1 := List.find?_some h
      have h2 := List.mem_of_find?_eq_some h
      rw [ok.inj (oents_mem h2).1 (oents_mem he).1 (of_decide_eq_true h1)]
  rw [this]
  rfl
end FW
set_option maxHeartbeats 2000000
/-! layers and rows -/
namespace FW
open PySem FZ
def nbr (s : Fo) (n : Str) : List Str := (leads s n).filterMap id
def ledTo (s : Fo) (some : List Str) : List Str := some.flatMap (nbr s)
theorem nbr_open {s : Fo} (ok : Okf s) {n m : Str} (h : m ∈ nbr s n) : m ∈ opens s := by
  unfold nbr at h
  obtain ⟨o, h1, h2⟩ := List.mem_filterMap.mp h
  have h2 : o = some m := h2
  subst h2
  unfold leads at h1
  cases q : (oents s).find? (fun e => decide (e.p.name = n)) with
  | none => rw [q] at h1; simp at h1
  | some e =>
    rw [q] at h1
    exact lead6_open ok (List.mem_of_find?_eq_some q) h1
theorem mem_ledTo {s : Fo} {l : List Str} {m : Str} : m ∈ ledTo s l ↔ ∃ p ∈ l, m ∈ nbr s p := by
  unfold ledTo
  rw [List.mem_flatMap]
abbrev LS := List Str × List Str
def lay0 (s : Fo) (n : Str) : LS := ([n], (opens s).filter fun o => !decide (o = n))
def layNext (s : Fo) (c : LS) : LS := (c.2.filter fun o => decide (o ∈ ledTo s c.1), c.2.filter fun o => !decide (o ∈ ledTo s c.1))
def layAt (s : Fo) (n : Str) : Nat → LS
  | 0 => lay0 s n
  | i + 1 => layNext s (layAt s n i)
def layer (s : Fo) (n : Str) (i : Nat) : List Str := (layAt s n i).1
/-- what is reached by so many ways -/
def reach (s : Fo) (one : Str) : Nat → Str → Prop
  | 0, m => m = one
  | n + 1, m => ∃ p, reach s one n p ∧ m ∈ nbr s p
theorem reach_open {s : Fo} (ok : Okf s) {one : Str} (ho : one ∈ opens s) : ∀ {n : Nat} {m : Str}, reach s one n m → m ∈ opens s
  | 0, m, h => by rw [show m = one from h]; exact ho
  | n + 1, m, ⟨p, _, h⟩ => nbr_open ok h
theorem lay_char {s : Fo} (ok : Okf s) {one : Str} (ho : one ∈ opens s) : ∀ i : Nat, (∀ m, m ∈ layer s one i ↔ reach s one i m ∧ ∀ j, j < i → ¬ reach s one j m) ∧ (∀ m, m ∈ (layAt s one i).2 ↔ m ∈ opens s ∧ ∀ j, j ≤ i → ¬ reach s one j m)
  | 0 => by
    refine ⟨fun m => ?_, fun m => ?_⟩
    · show m ∈ [one] ↔ m = one ∧ _
      rw [List.mem_singleton]
      exact ⟨fun h => ⟨h, fun j hj => absurd hj (Nat.not_lt_zero _)⟩, fun h => h.1⟩
    · show m ∈ (opens s).filter _ ↔ _
      rw [List.mem_filter]
      refine and_congr_right fun _ => ⟨fun h j hj r => ?_, fun h => ?_⟩
      · have : j = 0 := by omega
        subst this
        have r : m = one := r
        rw [r] at h
        simp at h
      · have : ¬ m = one := h 0 (Nat.le_refl _)
        simp [this]
  | i + 1 => by
    obtain ⟨h1, h2⟩ := lay_char ok ho i
    have key : ∀ m, (∀ j, j ≤ i → ¬ reach s one j m) → (m ∈ ledTo s (layAt s one i).1 ↔ reach s one (i + 1) m) := fun m hn => by
      rw [mem_ledTo]
      constructor
      · rintro ⟨p, hp, hm⟩
        exact ⟨p, ((h1 p).mp hp).1, hm⟩
      · rintro ⟨p, hp, hm⟩
        refine ⟨p, (h1 p).mpr ⟨hp, fun j hj r => ?_⟩, hm⟩
        exact hn (j + 1) (by omega) ⟨p, r, hm⟩
    refine ⟨fun m => ?_, fun m => ?_⟩
    · show m ∈ (layAt s one i).2.filter _ ↔ _
      rw [List.mem_filter, h2 m]
      constructor
      · rintro ⟨⟨h3, h4⟩, h5⟩
        exact ⟨(key m h4).mp (of_decide_eq_true h5), fun j hj => h4 j (by omega)⟩
      · rintro ⟨h3, h4⟩
        have h4' : ∀ j, j ≤ i → ¬ reach s one j m := fun j hj => h4 j (by omega)
        exact ⟨⟨reach_open ok ho h3, h4'⟩, decide_eq_true ((key m h4').mpr h3)⟩
    · show m ∈ (layAt s one i).2.filter _ ↔ _
      rw [List.mem_filter, h2 m]
      constructor
      · rintro ⟨⟨h3, h4⟩, h5⟩
        refine ⟨h3, fun j hj r => ?_⟩
        rcases Nat.lt_or_ge j (i + 1) with q | q
        · exact h4 j (by omega) r
        · have : j = i + 1 := by omega
          subst this
          rw [decide_eq_true ((key m h4).mpr r)] at h5
          cases h5
      · rintro ⟨h3, h4⟩
        have h4' : ∀ j, j ≤ i → ¬ reach s one j m := fun j hj => h4 j (by omega)
        refine ⟨⟨h3, h4'⟩, ?_⟩
        rw [decide_eq_false (fun q => h4 (i + 1) (Nat.le_refl _) ((key m h4').mp q))]
        rfl
theorem layer_end {s : Fo} {one : Str} {i : Nat} (h : layer s one i = []) : ∀ d, layer s one (i + d) = []
  | 0 => h
  | d + 1 => by
    have e := layer_end h d
    show (layNext s (layAt s one (i + d))).1 = []
    have e' : (layAt s one (i + d)).1 = [] := e
    unfold layNext
    rw [e']
    show List.filter _ _ = []
    rw [List.filter_eq_nil_iff]
    intro m _ q
    have := of_decide_eq_true q
    simp [ledTo] at this
/-! rows -/
def stepTo (s : Fo) (n w : Str) : Option Str := if w ∈ ways6 then (leads s n).getD (ways6.idxOf w) none else none
def goRow (s : Fo) : Str → List Str → Option Str
  | n, [] => some n
  | n, w :: ws => (stepTo s n w).bind fun m => goRow s m ws
theorem goRow_snoc (s : Fo) (w : Str) : ∀ (ws : List Str) (n : Str), goRow s n (ws ++ [w]) = (goRow s n ws).bind fun m => stepTo s m w
  | [], n => by
    show (stepTo s n w).bind (fun m => some m) = (some n).bind _
    simp
  | v :: ws, n => by
    show (stepTo s n v).bind (fun m => goRow s m (ws ++ [w])) = ((stepTo s n v).bind fun m => goRow s m ws).bind _
    rw [Option.bind_assoc]
    congr 1
    funext m
    exact goRow_snoc s w ws m
theorem step_nbr {s : Fo} {n w m : Str} (h : stepTo s n w = some m) : m ∈ nbr s n := by
  unfold stepTo at h
  split at h
  · unfold nbr
    refine List.mem_filterMap.mpr ⟨some m, ?_, rfl⟩
    rw [List.getD_eq_getElem?_getD] at h
    cases q : (leads s n)[ways6.idxOf w]? with
    | none => rw [q] at h; cases h
    | some o =>
      rw [q] at h
      have h : o = some m := h
      subst h
      exact List.mem_of_getElem? q
  · cases h
abbrev BS := List (Str × List Str)
def keys (b : BS) : List Str := b.map Prod.fst
def bStep (cur : List Str) (b : BS) (x : Str × Option Str) : BS := match x.2 with
  | none => b
  | some t => if t ∈ keys b then b else b ++ [(t, cur ++ [x.1])]
def bTurn (s : Fo) (b : BS) (p : Str × List Str) : BS := (ways6.zip (leads s p.1)).foldl (bStep p.2) b
structure BOk (s : Fo) (one : Str) (j : Nat) (b : BS) : Prop where
  nd : (keys b).Nodup
  op : ∀ p ∈ b, p.1 ∈ opens s
  go : ∀ p ∈ b, goRow s one p.2 = some p.1 ∧ reach s one p.2.length p.1
  mono : ∀ (i i' : Nat) (p p' : Str × List Str), i ≤ i' → b[i]? = some p → b[i']? = some p' → p.2.length ≤ p'.2.length
  near : ∀ p q, b[j]? = some p → q ∈ b → q.2.length ≤ p.2.length + 1
  one : b[0]? = some (one, [])
  closed : ∀ (i : Nat) (p : Str × List Str), i < j → b[i]? = some p → ∀ m ∈ nbr s p.1, ∃ q ∈ b, q.1 = m ∧ q.2.length ≤ p.2.length + 1
  le : j ≤ b.length
  sz : ∀ (i : Nat) (p : Str × List Str), b[i]? = some p → p.2.length ≤ i
theorem getElem?_snoc {α : Type} {b : List α} {x y : α} {i : Nat} (h : (b ++ [x])[i]? = some y) : b[i]? = some y ∨ (i = b.length ∧ y = x) := by
  rcases Nat.lt_or_ge i b.length with q | q
  · rw [List.getElem?_append_left q] at h; exact .inl h
  · rw [List.getElem?_append_right q] at h
    rcases Nat.lt_or_ge i (b.length + 1) with r | r
    · have : i - b.length = 0 := by omega
      rw [this] at h
      exact .inr ⟨by omega, (Option.some.inj h).symm⟩
    · rw [List.getElem?_eq_none (by simp; omega)] at h; cases h
/-- one step keeps all; the item at j stays -/
theorem bStep_ok {s : Fo} (ok : Okf s) {one : Str} {j : Nat} {b : BS} {p : Str × List Str} (h : BOk s one j b) (hp : b[j]? = some p) {x : Str × Option Str} (hx : ∀ t, x.2 = some t → stepTo s p.1 x.1 = some t) :
    BOk s one j (bStep p.2 b x) ∧ (∀ (i : Nat) (q : Str × List Str), b[i]? = some q → (bStep p.2 b x)[i]? = some q) ∧ (∀ t, x.2 = some t → ∃ q ∈ bStep p.2 b x, q.1 = t ∧ q.2.length ≤ p.2.length + 1) := by
  obtain ⟨w, o⟩ := x
  cases o with
  | none => exact ⟨h, fun _ _ e => e, fun t e => by cases e⟩
  | some t =>
    show BOk s one j (if t ∈ keys b then b else b ++ [(t, p.2 ++ [w])]) ∧ (∀ (i : Nat) (q : Str × List Str), b[i]? = some q → (if t ∈ keys b then b else b ++ [(t, p.2 ++ [w])])[i]? = some q) ∧ ∀ t', some t = some t' → ∃ q ∈ (if t ∈ keys b then b else b ++ [(t, p.2 ++ [w])]), q.1 = t' ∧ q.2.length ≤ p.2.length + 1
    by_cases ht : t ∈ keys b
    · rw [if_pos ht]
      refine ⟨h, fun _ _ e => e, fun t' e => ?_⟩
      cases e
      obtain ⟨q, h1, h2⟩ := List.mem_map.mp ht
      exact ⟨q, h1, h2, h.near p q hp h1⟩
    · rw [if_neg ht]
      have hst : stepTo s p.1 w = some t := hx t rfl
      have pm : p ∈ b := List.mem_of_getElem? hp
      have hlt : j < b.length := (List.getElem?_eq_some_iff.mp hp).1
      have keep : ∀ (i : Nat) (q : Str × List Str), b[i]? = some q → (b ++ [(t, p.2 ++ [w])])[i]? = some q := fun i q e => by
        rw [List.getElem?_append_left (List.getElem?_eq_some_iff.mp e).1]; exact e
      refine ⟨⟨?_, ?_, ?_, ?_, ?_, keep _ _ h.one, ?_, ?_, ?_⟩, keep, fun t' e => ?_⟩
      · show (List.map Prod.fst (b ++ _)).Nodup
        rw [List.map_append, List.nodup_append]
        refine ⟨h.nd, by simp, fun a ha c hc => ?_⟩
        have : c = t := by simpa using hc
        rw [this]
        intro q
        exact ht (q ▸ ha)
      · intro q hq
        rcases List.mem_append.mp hq with hq | hq
        · exact h.op q hq
        · rw [List.mem_singleton.mp hq]
          exact nbr_open ok (step_nbr hst)
      · intro q hq
        rcases List.mem_append.mp hq with hq | hq
        · exact h.go q hq
        · rw [List.mem_singleton.mp hq]
          obtain ⟨g1, g2⟩ := h.go p pm
          refine ⟨?_, ?_⟩
          · rw [goRow_snoc, g1]; exact hst
          · show reach s one (p.2 ++ [w]).length t
            rw [List.length_append]
            exact ⟨p.1, g2, step_nbr hst⟩
      · intro i i' q q' hii e e'
        rcases getElem?_snoc e' with e1 | ⟨e1, e2⟩
        · rcases getElem?_snoc e with e0 | ⟨e0, e2⟩
          · exact h.mono i i' q q' hii e0 e1
          · have := (List.getElem?_eq_some_iff.mp e1).1
            omega
        · subst e2
          rw [List.length_append]
          rcases getElem?_snoc e with e0 | ⟨e0, e3⟩
          · exact h.near p q hp (List.mem_of_getElem? e0)
          · rw [e3, List.length_append]; exact Nat.le_refl _
      · intro q r e hr
        rw [List.getElem?_append_left hlt, hp] at e
        cases e
        rcases List.mem_append.mp hr with hr | hr
        · exact h.near p r hp hr
        · rw [List.mem_singleton.mp hr]
          show (p.2 ++ [w]).length ≤ _
          rw [List.length_append]
          exact Nat.le_refl _
      · intro i q hi e m hm
        rw [List.getElem?_append_left (by omega)] at e
        obtain ⟨r, h1, h2⟩ := h.closed i q hi e m hm
        exact ⟨r, List.mem_append_left _ h1, h2⟩
      · rw [List.length_append]
        have := h.le
        omega
      · intro i q e
        rcases getElem?_snoc e with e0 | ⟨e0, e3⟩
        · exact h.sz i q e0
        · rw [e3, List.length_append, e0]
          have := h.sz j p hp
          show p.2.length + 1 ≤ b.length
          omega
      · cases e
        refine ⟨(t, p.2 ++ [w]), by simp, rfl, ?_⟩
        show (p.2 ++ [w]).length ≤ _
        rw [List.length_append]
        exact Nat.le_refl _
theorem bFold_ok {s : Fo} (ok : Okf s) {one : Str} {j : Nat} {p : Str × List Str} : ∀ (xs : List (Str × Option Str)) {b : BS}, BOk s one j b → b[j]? = some p → (∀ x ∈ xs, ∀ t, x.2 = some t → stepTo s p.1 x.1 = some t) →
    BOk s one j (xs.foldl (bStep p.2) b) ∧ (∀ (i : Nat) (q : Str × List Str), b[i]? = some q → (xs.foldl (bStep p.2) b)[i]? = some q) ∧ (∀ x ∈ xs, ∀ t, x.2 = some t → ∃ q ∈ xs.foldl (bStep p.2) b, q.1 = t ∧ q.2.length ≤ p.2.length + 1)
  | [], b, h, hp, hx => ⟨h, fun _ _ e => e, fun x hx => by cases hx⟩
  | x :: xs, b, h, hp, hx => by
    obtain ⟨h1, h2, h3⟩ := bStep_ok ok h hp (x := x) (hx x (List.mem_cons_self ..))
    obtain ⟨k1, k2, k3⟩ := bFold_ok ok xs h1 (h2 _ _ hp) (fun y hy => hx y (List.mem_cons_of_mem _ hy))
    rw [List.foldl_cons]
    refine ⟨k1, fun i q e => k2 _ _ (h2 _ _ e), fun y hy t e => ?_⟩
    rcases List.mem_cons.mp hy with rfl | hy
    · obtain ⟨q, a1, a2⟩ := h3 t e
      obtain ⟨i, hi⟩ := List.getElem?_of_mem a1
      exact ⟨q, List.mem_of_getElem? (k2 i q hi), a2⟩
    · exact k3 y hy t e
theorem ways6_idx : ∀ i, i < 6 → ∃ w, ways6[i]? = some w ∧ w ∈ ways6 ∧ ways6.idxOf w = i := by decide +kernel
theorem zip_step {s : Fo} {n : Str} (hl : (leads s n).length = 6) : ∀ x ∈ ways6.zip (leads s n), ∀ t, x.2 = some t → stepTo s n x.1 = some t := by
  intro x hx t e
  obtain ⟨i, hi⟩ := List.getElem?_of_mem hx
  have hi := List.getElem?_zip_eq_some.mp hi
  have hlt : i < 6 := by
    have := (List.getElem?_eq_some_iff.mp hi.2).1
    omega
  obtain ⟨w, h1, h2, h3⟩ := ways6_idx i hlt
  have ew : x.1 = w := by rw [hi.1] at h1; exact Option.some.inj h1
  unfold stepTo
  rw [ew, if_pos h2, h3, List.getD_eq_getElem?_getD, hi.2]
  exact e
theorem nbr_zip {s : Fo} {n m : Str} (hl : (leads s n).length = 6) (h : m ∈ nbr s n) : ∃ x ∈ ways6.zip (leads s n), x.2 = some m := by
  unfold nbr at h
  obtain ⟨o, h1, h2⟩ := List.mem_filterMap.mp h
  have h2 : o = some m := h2
  subst h2
  obtain ⟨i, hi⟩ := List.getElem?_of_mem h1
  have hlt : i < 6 := by
    have := (List.getElem?_eq_some_iff.mp hi).1
    omega
  obtain ⟨w, h1, h2, h3⟩ := ways6_idx i hlt
  exact ⟨(w, some m), List.mem_of_getElem? (List.getElem?_zip_eq_some.mpr ⟨h1, hi⟩), rfl⟩
theorem leads_len {s : Fo} (ok : Okf s) {n : Str} (h : n ∈ opens s) : (leads s n).length = 6 := by
  obtain ⟨e, he, rfl⟩ := opens_entry ok h
  rw [leads_ent ok he]
  exact lead6_len s e
theorem bTurn_ok {s : Fo} (ok : Okf s) {one : Str} {j : Nat} {b : BS} {p : Str × List Str} (h : BOk s one j b) (hp : b[j]? = some p) : BOk s one (j + 1) (bTurn s b p) := by
  have hl := leads_len ok (h.op p (List.mem_of_getElem? hp))
  obtain ⟨k1, k2, k3⟩ := bFold_ok ok (ways6.zip (leads s p.1)) h hp (zip_step hl)
  have hp' := k2 _ _ hp
  refine ⟨k1.nd, k1.op, k1.go, k1.mono, fun q r e hr => ?_, k1.one, fun i q hi e m hm => ?_, ?_, ?_⟩
  · have h1 := k1.near p r hp' hr
    have h2 := k1.mono j (j + 1) p q (by omega) hp' e
    omega
  · rcases Nat.lt_or_ge i j with g | g
    · exact k1.closed i q g e m hm
    · have : i = j := by omega
      subst this
      have e' := hp'.symm.trans e
      cases e'
      obtain ⟨x, hx, ex⟩ := nbr_zip hl hm
      exact k3 x hx m ex
  · have := (List.getElem?_eq_some_iff.mp hp').1
    show j + 1 ≤ List.length (List.foldl _ _ _)
    omega
  · exact k1.sz
theorem b0_ok {s : Fo} {one : Str} (ho : one ∈ opens s) : BOk s one 0 [(one, [])] := by
  refine ⟨by simp [keys], fun p hp => ?_, fun p hp => ?_, fun i i' p p' _ e e' => ?_, fun p q e hq => ?_, rfl, fun i p hi => absurd hi (Nat.not_lt_zero _), by simp, fun i p e => ?_⟩
  · rw [List.mem_singleton.mp hp]; exact ho
  · rw [List.mem_singleton.mp hp]; exact ⟨rfl, rfl⟩
  · have h1 := List.mem_singleton.mp (List.mem_of_getElem? e)
    have h2 := List.mem_singleton.mp (List.mem_of_getElem? e')
    rw [h1, h2]
    exact Nat.le_refl _
  · rw [List.mem_singleton.mp hq]
    exact Nat.zero_le _
  · rw [List.mem_singleton.mp (List.mem_of_getElem? e)]
    exact Nat.zero_le _
/-- all rows -/
structure ROk (s : Fo) (one : Str) (b : BS) : Prop where
  nd : (keys b).Nodup
  op : ∀ p ∈ b, p.1 ∈ opens s
  go : ∀ p ∈ b, goRow s one p.2 = some p.1 ∧ reach s one p.2.length p.1
  all : ∀ n m, reach s one n m → ∃ q ∈ b, q.1 = m ∧ q.2.length ≤ n
theorem BOk.done {s : Fo} {one : Str} {b : BS} (h : BOk s one b.length b) : ROk s one b := by
  refine ⟨h.nd, h.op, h.go, fun n => ?_⟩
  induction n with
  | zero =>
    intro m r
    have r : m = one := r
    exact ⟨(one, []), List.mem_of_getElem? h.one, r.symm, Nat.le_refl _⟩
  | succ n ih =>
    rintro m ⟨p, hr, hm⟩
    obtain ⟨q, h1, h2, h3⟩ := ih p hr
    obtain ⟨i, hi⟩ := List.getElem?_of_mem h1
    obtain ⟨r, k1, k2, k3⟩ := h.closed i q (List.getElem?_eq_some_iff.mp hi).1 hi m (h2 ▸ hm)
    exact ⟨r, k1, k2, by omega⟩
/-- a key's place among the layers -/
theorem spot_in {s : Fo} (ok : Okf s) {one : Str} (ho : one ∈ opens s) {b : BS} (R : ROk s one b) {p : Str × List Str} (hp : p ∈ b) (i : Nat) : p.1 ∈ layer s one i ↔ i = p.2.length := by
  rw [(lay_char ok ho i).1 p.1]
  have r := (R.go p hp).2
  have low : ∀ j, reach s one j p.1 → p.2.length ≤ j := fun j hj => by
    obtain ⟨q, h1, h2, h3⟩ := R.all j p.1 hj
    have : q = p := nodup_inj R.nd h1 hp h2
    rw [← this]; exact h3
  constructor
  · rintro ⟨h1, h2⟩
    have a := low i h1
    rcases Nat.lt_or_ge p.2.length i with q | q
    · exact absurd r (h2 _ q)
    · omega
  · rintro rfl
    exact ⟨r, fun j hj h => by have := low j h; omega⟩
theorem spot_out {s : Fo} (ok : Okf s) {one : Str} (ho : one ∈ opens s) {b : BS} (R : ROk s one b) {m : Str} (hm : m ∉ keys b) (i : Nat) : m ∉ layer s one i := fun h => by
  obtain ⟨q, h1, h2, _⟩ := R.all i m ((lay_char ok ho i).1 m |>.mp h).1
  exact hm (List.mem_map.mpr ⟨q, h1, h2⟩)
/-- what is reached is shut -/
theorem keys_closed {s : Fo} (ok : Okf s) {one : Str} {b : BS} (R : ROk s one b) {n m : Str} (hn : n ∈ keys b) (hm : m ∈ nbr s n) : m ∈ keys b := by
  obtain ⟨p, h1, rfl⟩ := List.mem_map.mp hn
  obtain ⟨q, k1, k2, _⟩ := R.all (p.2.length + 1) m ⟨p.1, (R.go p h1).2, hm⟩
  exact List.mem_map.mpr ⟨q, k1, k2⟩
/-- the last layer -/
structure LOk (s : Fo) (one : Str) (k : Nat) : Prop where
  stop : layer s one k = []
  more : ∀ i, i < k → layer s one i ≠ []
theorem LOk.lt {s : Fo} {one : Str} {k i : Nat} (h : LOk s one k) {m : Str} (hm : m ∈ layer s one i) : i < k := by
  rcases Nat.lt_or_ge i k with q | q
  · exact q
  · have := layer_end h.stop (i - k)
    rw [show k + (i - k) = i by omega] at this
    rw [this] at hm
    cases hm
end FW
set_option maxHeartbeats 2000000
/-! the law's rows, hung -/
namespace FW
open PySem FZ
structure Rw where
  deep : Nat
  p : PD
def encR (r : Rw) : Dt := .lst [.int (r.deep : Nat), .str r.p.name, boxD r.p.box, .str r.p.word, .int r.p.rank, r.p.head]
abbrev rowsL (rs : List Rw) : Dt := .lst (rs.map encR)
def deepAt (rs : List Rw) (k : Nat) : Nat := (rs[k]?).elim 0 (·.deep)
def nameAt (rs : List Rw) (k : Nat) : Str := (rs[k]?).elim "" (·.p.name)
def wordAt (rs : List Rw) (k : Nat) : Str := (rs[k]?).elim "" (·.p.word)
def abStep (rs : List Rw) (st : List Nat × Nat) (j : Nat) : List Nat × Nat := if deepAt rs j < st.2 then (st.1 ++ [j], deepAt rs j) else st
def aboveR (rs : List Rw) (k : Nat) : List Nat × Nat := (List.range k).reverse.foldl (abStep rs) ([], deepAt rs k)
def above (rs : List Rw) (k : Nat) : List Nat := (aboveR rs k).1.reverse
def freeAt (rs : List Rw) (k : Nat) : Bool := (above rs k ++ [k]).all fun j => decide (wordAt rs j = "free")
def free (rs : List Rw) : List Nat := (List.range rs.length).filter (freeAt rs)
/-- hung: fuel, depth, rows -/
def hung : Nat → Nat → List Rw → Fo
  | 0, _, _ => .nil
  | _ + 1, _, [] => .nil
  | n + 1, d, r :: rs => .cons r.p (hung n (d + 1) (rs.takeWhile fun x => decide (d < x.deep))) (hung n d (rs.dropWhile fun x => decide (d < x.deep)))
/-- who is around, from the reversed rows ahead -/
def up : List Rw → Nat → List Str
  | [], _ => []
  | r :: rs, d => if r.deep < d then r.p.name :: up rs r.deep else up rs d
theorem up_skip {d : Nat} (ctx : List Rw) : ∀ xs : List Rw, (∀ x ∈ xs, ¬ x.deep < d) → up (xs ++ ctx) d = up ctx d
  | [], _ => rfl
  | x :: xs, h => by
    rw [List.cons_append, up, if_neg (h x (List.mem_cons_self ..)), up_skip ctx xs fun y hy => h y (List.mem_cons_of_mem _ hy)]
def annot : List Rw → List Rw → List (PD × List Str)
  | _, [] => []
  | ctx, r :: rs => (r.p, (up ctx r.deep).reverse) :: annot (r :: ctx) rs
theorem annot_app : ∀ (xs ys ctx : List Rw), annot ctx (xs ++ ys) = annot ctx xs ++ annot (xs.reverse ++ ctx) ys
  | [], ys, ctx => rfl
  | x :: xs, ys, ctx => by
    rw [List.cons_append, annot, annot_app xs ys, annot, List.cons_append, List.reverse_cons, List.append_assoc]
    rfl
theorem annot_len : ∀ (xs ctx : List Rw), (annot ctx xs).length = xs.length
  | [], _ => rfl
  | x :: xs, ctx => by rw [annot, List.length_cons, annot_len xs, List.length_cons]
theorem tw_mem {p : Rw → Bool} : ∀ {rs : List Rw} {x : Rw}, x ∈ rs.takeWhile p → p x = true
  | [], x, h => by simp at h
  | r :: rs, x, h => by
    rw [List.takeWhile_cons] at h
    split at h
    · rename_i hp
      rcases List.mem_cons.mp h with h | h
      · rw [h]; exact hp
      · exact tw_mem h
    · cases h
/-- rows that can be hung at a depth -/
structure Wf (d : Nat) (rs : List Rw) : Prop where
  ge : ∀ r ∈ rs, d ≤ r.deep
  hd : ∀ r rest, rs = r :: rest → r.deep = d
  step : ∀ pre a b post, rs = pre ++ a :: b :: post → b.deep ≤ a.deep + 1
theorem Wf.inner {d : Nat} {r : Rw} {rs : List Rw} (h : Wf d (r :: rs)) : Wf (d + 1) (rs.takeWhile fun x => decide (d < x.deep)) := by
  have hs := (List.takeWhile_append_dropWhile (p := fun x : Rw => decide (d < x.deep)) (l := rs)).symm
  have hr := h.hd r rs rfl
  refine ⟨fun x hx => ?_, fun x rest e => ?_, fun pre a b post e => ?_⟩
  · have := tw_mem hx
    have := of_decide_eq_true this
    omega
  · have hx : x ∈ rs.takeWhile fun x => decide (d < x.deep) := by rw [e]; exact List.mem_cons_self ..
    have h1 := of_decide_eq_true (tw_mem hx)
    have hs' : rs = x :: (rest ++ rs.dropWhile fun x => decide (d < x.deep)) := hs.trans (congrArg (· ++ _) e)
    have := h.step [] r x (rest ++ rs.dropWhile fun x => decide (d < x.deep)) (congrArg (r :: ·) hs')
    omega
  · have hs' : rs = pre ++ a :: b :: (post ++ rs.dropWhile fun x => decide (d < x.deep)) := hs.trans ((congrArg (· ++ _) e).trans (by simp))
    exact h.step (r :: pre) a b (post ++ rs.dropWhile fun x => decide (d < x.deep)) (congrArg (r :: ·) hs')
theorem drop_head {p : Rw → Bool} : ∀ {rs : List Rw} {x : Rw} {rest : List Rw}, rs.dropWhile p = x :: rest → p x = false
  | [], x, rest, e => by simp at e
  | r :: rs, x, rest, e => by
    rw [List.dropWhile_cons] at e
    split at e
    · exact drop_head e
    · rename_i hp
      cases e
      simpa using hp
theorem Wf.behind {d : Nat} {r : Rw} {rs : List Rw} (h : Wf d (r :: rs)) : Wf d (rs.dropWhile fun x => decide (d < x.deep)) := by
  have hs := (List.takeWhile_append_dropWhile (p := fun x : Rw => decide (d < x.deep)) (l := rs)).symm
  have sub : ∀ x ∈ rs.dropWhile (fun x => decide (d < x.deep)), x ∈ rs := fun x hx => (List.dropWhile_suffix _).subset hx
  refine ⟨fun x hx => h.ge x (List.mem_cons_of_mem _ (sub x hx)), fun x rest e => ?_, fun pre a b post e => ?_⟩
  · have h1 := of_decide_eq_false (drop_head e)
    have h2 := h.ge x (List.mem_cons_of_mem _ (sub x (by rw [e]; exact List.mem_cons_self ..)))
    omega
  · have hs' : rs = (rs.takeWhile fun x => decide (d < x.deep)) ++ (pre ++ a :: b :: post) := hs.trans (congrArg (_ ++ ·) e)
    exact h.step (r :: (rs.takeWhile fun x => decide (d < x.deep)) ++ pre) a b post ((congrArg (r :: ·) hs').trans (by simp))
theorem lay_hung : ∀ (n d : Nat) (rs : List Rw), rs.length ≤ n → Wf d rs → ∀ (ctx : List Rw) (pl : List Int) (ns : List Str) (k : Nat), ns.reverse = up ctx d → (lay (hung n d rs) pl ns k).map (fun e => (e.p, e.names)) = annot ctx rs
  | 0, d, rs, hl, _, ctx, pl, ns, k, _ => by
    have : rs = [] := List.length_eq_zero_iff.mp (by omega)
    subst this
    rfl
  | n + 1, d, [], _, _, ctx, pl, ns, k, _ => rfl
  | n + 1, d, r :: rs, hl, wf, ctx, pl, ns, k, hu => by
    have hr := wf.hd r rs rfl
    have hs := (List.takeWhile_append_dropWhile (p := fun x : Rw => decide (d < x.deep)) (l := rs)).symm
    have l1 : (rs.takeWhile fun x => decide (d < x.deep)).length ≤ n := by
      have := congrArg List.length hs
      rw [List.length_append] at this
      rw [List.length_cons] at hl
      omega
    have l2 : (rs.dropWhile fun x => decide (d < x.deep)).length ≤ n := by
      have := congrArg List.length hs
      rw [List.length_append] at this
      rw [List.length_cons] at hl
      omega
    have h1 := lay_hung n (d + 1) _ l1 wf.inner (r :: ctx) (pl ++ [(k : Int)]) (ns ++ [r.p.name]) 0 (by
      rw [List.reverse_append, up, if_pos (by omega), hr, ← hu]
      rfl)
    have h2 := lay_hung n d _ l2 wf.behind ((rs.takeWhile fun x => decide (d < x.deep)).reverse ++ r :: ctx) pl ns (k + 1) (by
      rw [up_skip, up, if_neg (by omega), hu]
      intro x hx
      have := of_decide_eq_true (tw_mem (List.mem_reverse.mp hx))
      omega)
    rw [hung, lay, List.map_cons, List.map_append, h1, h2, annot, hr, ← hu, List.reverse_reverse]
    congr 1
    rw [← annot_app, ← hs]
theorem hung_hgt : ∀ (n d : Nat) (rs : List Rw), (hung n d rs).hgt ≤ rs.length
  | 0, _, _ => Nat.zero_le _
  | _ + 1, _, [] => Nat.zero_le _
  | n + 1, d, r :: rs => by
    have hs := congrArg List.length (List.takeWhile_append_dropWhile (p := fun x : Rw => decide (d < x.deep)) (l := rs))
    rw [List.length_append] at hs
    have h1 := hung_hgt n (d + 1) (rs.takeWhile fun x => decide (d < x.deep))
    have h2 := hung_hgt n d (rs.dropWhile fun x => decide (d < x.deep))
    rw [hung, Fo.hgt, List.length_cons]
    omega
abbrev sheet (rs : List Rw) : Fo := hung rs.length 0 rs
theorem ents_sheet {rs : List Rw} (wf : Wf 0 rs) : (ents (sheet rs)).map (fun e => (e.p, e.names)) = annot [] rs := lay_hung rs.length 0 rs (Nat.le_refl _) wf [] [] [] 0 rfl
theorem annot_p : ∀ (rs ctx : List Rw), (annot ctx rs).map (fun x => x.1) = rs.map (·.p)
  | [], _ => rfl
  | r :: rs, ctx => by rw [annot, List.map_cons, annot_p rs, List.map_cons]
theorem okf_sheet {rs : List Rw} (wf : Wf 0 rs) (nd : (rs.map (·.p.name)).Nodup) (h5 : rs.length ≤ 6) : Okf (sheet rs) := by
  have e := ents_sheet wf
  refine ⟨Nat.le_trans (hung_hgt _ _ _) h5, ?_, ?_⟩
  · have h := congrArg (List.map fun x : PD × List Str => x.1.name) e
    rw [List.map_map] at h
    have h2 : (annot [] rs).map (fun x : PD × List Str => x.1.name) = rs.map (·.p.name) := by
      have := congrArg (List.map PD.name) (annot_p rs [])
      rw [List.map_map, List.map_map] at this
      exact this
    rw [h2] at h
    have h3 : (ents (sheet rs)).map (fun e => e.p.name) = rs.map (·.p.name) := h
    rw [h3]; exact nd
  · have h := congrArg List.length e
    rw [List.length_map, annot_len] at h
    omega
/-! above and up -/
theorem annot_get : ∀ (rs ctx : List Rw) (k : Nat) (r : Rw), rs[k]? = some r → (annot ctx rs)[k]? = some (r.p, (up ((rs.take k).reverse ++ ctx) r.deep).reverse)
  | [], ctx, k, r, h => by simp at h
  | x :: rs, ctx, 0, r, h => by
    have : x = r := Option.some.inj h
    subst this
    rfl
  | x :: rs, ctx, k + 1, r, h => by
    have h' : rs[k]? = some r := h
    rw [annot]
    show (annot (x :: ctx) rs)[k]? = _
    rw [annot_get rs (x :: ctx) k r h', List.take_succ_cons, List.reverse_cons, List.append_assoc]
    rfl
theorem abFold (rs : List Rw) : ∀ (k : Nat), k ≤ rs.length → ∀ (f : List Nat) (d : Nat), (((List.range k).reverse.foldl (abStep rs) (f, d)).1).map (nameAt rs) = f.map (nameAt rs) ++ up (rs.take k).reverse d
  | 0, _, f, d => by simp [up]
  | k + 1, hk, f, d => by
    obtain ⟨r, hr⟩ : ∃ r, rs[k]? = some r := ⟨rs[k], List.getElem?_eq_getElem (by omega)⟩
    have et : rs.take (k + 1) = rs.take k ++ [r] := by rw [List.take_add_one, hr]; rfl
    rw [List.range_succ, List.reverse_append, List.reverse_singleton, List.singleton_append, List.foldl_cons, et, List.reverse_append, List.reverse_singleton, List.singleton_append, up]
    have hd : deepAt rs k = r.deep := by unfold deepAt; rw [hr]; rfl
    have hn : nameAt rs k = r.p.name := by unfold nameAt; rw [hr]; rfl
    have hst : abStep rs (f, d) k = if deepAt rs k < d then (f ++ [k], deepAt rs k) else (f, d) := rfl
    rw [hst, hd]
    by_cases c : r.deep < d
    · rw [if_pos c, if_pos c, abFold rs k (by omega), List.map_append, List.append_assoc]
      show _ ++ ([nameAt rs k] ++ _) = _
      rw [hn]
      rfl
    · rw [if_neg c, if_neg c, abFold rs k (by omega)]
theorem above_names {rs : List Rw} {k : Nat} {r : Rw} (hr : rs[k]? = some r) : (above rs k).map (nameAt rs) = (up (rs.take k).reverse r.deep).reverse := by
  have hk := (List.getElem?_eq_some_iff.mp hr).1
  have hd : deepAt rs k = r.deep := by unfold deepAt; rw [hr]; rfl
  unfold above aboveR
  rw [List.map_reverse, hd, abFold rs k (by omega)]
  rfl
theorem ents_get {rs : List Rw} (wf : Wf 0 rs) {k : Nat} {r : Rw} (hr : rs[k]? = some r) : ∃ e, (ents (sheet rs))[k]? = some e ∧ e.p = r.p ∧ e.names = (above rs k).map (nameAt rs) := by
  have h := congrArg (fun l => l[k]?) (ents_sheet wf)
  rw [annot_get rs [] k r hr, List.append_nil, ← above_names hr] at h
  rw [List.getElem?_map] at h
  cases q : (ents (sheet rs))[k]? with
  | none => rw [q] at h; cases h
  | some e =>
    rw [q] at h
    have h := Option.some.inj h
    exact ⟨e, rfl, congrArg Prod.fst h, congrArg Prod.snd h⟩
theorem abFold_lt (rs : List Rw) : ∀ (js : List Nat) (n : Nat), (∀ j ∈ js, j < n) → ∀ (f : List Nat) (d : Nat), (∀ j ∈ f, j < n) → ∀ j ∈ (js.foldl (abStep rs) (f, d)).1, j < n
  | [], n, _, f, d, hf, j, hj => hf j hj
  | x :: js, n, h, f, d, hf, j, hj => by
    rw [List.foldl_cons] at hj
    have hst : abStep rs (f, d) x = if deepAt rs x < d then (f ++ [x], deepAt rs x) else (f, d) := rfl
    rw [hst] at hj
    split at hj
    · refine abFold_lt rs js n (fun y hy => h y (List.mem_cons_of_mem _ hy)) _ _ (fun y hy => ?_) j hj
      rcases List.mem_append.mp hy with hy | hy
      · exact hf y hy
      · rw [List.mem_singleton.mp hy]; exact h x (List.mem_cons_self ..)
    · exact abFold_lt rs js n (fun y hy => h y (List.mem_cons_of_mem _ hy)) _ _ hf j hj
theorem above_lt {rs : List Rw} {k j : Nat} (h : j ∈ above rs k) : j < k := by
  unfold above aboveR at h
  rw [List.mem_reverse] at h
  exact abFold_lt rs _ k (fun y hy => List.mem_range.mp (List.mem_reverse.mp hy)) [] _ (fun y hy => by cases hy) j h
/-- the law's open rows are the program's open parts -/
theorem opens_sheet {rs : List Rw} (wf : Wf 0 rs) (nd : (rs.map (·.p.name)).Nodup) (h5 : rs.length ≤ 6) : opens (sheet rs) = (free rs).map (nameAt rs) := by
  have ok := okf_sheet wf nd h5
  have hl : (ents (sheet rs)).length = rs.length := by
    have h := congrArg List.length (ents_sheet wf)
    rw [List.length_map, annot_len] at h
    exact h
  have word : ∀ j, j < rs.length → wordOf (sheet rs) (nameAt rs j) = wordAt rs j := fun j hj => by
    have hr : rs[j]? = some rs[j] := List.getElem?_eq_getElem hj
    obtain ⟨e, he, h1, h2⟩ := ents_get wf hr
    have hn : nameAt rs j = e.p.name := by unfold nameAt; rw [hr, h1]; rfl
    rw [hn, wordOf_ent ok (List.mem_of_getElem? he), h1]
    unfold wordAt
    rw [hr]
    rfl
  rw [opens_eq ok]
  unfold free
  -- entry by entry
  have key : ∀ k, k < rs.length → ∀ e, (ents (sheet rs))[k]? = some e → freeE (sheet rs) e = freeAt rs k ∧ e.p.name = nameAt rs k := fun k hk e he => by
    have hr : rs[k]? = some rs[k] := List.getElem?_eq_getElem hk
    obtain ⟨e', he', h1, h2⟩ := ents_get wf hr
    rw [he] at he'
    cases he'
    have hn : nameAt rs k = e.p.name := by unfold nameAt; rw [hr, h1]; rfl
    refine ⟨?_, hn.symm⟩
    unfold freeE freeAt
    have e1 : e.names ++ [e.p.name] = (above rs k ++ [k]).map (nameAt rs) := by rw [h2, List.map_append, ← hn]; rfl
    rw [e1, List.all_map]
    rw [Bool.eq_iff_iff, List.all_eq_true, List.all_eq_true]
    have lt : ∀ j ∈ above rs k ++ [k], j < rs.length := fun j hj => by
      rcases List.mem_append.mp hj with hj | hj
      · have := above_lt hj; omega
      · rw [List.mem_singleton.mp hj]; exact hk
    exact ⟨fun h j hj => by have := h j hj; rw [Function.comp, word j (lt j hj)] at this; exact this, fun h j hj => by rw [Function.comp, word j (lt j hj)]; exact h j hj⟩
  have gen : ∀ (es : List En) (k : Nat), (∀ i e, es[i]? = some e → freeE (sheet rs) e = freeAt rs (k + i) ∧ e.p.name = nameAt rs (k + i)) → (es.filter (freeE (sheet rs))).map (fun e => e.p.name) = ((List.range' k es.length).filter (freeAt rs)).map (nameAt rs) := by
    intro es
    induction es with
    | nil => intro k _; rfl
    | cons e es ih =>
      intro k h
      obtain ⟨h1, h2⟩ := h 0 e rfl
      have h3 := ih (k + 1) fun i x hx => by
        have := h (i + 1) x hx
        rw [show k + 1 + i = k + (i + 1) by omega]
        exact this
      rw [Nat.add_zero] at h1 h2
      rw [List.length_cons, List.range'_succ]
      cases hf : freeE (sheet rs) e with
      | true =>
        rw [List.filter_cons_of_pos hf, List.filter_cons_of_pos (by rw [← h1]; exact hf), List.map_cons, List.map_cons, h2, h3]
      | false =>
        rw [List.filter_cons_of_neg (by rw [hf]; decide), List.filter_cons_of_neg (by rw [← h1, hf]; decide), h3]
  have := gen (ents (sheet rs)) 0 fun i e he => by
    rw [Nat.zero_add]
    exact key i (by have := (List.getElem?_eq_some_iff.mp he).1; omega) e he
  rw [this, hl, List.range_eq_range']
end FW
set_option maxHeartbeats 4000000
/-! boxes -/
namespace FW
open PySem PySem.Spec PyProof.Rows L2 FZ
section
variable {P : Program} {w : World} {K : PySem.W.Frag} {mg : Str → Option Value} {base : Heap}
/-! across_of: slots 0 box -/
abbrev s_across_of : Stmt := topS 24
abbrev n_across_of : List Str := ["box"]
theorem sc_across_of : FnScope n_across_of ["box"] (defScope s_across_of) := ⟨rfl, rfl, rfl, by decide +kernel, rfl, by decide +kernel, by decide +kernel⟩
abbrev spAcross (K : PySem.W.Frag) : Sp := spI K 1 (fun b => [boxD b]) (fun _ => True) (fun b d => d = stD (across b))
theorem ok_across_of (D : Df K mg "across_of" s_across_of ["box"]) {k : Nat} : Cal P w K mg base (k + 1) "across_of" (spAcross K) := by
  refine D.cal sc_across_of rfl fun f cdv A outer s H E hr => ?_
  have sc := sc_across_of
  refine ⟨_, ((pss_one (ps_ret (pe_tup (pa_cons (pe_ix (ixT K rfl) (pv 0) pe_int (fun _ _ => rfl)) (pa_cons (pe_op op_add (pe_ix (ixT K rfl) (pv 0) pe_int (fun _ _ => rfl)) (pe_ix (ixT K rfl) (pv 0) pe_int (fun _ _ => rfl))) pa_nil)))))), ?_⟩
  intro B H' b _
  exact rn_ret (ev_tup (ea_cons (ev_ixT (ev_var rfl) ev_int rfl) (ea_cons (ev_add (ev_ixT (ev_var rfl) ev_int rfl) (ev_ixT (ev_var rfl) ev_int rfl)) ea_nil))) rfl
/-! down_of: slots 0 box -/
abbrev s_down_of : Stmt := topS 25
abbrev n_down_of : List Str := ["box"]
theorem sc_down_of : FnScope n_down_of ["box"] (defScope s_down_of) := ⟨rfl, rfl, rfl, by decide +kernel, rfl, by decide +kernel, by decide +kernel⟩
abbrev spDown (K : PySem.W.Frag) : Sp := spI K 1 (fun b => [boxD b]) (fun _ => True) (fun b d => d = stD (downO b))
theorem ok_down_of (D : Df K mg "down_of" s_down_of ["box"]) {k : Nat} : Cal P w K mg base (k + 1) "down_of" (spDown K) := by
  refine D.cal sc_down_of rfl fun f cdv A outer s H E hr => ?_
  have sc := sc_down_of
  refine ⟨_, ((pss_one (ps_ret (pe_tup (pa_cons (pe_ix (ixT K rfl) (pv 0) pe_int (fun _ _ => rfl)) (pa_cons (pe_op op_add (pe_ix (ixT K rfl) (pv 0) pe_int (fun _ _ => rfl)) (pe_ix (ixT K rfl) (pv 0) pe_int (fun _ _ => rfl))) pa_nil)))))), ?_⟩
  intro B H' b _
  exact rn_ret (ev_tup (ea_cons (ev_ixT (ev_var rfl) ev_int rfl) (ea_cons (ev_add (ev_ixT (ev_var rfl) ev_int rfl) (ev_ixT (ev_var rfl) ev_int rfl)) ea_nil))) rfl
/-! have_common: slots 0 one, 1 other -/
abbrev s_have_common : Stmt := topS 26
abbrev n_have_common : List Str := ["one", "other"]
theorem sc_have_common : FnScope n_have_common ["one", "other"] (defScope s_have_common) := ⟨rfl, rfl, rfl, by decide +kernel, rfl, by decide +kernel, by decide +kernel⟩
abbrev spCommon (K : PySem.W.Frag) : Sp := spI K 2 (fun i : (Int × Int) × (Int × Int) => [stD i.1, stD i.2]) (fun _ => True) (fun i d => d = .bl (common i.1 i.2))
theorem ok_have_common (D : Df K mg "have_common" s_have_common ["one", "other"]) {k : Nat} : Cal P w K mg base (k + 1) "have_common" (spCommon K) := by
  refine D.cal sc_have_common rfl fun f cdv A outer s H E hr => ?_
  have sc := sc_have_common
  refine ⟨_, ((pss_one (ps_ret (pe_and (pe_cmpR op_lt (pe_ix (ixT K rfl) (pv 0) pe_int (fun _ _ => rfl)) (pe_ix (ixT K rfl) (pv 1) pe_int (fun _ _ => rfl)) (nomark _)) (pe_one (pe_cmpR op_lt (pe_ix (ixT K rfl) (pv 1) pe_int (fun _ _ => rfl)) (pe_ix (ixT K rfl) (pv 0) pe_int (fun _ _ => rfl)) (nomark _))))))), ?_⟩
  intro B H' i _
  exact rn_ret (ev_and (ev_lt (ev_ixT (ev_var rfl) ev_int rfl) (ev_ixT (ev_var rfl) ev_int rfl)) (fun _ => ev_lt (ev_ixT (ev_var rfl) ev_int rfl) (ev_ixT (ev_var rfl) ev_int rfl))) rfl
/-! far_apart: slots 0 one, 1 other -/
abbrev s_far_apart : Stmt := topS 27
abbrev n_far_apart : List Str := ["one", "other"]
theorem sc_far_apart : FnScope n_far_apart ["one", "other"] (defScope s_far_apart) := ⟨rfl, rfl, rfl, by decide +kernel, rfl, by decide +kernel, by decide +kernel⟩
abbrev spFar (K : PySem.W.Frag) : Sp := spI K 2 (fun i : (Int × Int) × (Int × Int) => [stD i.1, stD i.2]) (fun _ => True) (fun i d => d = .int (farA i.1 i.2))
theorem ok_far_apart (D : Df K mg "far_apart" s_far_apart ["one", "other"]) (T : Tx K w mg) {k : Nat} (C_have_common : Cal P w K mg base k "have_common" (spCommon K)) : Cal P w K mg base (k + 1) "far_apart" (spFar K) := by
  refine D.cal sc_far_apart rfl fun f cdv A outer s H E hr => ?_
  have sc := sc_far_apart
  have hr_have_common := hr
  refine ⟨_, ((pss_cons (ps_if (pt_val (pe_cal C_have_common hr_have_common (pa_cons (pv 0) (pa_cons (pv 1) pa_nil))))
      (pss_one (ps_ret pe_int))
      pss_nil) (pss_one (ps_ret (pe_callB (call_max2 rfl) (by rfl) T.max (by decide +kernel) (pa_cons (pe_op op_sub (pe_ix (ixT K rfl) (pv 1) pe_int (fun _ _ => rfl)) (pe_ix (ixT K rfl) (pv 0) pe_int (fun _ _ => rfl))) (pa_cons (pe_op op_sub (pe_ix (ixT K rfl) (pv 0) pe_int (fun _ _ => rfl)) (pe_ix (ixT K rfl) (pv 1) pe_int (fun _ _ => rfl))) pa_nil))))))), ?_⟩
  intro B H' i _
  refine rn_seq (rn_if (et_B (ev_call i (ea_cons (ev_var rfl) (ea_cons (ev_var rfl) ea_nil)) trivial)) (fun h => rn_ret ev_int ?_) (fun h => rn_next ?_))
  · show Dt.int 0 = _
    rw [farA, if_pos h]
  · refine rn_ret (ev_max (ev_sub (ev_ixT (ev_var rfl) ev_int rfl) (ev_ixT (ev_var rfl) ev_int rfl)) (ev_sub (ev_ixT (ev_var rfl) ev_int rfl) (ev_ixT (ev_var rfl) ev_int rfl))) ?_
    rw [farA, if_neg (by rw [h]; decide)]
/-! near_by: slots 0 gap, 1 one, 2 other -/
abbrev s_near_by : Stmt := topS 28
abbrev n_near_by : List Str := ["gap", "one", "other"]
theorem sc_near_by : FnScope n_near_by ["gap", "one", "other"] (defScope s_near_by) := ⟨rfl, rfl, rfl, by decide +kernel, rfl, by decide +kernel, by decide +kernel⟩
abbrev spNear (K : PySem.W.Frag) : Sp := spI K 3 (fun i : Int × (Int × Int) × (Int × Int) => [.int i.1, stD i.2.1, stD i.2.2]) (fun _ => True) (fun i d => d = nearD (nearB i.1 i.2.1 i.2.2))
theorem ok_near_by (D : Df K mg "near_by" s_near_by ["gap", "one", "other"]) (T : Tx K w mg) {k : Nat} (C_have_common : Cal P w K mg base k "have_common" (spCommon K)) (C_far_apart : Cal P w K mg base k "far_apart" (spFar K)) : Cal P w K mg base (k + 1) "near_by" (spNear K) := by
  refine D.cal sc_near_by rfl fun f cdv A outer s H E hr => ?_
  have sc := sc_near_by
  have hr_have_common := hr
  have hr_far_apart := hr
  refine ⟨_, ((pss_cons (ps_if (pt_cmpR op_lt (pv 0) pe_int (nomark _))
      (pss_one (ps_ret pe_non))
      pss_nil) (pss_one (ps_ret (pe_tup (pa_cons (pe_callTy call_int1 (by rfl) T.int (by decide +kernel) (pa_cons (pe_not (pe_cal C_have_common hr_have_common (pa_cons (pv 1) (pa_cons (pv 2) pa_nil)))) pa_nil)) (pa_cons (pv 0) (pa_cons (pe_cal C_far_apart hr_far_apart (pa_cons (pv 1) (pa_cons (pv 2) pa_nil))) pa_nil)))))))), ?_⟩
  intro B H' i _
  refine rn_seq (rn_if (et_test (ev_lt (ev_var rfl) ev_int)) (fun h => rn_ret ev_non ?_) (fun h => rn_next ?_))
  · show Dt.non = _
    rw [nearB, if_pos (of_decide_eq_true h)]
    rfl
  · refine rn_ret (ev_tup (ea_cons (ev_intB (ev_not (ev_call i.2 (ea_cons (ev_var rfl) (ea_cons (ev_var rfl) ea_nil)) trivial))) (ea_cons (ev_var rfl) (ea_cons (ev_call i.2 (ea_cons (ev_var rfl) (ea_cons (ev_var rfl) ea_nil)) trivial) ea_nil)))) ?_
    rw [nearB, if_neg (of_decide_eq_false h)]
    rfl
/-! nears: slots 0 box, 1 other, 2 level, 3 steep, 4 across, 5 down, 6 found -/
abbrev s_nears : Stmt := topS 29
abbrev n_nears : List Str := ["box", "other", "level", "steep", "across", "down", "found"]
theorem sc_nears : FnScope n_nears ["box", "other"] (defScope s_nears) := ⟨rfl, rfl, rfl, by decide +kernel, rfl, by decide +kernel, by decide +kernel⟩
abbrev spNears (K : PySem.W.Frag) : Sp := spI K 2 (fun i : B4 × B4 => [boxD i.1, boxD i.2]) (fun _ => True) (fun i d => d = .lst ((nears4 i.1 i.2).map nearD))
theorem ok_nears (D : Df K mg "nears" s_nears ["box", "other"]) {k : Nat} (C_across_of : Cal P w K mg base k "across_of" (spAcross K)) (C_down_of : Cal P w K mg base k "down_of" (spDown K)) (C_near_by : Cal P w K mg base k "near_by" (spNear K)) : Cal P w K mg base (k + 1) "nears" (spNears K) := by
  refine D.cal sc_nears rfl fun f cdv A outer s H E hr => ?_
  have sc := sc_nears
  have hr_across_of := hr
  have hr_down_of := hr
  have hr_near_by := hr
  refine ⟨_, ((pss_cons (ps_set (i := 2) sc.nd rfl (.inl rfl) (pe_cal C_across_of hr_across_of (pa_cons (pv 0) pa_nil))) (pss_cons (ps_set (i := 3) sc.nd rfl (.inl rfl) (pe_cal C_down_of hr_down_of (pa_cons (pv 0) pa_nil))) (pss_cons (ps_set (i := 4) sc.nd rfl (.inl rfl) (pe_cal C_across_of hr_across_of (pa_cons (pv 1) pa_nil))) (pss_cons (ps_set (i := 5) sc.nd rfl (.inl rfl) (pe_cal C_down_of hr_down_of (pa_cons (pv 1) pa_nil))) (pss_cons (ps_set (i := 6) sc.nd rfl (.inl rfl) (pe_lst (pa_cons (pe_cal C_near_by hr_near_by (pa_cons (pe_op op_sub (pe_ix (ixT K rfl) (pv 3) pe_int (fun _ _ => rfl)) (pe_ix (ixT K rfl) (pv 5) pe_int (fun _ _ => rfl))) (pa_cons (pv 2) (pa_cons (pv 4) pa_nil)))) (pa_cons (pe_cal C_near_by hr_near_by (pa_cons (pe_op op_sub (pe_ix (ixT K rfl) (pv 5) pe_int (fun _ _ => rfl)) (pe_ix (ixT K rfl) (pv 3) pe_int (fun _ _ => rfl))) (pa_cons (pv 2) (pa_cons (pv 4) pa_nil)))) pa_nil)))) (pss_one (ps_ret (pe_op op_cat (pv 6) (pe_lst (pa_cons (pe_cal C_near_by hr_near_by (pa_cons (pe_op op_sub (pe_ix (ixT K rfl) (pv 2) pe_int (fun _ _ => rfl)) (pe_ix (ixT K rfl) (pv 4) pe_int (fun _ _ => rfl))) (pa_cons (pv 3) (pa_cons (pv 5) pa_nil)))) (pa_cons (pe_cal C_near_by hr_near_by (pa_cons (pe_op op_sub (pe_ix (ixT K rfl) (pv 4) pe_int (fun _ _ => rfl)) (pe_ix (ixT K rfl) (pv 2) pe_int (fun _ _ => rfl))) (pa_cons (pv 3) (pa_cons (pv 5) pa_nil)))) pa_nil)))))))))))), ?_⟩
  intro B H' i _
  refine rn_seq (rn_asg (ev_call i.1 (ea_cons (ev_var rfl) ea_nil) trivial) ?_)
  refine rn_seq (rn_asg (ev_call i.1 (ea_cons (ev_var rfl) ea_nil) trivial) ?_)
  refine rn_seq (rn_asg (ev_call i.2 (ea_cons (ev_var rfl) ea_nil) trivial) ?_)
  refine rn_seq (rn_asg (ev_call i.2 (ea_cons (ev_var rfl) ea_nil) trivial) ?_)
  refine rn_seq (rn_asg (el_lst (ea_cons (ev_call ((downO i.1).1 - (downO i.2).2, across i.1, across i.2) (ea_cons (ev_sub (ev_ixT (ev_var rfl) ev_int rfl) (ev_ixT (ev_var rfl) ev_int rfl)) (ea_cons (ev_var rfl) (ea_cons (ev_var rfl) ea_nil))) trivial)
    (ea_cons (ev_call ((downO i.2).1 - (downO i.1).2, across i.1, across i.2) (ea_cons (ev_sub (ev_ixT (ev_var rfl) ev_int rfl) (ev_ixT (ev_var rfl) ev_int rfl)) (ea_cons (ev_var rfl) (ea_cons (ev_var rfl) ea_nil))) trivial) ea_nil))).fz ?_)
  refine rn_ret (el_cat (rd_var rfl) (rd_l (el_lst (ea_cons (ev_call ((across i.1).1 - (across i.2).2, downO i.1, downO i.2) (ea_cons (ev_sub (ev_ixT (ev_var rfl) ev_int rfl) (ev_ixT (ev_var rfl) ev_int rfl)) (ea_cons (ev_var rfl) (ea_cons (ev_var rfl) ea_nil))) trivial)
    (ea_cons (ev_call ((across i.2).1 - (across i.1).2, downO i.1, downO i.2) (ea_cons (ev_sub (ev_ixT (ev_var rfl) ev_int rfl) (ev_ixT (ev_var rfl) ev_int rfl)) (ea_cons (ev_var rfl) (ea_cons (ev_var rfl) ea_nil))) trivial) ea_nil)))) (by simp)).fz rfl
end
end FW
set_option maxHeartbeats 4000000
/-! sheets -/
namespace FW
open PySem PySem.Spec PyProof.Rows L2 FZ
section
variable {P : Program} {w : World} {K : PySem.W.Frag} {mg : Str → Option Value} {base : Heap}
/-! lay_out: slots 0 parts, 1 place, 2 names, 3 told, 4 k, 5 part -/
abbrev s_lay_out : Stmt := topS 7
abbrev n_lay_out : List Str := ["parts", "place", "names", "told", "k", "part"]
theorem sc_lay_out : FnScope n_lay_out ["parts", "place", "names", "told"] (defScope s_lay_out) := ⟨rfl, rfl, rfl, by decide +kernel, rfl, by decide +kernel, by decide +kernel⟩
abbrev LayI := Fo × List Int × List Str × List En
abbrev spLay (K : PySem.W.Frag) (n : Nat) : Sp := spO K 3 (fun i : LayI => [shD i.1, .tup (i.2.1.map .int), strsD i.2.2.1]) (fun i => i.2.2.2.map encE)
  (fun i => i.1.hgt < n ∧ i.2.2.2.length + (lay i.1 i.2.1 i.2.2.1 0).length ≤ 1000 ∧ i.2.1.length + i.1.hgt ≤ 1000 ∧ i.2.2.1.length + i.1.hgt ≤ 1000) (fun i => (i.2.2.2 ++ lay i.1 i.2.1 i.2.2.1 0).map encE)
theorem ok_lay_out (D : Df K mg "lay_out" s_lay_out ["parts", "place", "names", "told"]) (T : Tx K w mg) (k0 : Nat) : ∀ n, Cal P w K mg base (k0 + n) "lay_out" (spLay K n)
  | 0 => D.never fun vs H Q E h => by
    obtain ⟨_, i, _, _, _, _, _, _, _, _, _, _, hp, _⟩ := h
    exact absurd hp.1 (Nat.not_lt_zero _)
  | n + 1 => by
    have C_lay_out := ok_lay_out D T k0 n
    refine D.calO sc_lay_out rfl fun f cdv A outer s H E hr => ?_
    have sc := sc_lay_out
    have hr_lay_out := hr
    refine ⟨_, ((pss_one (ps_for PassesOwn.never rfl (piEnT K rfl (by rfl) T.enumerate (pa_cons (pv 0) pa_nil)) (pgT K (n := 2) rfl rfl (pgs_cons (pg_name (i := 4) sc.nd rfl (.inl rfl)) (pgs_cons (pg_name (i := 5) sc.nd rfl (.inl rfl)) pgs_nil)))
      (pss_cons (ps_expr (pbm K rfl PySem.F.plainAttrs_list PySem.F.slot_list_append PySem.F.type_list_append mt_append (pv 3) (pa_cons (pe_tup (pa_cons (pe_op (catA K rfl) (pv 1) (pe_tup (pa_cons (pv 4) pa_nil))) (pa_cons (pv 5) (pa_cons (pv 2) pa_nil)))) pa_nil))) (pss_one (ps_expr (pe_cal C_lay_out hr_lay_out (pa_cons (pe_ix (ixT K rfl) (pv 5) pe_int (fun _ _ => rfl)) (pa_cons (pe_op (catA K rfl) (pv 1) (pe_tup (pa_cons (pv 4) pa_nil))) (pa_cons (pe_op op_cat (pv 2) (pe_lst (pa_cons (pe_ix (ixT K rfl) (pv 5) pe_int (fun _ _ => rfl)) pa_nil))) (pa_cons (pv 3) pa_nil))))))))))), ?_⟩
    rintro B H' l ⟨s, pl, ns, es⟩ ⟨h1, h2, h3, h4⟩
    dsimp only at h1 h2 h3 h4
    refine rn_fold ((toL s).zipIdx) (fun x => .tup [.int (x.2 : Nat), encP x.1.1 x.1.2]) (fun b => [.fz (shD s), .fz (.tup (pl.map .int)), .fz (strsD ns), .oa l (b.map encE), .un, .un]) (layStep pl ns) es _ _
      ((is_enumT (ev_var rfl)).is ?_) (Wk.refl _) (fun e _ => tg_tup2 4 5 _ _) 6 (fun _ => rfl) (by decide) ?_ ?_
    · unfold enumD
      rw [encF_toL, List.zipIdx_map, List.map_map]
      rfl
    · rintro pre ⟨⟨p, i⟩, j⟩ post b hx hb
      have hm : (p, i) ∈ toL s := by
        have : ((p, i), j) ∈ (toL s).zipIdx := by rw [hx]; simp
        have := List.mem_zipIdx' this
        rw [this.2]; exact List.getElem_mem _
      have hh : i.hgt < s.hgt := hgt_mem s (p, i) hm
      have hlen : b.length + ((lay i (pl ++ [(j : Int)]) (ns ++ [p.name]) 0).length + 1) ≤ 1000 := by
        have e1 := lay_fold pl ns s 0 es
        rw [hx, List.foldl_append, List.foldl_cons, ← hb] at e1
        have e2 : ∀ (ys : List ((PD × Fo) × Nat)) (c : List En), c.length ≤ (ys.foldl (layStep pl ns) c).length := fun ys => by
          induction ys with
          | nil => intro c; exact Nat.le_refl _
          | cons y ys ih => intro c; refine Nat.le_trans ?_ (ih _); simp [layStep]
        have e3 := e2 post (layStep pl ns b ((p, i), j))
        rw [e1] at e3
        simp [layStep] at e3
        omega
      refine rn_seq (rn_appA rfl (ev_tup (ea_cons (ev_catT (ev_var rfl) (ev_tup (ea_cons (ev_var rfl) ea_nil)) (by simp; omega)) (ea_cons (ev_var rfl) (ea_cons (ev_var rfl) ea_nil)))) (by simp; omega) ?_)
      refine rn_callOa (b := l) (j := 3) (i, pl ++ [(j : Int)], ns ++ [p.name], b ++ [⟨pl ++ [(j : Int)], p, i, ns⟩]) ?_ ?_ ?_ ?_
      · show some (Slot.oa l (b.map encE ++ [_])) = some (Slot.oa l ((b ++ [_]).map encE))
        rw [List.map_append]
        show _ = some (Slot.oa l (b.map encE ++ [encE _]))
        unfold encE
        dsimp only
        rw [List.map_append]
        rfl
      · refine eao_cons (ev_ixT (ev_var rfl) ev_int rfl) (eao_cons ?_ (eao_cons ?_ eao_last))
        · refine (ev_catT (ev_var rfl) (ev_tup (ea_cons (ev_var rfl) ea_nil)) (by simp; omega)).is ?_
          rw [List.map_append]; rfl
        · refine (el_cat (rd_var rfl) (rd_l (el_lst (ea_cons (ev_ixT (ev_var rfl) ev_int rfl) ea_nil))) (by simp; omega)).fz.is ?_
          unfold strsD
          rw [List.map_append]; rfl
      · refine ⟨?_, ?_, ?_, ?_⟩ <;> simp <;> omega
      · refine wk_eq (wk_eq (wk_eq (wk_oa ?_ (wk_un (wk_un wk_nil)))))
        rw [layStep, List.append_assoc]
        rfl
    · rw [lay_fold]
      rfl
/-! entries: slots 0 sheet, 1 told -/
abbrev s_entries : Stmt := topS 8
abbrev n_entries : List Str := ["sheet", "told"]
theorem sc_entries : FnScope n_entries ["sheet"] (defScope s_entries) := ⟨rfl, rfl, rfl, by decide +kernel, rfl, by decide +kernel, by decide +kernel⟩
abbrev spEntries (K : PySem.W.Frag) : Sp := spI K 1 (fun s => [shD s]) Okf (fun s d => d = entsD (ents s))
theorem ok_entries (D : Df K mg "entries" s_entries ["sheet"]) {k : Nat} (C_lay_out : Cal P w K mg base k "lay_out" (spLay K 7)) : Cal P w K mg base (k + 1) "entries" (spEntries K) := by
  refine D.cal sc_entries rfl fun f cdv A outer s H E hr => ?_
  have sc := sc_entries
  have hr_lay_out := hr
  refine ⟨_, ((pss_cons (ps_set (i := 1) sc.nd rfl (.inl rfl) (pe_lst pa_nil)) (pss_cons (ps_expr (pe_cal C_lay_out hr_lay_out (pa_cons (pv 0) (pa_cons (pe_tup pa_nil) (pa_cons (pe_lst pa_nil) (pa_cons (pv 1) pa_nil)))))) (pss_one (ps_ret (pv 1)))))), ?_⟩
  intro B H' sh ok
  refine rn_seq (rn_asgL (el_lst ea_nil) ?_)
  refine rn_seq (rn_callO (sh, [], [], []) rfl (eao_cons (ev_var rfl) (eao_cons (ev_tup ea_nil) (eao_cons (el_lst ea_nil).fz eao_last))) ?_ ?_)
  · have h1 := ok.hgt
    have h2 := ok.sz
    refine ⟨?_, ?_, ?_, ?_⟩
    · show sh.hgt < 7; omega
    · show 0 + (ents sh).length ≤ 1000; omega
    · show 0 + sh.hgt ≤ 1000; omega
    · show 0 + sh.hgt ≤ 1000; omega
  · refine rn_freeze (i := 1) (fun _ z => z) rfl ?_
    exact rn_ret (ev_var rfl) rfl
/-! entry_of: slots 0 sheet, 1 name, 2 entry -/
abbrev s_entry_of : Stmt := topS 9
abbrev n_entry_of : List Str := ["sheet", "name", "entry"]
theorem sc_entry_of : FnScope n_entry_of ["sheet", "name"] (defScope s_entry_of) := ⟨rfl, rfl, rfl, by decide +kernel, rfl, by decide +kernel, by decide +kernel⟩
abbrev spEntryOf (K : PySem.W.Frag) : Sp := spI K 2 (fun i : Fo × En => [shD i.1, .str i.2.p.name]) (fun i => Okf i.1 ∧ i.2 ∈ ents i.1) (fun i d => d = encE i.2)
theorem ok_entry_of (D : Df K mg "entry_of" s_entry_of ["sheet", "name"]) {k : Nat} (C_entries : Cal P w K mg base k "entries" (spEntries K)) : Cal P w K mg base (k + 1) "entry_of" (spEntryOf K) := by
  refine D.cal sc_entry_of rfl fun f cdv A outer s H E hr => ?_
  have sc := sc_entry_of
  have hr_entries := hr
  refine ⟨_, ((pss_cons (ps_for PassesOwn.never rfl (piL K rfl (pe_cal C_entries hr_entries (pa_cons (pv 0) pa_nil))) (pg_name (i := 2) sc.nd rfl (.inl rfl))
      (pss_one (ps_if (pt_cmpR op_eq (pe_ix (ixT K rfl) (pe_ix (ixT K rfl) (pv 2) pe_int (fun _ _ => rfl)) pe_int (fun _ _ => rfl)) (pv 1) (nomark _))
      (pss_one (ps_ret (pv 2)))
      pss_nil))) (pss_one ps_never))), ?_⟩
  rintro B H' ⟨sh, e⟩ ⟨ok, he⟩
  refine rn_seq (rn_seek (ents sh) encE [.fz (shD sh), .fz (.str e.p.name), .un] (fun x => ¬ x.p.name = e.p.name) _ _ (is_list (ev_call sh (ea_cons (ev_var rfl) ea_nil) ok)) (Wk.refl _) (fun x _ => tg_name 2 _) 3 rfl (by decide) ?_ ?_)
  · intro pre x post hx hpre
    refine rn_if (et_test (ev_eqS (ev_ixT (ev_ixT (ev_var rfl) ev_int rfl) ev_int rfl) (ev_var rfl))) (fun h => rn_ret (ev_var rfl) ?_) (fun h => rn_next ⟨wk_eq (wk_eq (wk_un wk_nil)), of_decide_eq_false h⟩)
    show encE x = encE e
    rw [ok.inj (hx ▸ List.mem_append_right pre (List.mem_cons_self ..)) he (of_decide_eq_true h)]
  · intro h
    exact absurd rfl (h e he)
/-! part_of: slots 0 sheet, 1 name -/
abbrev s_part_of : Stmt := topS 10
abbrev n_part_of : List Str := ["sheet", "name"]
theorem sc_part_of : FnScope n_part_of ["sheet", "name"] (defScope s_part_of) := ⟨rfl, rfl, rfl, by decide +kernel, rfl, by decide +kernel, by decide +kernel⟩
abbrev spPartOf (K : PySem.W.Frag) : Sp := spI K 2 (fun i : Fo × En => [shD i.1, .str i.2.p.name]) (fun i => Okf i.1 ∧ i.2 ∈ ents i.1) (fun i d => d = encP i.2.p i.2.inner)
theorem ok_part_of (D : Df K mg "part_of" s_part_of ["sheet", "name"]) {k : Nat} (C_entry_of : Cal P w K mg base k "entry_of" (spEntryOf K)) : Cal P w K mg base (k + 1) "part_of" (spPartOf K) := by
  refine D.cal sc_part_of rfl fun f cdv A outer s H E hr => ?_
  have sc := sc_part_of
  have hr_entry_of := hr
  refine ⟨_, ((pss_one (ps_ret (pe_ix (ixT K rfl) (pe_cal C_entry_of hr_entry_of (pa_cons (pv 0) (pa_cons (pv 1) pa_nil))) pe_int (fun _ _ => rfl))))), ?_⟩
  rintro B H' i hi
  exact rn_ret (ev_ixT (ev_call i (ea_cons (ev_var rfl) (ea_cons (ev_var rfl) ea_nil)) hi) ev_int rfl) rfl
end
end FW
set_option maxHeartbeats 4000000
namespace FW
open PySem PySem.Spec PyProof.Rows L2 FZ
section
variable {P : Program} {w : World} {K : PySem.W.Frag} {mg : Str → Option Value} {base : Heap}
/-! seen_or_open: slots 0 sheet, 1 only, 2 found, 3 shut, 4 place, 5 part, 6 names, 7 name; cells ['shut'] -/
abbrev s_seen_or_open : Stmt := topS 20
abbrev n_seen_or_open : List Str := ["sheet", "only", "found", "shut", "place", "part", "names", "name"]
theorem sc_seen_or_open : FnScope n_seen_or_open ["sheet", "only"] (defScope s_seen_or_open) := ⟨rfl, rfl, rfl, by decide +kernel, rfl, by decide +kernel, by decide +kernel⟩
abbrev spSeen (K : PySem.W.Frag) : Sp := spI K 2 (fun s => [shD s, .bl true]) Okf (fun s d => d = strsD (opens s))
theorem openFold_len : ∀ (es : List En) (b : List Str × List Str), (es.foldl openStep b).1.length + (es.foldl openStep b).2.length = b.1.length + b.2.length + es.length
  | [], b => rfl
  | e :: es, b => by
    rw [List.foldl_cons, openFold_len es, List.length_cons]
    unfold openStep
    split <;> simp <;> omega
theorem ok_seen_or_open (D : Df K mg "seen_or_open" s_seen_or_open ["sheet", "only"]) (T : Tx K w mg) {k : Nat} (C_entries : Cal P w K mg base k "entries" (spEntries K)) : Cal P w K mg base (k + 1) "seen_or_open" (spSeen K) := by
  refine D.cal sc_seen_or_open rfl fun f cdv A outer s H E hr => ?_
  have sc := sc_seen_or_open
  have hr_entries := hr
  refine ⟨_, ((pss_cons (ps_set (i := 2) sc.nd rfl (.inl rfl) (pe_lst pa_nil)) (pss_cons (ps_set (i := 3) sc.nd rfl (.inr rfl) (pe_lst pa_nil)) (pss_cons (ps_for PassesOwn.never rfl (piL K rfl (pe_cal C_entries hr_entries (pa_cons (pv 0) pa_nil))) (pgT K (n := 3) rfl rfl (pgs_cons (pg_name (i := 4) sc.nd rfl (.inl rfl)) (pgs_cons (pg_name (i := 5) sc.nd rfl (.inl rfl)) (pgs_cons (pg_name (i := 6) sc.nd rfl (.inl rfl)) pgs_nil))))
      (pss_one (ps_if (PW.pt (pw_or (PW.pt (pw_and (pt_cmpR op_ne (pe_ix (ixT K rfl) (pv 5) pe_int (fun _ _ => rfl)) (pe_gs T.FREE) (nomark _)) (pw_and1 (PW.pt (pw_or (pt_val (pv 1)) (pw_or1 (pt_cmpR op_eq (pe_ix (ixT K rfl) (pv 5) pe_int (fun _ _ => rfl)) (pe_gs T.HIDDEN) (nomark _)))))))) (pw_or1 (pt_val (pe_callB (anyK K rfl rfl) (by rfl) T.any (by decide +kernel) (pa_cons (pe_lc (own := [("name", 7)]) (g := (gName 7)) rfl sc.nd (piL K rfl (pv 6)) (blkOk_by (N := n_seen_or_open) (sc := defScope s_seen_or_open) (by decide +kernel)) (fun _ _ _ _ _ => (pg_name (i := 7) sc.nd rfl (.inl rfl))) (fun _ _ _ _ _ => pts_nil) (fun _ _ _ _ _ => (pe_cmpR (inS K rfl) (pv 7) (pv 3) (by rfl)))) pa_nil))))))
      (pss_one (ps_expr (pbm K rfl PySem.F.plainAttrs_list PySem.F.slot_list_append PySem.F.type_list_append mt_append (pv 3) (pa_cons (pe_ix (ixT K rfl) (pv 5) pe_int (fun _ _ => rfl)) pa_nil))))
      (pss_one (ps_expr (pbm K rfl PySem.F.plainAttrs_list PySem.F.slot_list_append PySem.F.type_list_append mt_append (pv 2) (pa_cons (pe_ix (ixT K rfl) (pv 5) pe_int (fun _ _ => rfl)) pa_nil))))))) (pss_one (ps_ret (pv 2))))))), ?_⟩
  intro B H' sh ok
  refine rn_seq (rn_asgL (el_lst ea_nil) ?_)
  refine rn_seq (rn_asgL (el_lst ea_nil) ?_)
  refine rn_seq (rn_fold (ents sh) encE (fun b => [.fz (shD sh), .fz (.bl true), .ow (b.1.map .str), .ow (b.2.map .str), .un, .un, .un, .un]) openStep ([], []) _ _
    (is_list (ev_call sh (ea_cons (ev_var rfl) ea_nil) ok)) (Wk.refl _) (fun e _ => tg_tup3 4 5 6 _ _ _) 8 (fun _ => rfl) (by decide) ?_ ?_)
  · intro pre e post b hx hb
    have hlen : b.1.length + b.2.length ≤ 40 := by
      have h1 := openFold_len pre ([], [])
      have h2 := ok.sz
      rw [hx, List.length_append] at h2
      rw [hb, h1]; simp; omega
    refine rn_if (b := shutB e b.2) ?_ (fun hc => ?_) (fun hc => ?_)
    · refine (et_or (et_and (et_test (ev_neS (ev_ixT (ev_var rfl) ev_int rfl) ev_str)) (fun _ => et_or1 (et_B (ev_var rfl)))) (fun _ => et_B (ev_any (bs := e.names.map fun n => decide (n ∈ b.2)) (rd_l ((el_lc0 e.names .str (fun n => .bl (decide (n ∈ b.2))) _ (is_list (ev_var rfl)) ?_ (un1 rfl) (fun _ h => h) (fun n _ => tg_name 7 _) (fun n _ => ev_inS (ev_var rfl) (rd_own rfl))).is (by simp)))))).is ?_
      · have := (ok.nl (hx ▸ List.mem_append_right pre (List.mem_cons_self ..))).1
        omega
      · unfold shutB
        simp [List.any_map]
    · refine rn_app rfl (ev_ixT (ev_var rfl) ev_int rfl) (by simp; omega) ?_
      rw [openStep, if_pos hc, List.map_append]
      exact wk_eq (wk_eq (wk_eq (wk_eq (wk_un (wk_un (wk_un (wk_un wk_nil)))))))
    · refine rn_app rfl (ev_ixT (ev_var rfl) ev_int rfl) (by simp; omega) ?_
      rw [openStep, if_neg (by rw [hc]; decide), List.map_append]
      exact wk_eq (wk_eq (wk_eq (wk_eq (wk_un (wk_un (wk_un (wk_un wk_nil)))))))
  · refine rn_freeze (i := 2) (fun _ z => z) rfl ?_
    refine rn_ret (ev_var rfl) rfl
end
end FW
set_option maxHeartbeats 4000000
/-! views -/
namespace FW
open PySem PySem.Spec PyProof.Rows L2 FZ
section
variable {P : Program} {w : World} {K : PySem.W.Frag} {mg : Str → Option Value} {base : Heap}
/-! words_on: slots 0 told, 1 entry, 2 words, 3 place, 4 part, 5 names, 6 name; cells ['words'] -/
abbrev s_words_on : Stmt := topS 15
abbrev n_words_on : List Str := ["told", "entry", "words", "place", "part", "names", "name"]
theorem sc_words_on : FnScope n_words_on ["told", "entry"] (defScope s_words_on) := ⟨rfl, rfl, rfl, by decide +kernel, rfl, by decide +kernel, by decide +kernel⟩
def freeD (n : Str) : Dt := .tup [.str n, .str "free"]
abbrev spWords (K : PySem.W.Frag) : Sp := spI K 2 (fun i : Fo × En => [entsD (ents i.1), encE i.2]) (fun i => OpenE i.1 i.2) (fun i d => d = .lst ((i.2.names ++ [i.2.p.name]).map freeD))
theorem ok_words_on (D : Df K mg "words_on" s_words_on ["told", "entry"]) {k : Nat} : Cal P w K mg base (k + 1) "words_on" (spWords K) := by
  refine D.cal sc_words_on rfl fun f cdv A outer s H E hr => ?_
  have sc := sc_words_on
  have hu := hu_of hr
  refine ⟨_, ((pss_cons (ps_set (i := 2) sc.nd rfl (.inr rfl) pe_dnewK) (pss_cons (ps_for PassesOwn.never rfl (piL K rfl (pv 0)) (pgT K (n := 3) rfl rfl (pgs_cons (pg_name (i := 3) sc.nd rfl (.inl rfl)) (pgs_cons (pg_name (i := 4) sc.nd rfl (.inl rfl)) (pgs_cons (pg_name (i := 5) sc.nd rfl (.inl rfl)) pgs_nil))))
      (pss_one (ps_dput hu (pv 2) (pe_ix (ixT K rfl) (pv 4) pe_int (fun _ _ => rfl)) (pe_ix (ixT K rfl) (pv 4) pe_int (fun _ _ => rfl)) rfl))) (pss_one (ps_ret (pe_lc (own := [("name", 6)]) (g := (gName 6)) rfl sc.nd (piL K rfl (pe_op op_cat (pe_ix (ixT K rfl) (pv 1) pe_int (fun _ _ => rfl)) (pe_lst (pa_cons (pe_ix (ixT K rfl) (pe_ix (ixT K rfl) (pv 1) pe_int (fun _ _ => rfl)) pe_int (fun _ _ => rfl)) pa_nil)))) (blkOk_by (N := n_words_on) (sc := defScope s_words_on) (by decide +kernel)) (fun _ _ _ _ _ => (pg_name (i := 6) sc.nd rfl (.inl rfl))) (fun _ _ _ _ _ => pts_nil) (fun _ _ _ _ _ => (pe_tup (pa_cons (pv 6) (pa_cons (pe_dget hu (pv 2) (pv 6) (fun _ _ => rfl)) pa_nil)))))))))), ?_⟩
  rintro B H' ⟨sh, e⟩ op
  refine rn_seq (rn_asgK ek_new ?_)
  refine rn_seq (rn_fold (ents sh) encE (fun b => [.fz (entsD (ents sh)), .fz (encE e), .od b, .un, .un, .un, .un]) (fun k x => dput k x.p.name (.str x.p.word)) [] _ _ (is_list (ev_var rfl)) (Wk.refl _) (fun e _ => tg_tup3 3 4 5 _ _ _) 7 (fun _ => rfl) (by decide) ?_ ?_)
  · intro pre x post b hx hb
    have hz : b.length < 100000 := by
      have h1 := dfold_len (fun x : En => x.p.name) (fun x : En => Dt.str x.p.word) pre []
      have h2 := op.ok.sz
      rw [hx, List.length_append] at h2
      rw [hb]
      simp at h1
      omega
    exact rn_dput rfl (ev_ixT (ev_var rfl) ev_int rfl) (ev_ixT (ev_var rfl) ev_int rfl) hz (wk_eq (wk_eq (wk_eq (wk_un (wk_un (wk_un (wk_un wk_nil)))))))
  · rw [dput_fold (fun x : En => x.p.name) (fun x : En => Dt.str x.p.word) (ents sh) [] (fun _ _ => rfl) op.ok.nd]
    have hn : e.names.length ≤ 6 := (op.ok.nl op.mem).1
    refine rn_ret (el_lc0 (e.names ++ [e.p.name]) .str freeD _ (is_list ((el_cat (rd_d (ev_ixT (ev_var rfl) ev_int rfl)) (rd_l (el_lst (ea_cons (ev_ixT (ev_ixT (ev_var rfl) ev_int rfl) ev_int rfl) ea_nil))) (by simp; omega)).fz.is ?_)) (by simp; omega) (un1 rfl) (fun _ h => h) (fun n _ => tg_name 6 _) (fun n hn' => ?_)).fz rfl
    · rw [List.map_append]; rfl
    · obtain ⟨e', he', h1, h2⟩ := op.free n hn'
      refine ev_tup (ea_cons (ev_var rfl) (ea_cons (ev_dget (rk_own rfl) (ev_var rfl) ?_) ea_nil))
      have := lookup_map (fun x : En => x.p.name) (fun x : En => Dt.str x.p.word) (ents sh) op.ok.nd e' he'
      rw [h1, h2] at this
      exact this
/-! first_with: slots 0 told, 1 entry, 2 word, 3 name, 4 other -/
abbrev s_first_with : Stmt := topS 16
abbrev n_first_with : List Str := ["told", "entry", "word", "name", "other"]
theorem sc_first_with : FnScope n_first_with ["told", "entry", "word"] (defScope s_first_with) := ⟨rfl, rfl, rfl, by decide +kernel, rfl, by decide +kernel, by decide +kernel⟩
abbrev spFirst (K : PySem.W.Frag) : Sp := spI K 3 (fun i : Fo × En × Str => [entsD (ents i.1), encE i.2.1, .str i.2.2]) (fun i => OpenE i.1 i.2.1 ∧ i.2.2 ≠ "free") (fun i d => d = .non)
theorem ok_first_with (D : Df K mg "first_with" s_first_with ["told", "entry", "word"]) {k : Nat} (C_words_on : Cal P w K mg base k "words_on" (spWords K)) : Cal P w K mg base (k + 1) "first_with" (spFirst K) := by
  refine D.cal sc_first_with rfl fun f cdv A outer s H E hr => ?_
  have sc := sc_first_with
  have hr_words_on := hr
  refine ⟨_, ((pss_cons (ps_for PassesOwn.never rfl (piL K rfl (pe_cal C_words_on hr_words_on (pa_cons (pv 0) (pa_cons (pv 1) pa_nil)))) (pgT K (n := 2) rfl rfl (pgs_cons (pg_name (i := 3) sc.nd rfl (.inl rfl)) (pgs_cons (pg_name (i := 4) sc.nd rfl (.inl rfl)) pgs_nil)))
      (pss_one (ps_if (pt_cmpR op_eq (pv 4) (pv 2) (nomark _))
      (pss_one (ps_ret (pv 3)))
      pss_nil))) (pss_one (ps_ret pe_non)))), ?_⟩
  rintro B H' ⟨sh, e, wd⟩ ⟨op, hw⟩
  refine rn_seq (rn_seek (e.names ++ [e.p.name]) freeD [.fz (entsD (ents sh)), .fz (encE e), .fz (.str wd), .un, .un] (fun _ => True) _ _ (is_list (ev_call (sh, e) (ea_cons (ev_var rfl) (ea_cons (ev_var rfl) ea_nil)) op)) (Wk.refl _) (fun x _ => tg_tup2 3 4 _ _) 5 rfl (by decide) ?_ ?_)
  · intro pre x post hx hpre
    refine rn_if (et_test (ev_eqS (ev_var rfl) (ev_var rfl))) (fun h => ?_) (fun h => rn_next ⟨wk_eq (wk_eq (wk_eq (wk_un (wk_un wk_nil)))), trivial⟩)
    exact absurd (of_decide_eq_true h).symm hw
  · intro _
    exact rn_ret ev_non rfl
/-! why_in: slots 0 told, 1 entry, 2 word, 3 name -/
abbrev s_why_in : Stmt := topS 17
abbrev n_why_in : List Str := ["told", "entry", "word", "name"]
theorem sc_why_in : FnScope n_why_in ["told", "entry"] (defScope s_why_in) := ⟨rfl, rfl, rfl, by decide +kernel, rfl, by decide +kernel, by decide +kernel⟩
abbrev spWhyIn (K : PySem.W.Frag) : Sp := spI K 2 (fun i : Fo × En => [entsD (ents i.1), encE i.2]) (fun i => OpenE i.1 i.2) (fun i d => d = .non)
theorem ok_why_in (D : Df K mg "why_in" s_why_in ["told", "entry"]) (T : Tx K w mg) {k : Nat} (C_first_with : Cal P w K mg base k "first_with" (spFirst K)) : Cal P w K mg base (k + 1) "why_in" (spWhyIn K) := by
  refine D.cal sc_why_in rfl fun f cdv A outer s H E hr => ?_
  have sc := sc_why_in
  have hr_first_with := hr
  refine ⟨_, ((pss_cons (ps_for PassesOwn.never rfl (piT K rfl (pe_tup (pa_cons (pe_gs T.HIDDEN) (pa_cons (pe_gs T.SHUT) pa_nil)))) (pg_name (i := 2) sc.nd rfl (.inl rfl))
      (pss_cons (ps_set (i := 3) sc.nd rfl (.inl rfl) (pe_cal C_first_with hr_first_with (pa_cons (pv 0) (pa_cons (pv 1) (pa_cons (pv 2) pa_nil))))) (pss_one (ps_if (pt_cmp (pc_notN (pv 3)) rfl)
      (pss_one (ps_ret (pe_tup (pa_cons (pv 2) (pa_cons (pv 3) pa_nil)))))
      pss_nil)))) (pss_one (ps_ret pe_non)))), ?_⟩
  rintro B H' ⟨sh, e⟩ op
  refine rn_seq (rn_seek (["hidden", "shut"] : List Str) Dt.str [.fz (entsD (ents sh)), .fz (encE e), .un, .un] (fun _ => True) _ _ (is_tup (ev_tup (ea_cons ev_str (ea_cons ev_str ea_nil)))) (Wk.refl _) (fun x _ => tg_name 2 _) 4 rfl (by decide) ?_ ?_)
  · intro pre x post hx hpre
    have hw : x ≠ "free" := by
      have : x ∈ (["hidden", "shut"] : List Str) := by rw [hx]; simp
      intro q
      rw [q] at this
      exact absurd this (by decide +kernel)
    refine rn_seq (rn_asg (ev_call (sh, e, x) (ea_cons (ev_var rfl) (ea_cons (ev_var rfl) (ea_cons (ev_var rfl) ea_nil))) ⟨op, hw⟩) ?_)
    exact rn_if (et_B (ev_notN (ev_var rfl))) (fun h => by cases h) (fun h => rn_next ⟨wk_eq (wk_eq (wk_un (wk_un wk_nil))), trivial⟩)
  · intro _
    exact rn_ret ev_non rfl
/-! why_not: slots 0 sheet, 1 name, 2 entry -/
abbrev s_why_not : Stmt := topS 18
abbrev n_why_not : List Str := ["sheet", "name", "entry"]
theorem sc_why_not : FnScope n_why_not ["sheet", "name"] (defScope s_why_not) := ⟨rfl, rfl, rfl, by decide +kernel, rfl, by decide +kernel, by decide +kernel⟩
abbrev opI : Fo × En → List Dt := fun i => [shD i.1, .str i.2.p.name]
abbrev spWhyNot (K : PySem.W.Frag) : Sp := spI K 2 opI (fun i => OpenE i.1 i.2) (fun i d => d = .non)
theorem ok_why_not (D : Df K mg "why_not" s_why_not ["sheet", "name"]) {k : Nat} (C_entry_of : Cal P w K mg base k "entry_of" (spEntryOf K)) (C_entries : Cal P w K mg base k "entries" (spEntries K)) (C_why_in : Cal P w K mg base k "why_in" (spWhyIn K)) : Cal P w K mg base (k + 1) "why_not" (spWhyNot K) := by
  refine D.cal sc_why_not rfl fun f cdv A outer s H E hr => ?_
  have sc := sc_why_not
  have hr_entry_of := hr
  have hr_entries := hr
  have hr_why_in := hr
  refine ⟨_, ((pss_cons (ps_set (i := 2) sc.nd rfl (.inl rfl) (pe_cal C_entry_of hr_entry_of (pa_cons (pv 0) (pa_cons (pv 1) pa_nil)))) (pss_one (ps_ret (pe_cal C_why_in hr_why_in (pa_cons (pe_cal C_entries hr_entries (pa_cons (pv 0) pa_nil)) (pa_cons (pv 2) pa_nil))))))), ?_⟩
  rintro B H' i op
  refine rn_seq (rn_asg (ev_call i (ea_cons (ev_var rfl) (ea_cons (ev_var rfl) ea_nil)) ⟨op.ok, op.mem⟩) ?_)
  exact rn_ret (ev_call i (ea_cons (ev_call i.1 (ea_cons (ev_var rfl) ea_nil) op.ok) (ea_cons (ev_var rfl) ea_nil)) op) rfl
/-! ask_open: slots 0 sheet, 1 name, 2 why -/
abbrev s_ask_open : Stmt := topS 19
abbrev n_ask_open : List Str := ["sheet", "name", "why"]
theorem sc_ask_open : FnScope n_ask_open ["sheet", "name"] (defScope s_ask_open) := ⟨rfl, rfl, rfl, by decide +kernel, rfl, by decide +kernel, by decide +kernel⟩
abbrev spAsk (K : PySem.W.Frag) : Sp := spI K 2 opI (fun i => OpenE i.1 i.2) (fun i d => d = .non)
theorem ok_ask_open (D : Df K mg "ask_open" s_ask_open ["sheet", "name"]) {k : Nat} (C_why_not : Cal P w K mg base k "why_not" (spWhyNot K)) : Cal P w K mg base (k + 1) "ask_open" (spAsk K) := by
  refine D.cal sc_ask_open rfl fun f cdv A outer s H E hr => ?_
  have sc := sc_ask_open
  have hr_why_not := hr
  refine ⟨_, ((pss_cons (ps_set (i := 2) sc.nd rfl (.inl rfl) (pe_cal C_why_not hr_why_not (pa_cons (pv 0) (pa_cons (pv 1) pa_nil)))) (pss_one (ps_if (pt_cmp (pc_notN (pv 2)) rfl)
      (pss_one ps_never)
      pss_nil)))), ?_⟩
  rintro B H' i op
  refine rn_seq (rn_asg (ev_call i (ea_cons (ev_var rfl) (ea_cons (ev_var rfl) ea_nil)) op) ?_)
  exact rn_if (et_B (ev_notN (ev_var rfl))) (fun h => by cases h) (fun h => rn_next rfl)
/-! open_parts: slots 0 sheet -/
abbrev s_open_parts : Stmt := topS 21
abbrev n_open_parts : List Str := ["sheet"]
theorem sc_open_parts : FnScope n_open_parts ["sheet"] (defScope s_open_parts) := ⟨rfl, rfl, rfl, by decide +kernel, rfl, by decide +kernel, by decide +kernel⟩
abbrev spOpens (K : PySem.W.Frag) : Sp := spI K 1 (fun s => [shD s]) Okf (fun s d => d = strsD (opens s))
theorem ok_open_parts (D : Df K mg "open_parts" s_open_parts ["sheet"]) {k : Nat} (C_seen_or_open : Cal P w K mg base k "seen_or_open" (spSeen K)) : Cal P w K mg base (k + 1) "open_parts" (spOpens K) := by
  refine D.cal sc_open_parts rfl fun f cdv A outer s H E hr => ?_
  have sc := sc_open_parts
  have hr_seen_or_open := hr
  refine ⟨_, ((pss_one (ps_ret (pe_cal C_seen_or_open hr_seen_or_open (pa_cons (pv 0) (pa_cons pe_bl pa_nil)))))), ?_⟩
  rintro B H' sh ok
  exact rn_ret (ev_call sh (ea_cons (ev_var rfl) (ea_cons ev_bl ea_nil)) ok) rfl
end
end FW
set_option maxHeartbeats 4000000
/-! ways -/
namespace FW
open PySem PySem.Spec PyProof.Rows L2 FZ
/-- more constants of the module -/
structure TxO (K : PySem.W.Frag) (w : World) (mg : Str → Option Value) : Prop where
  OPP : ∃ a es n, mg "OPPOSITES" = some (.ref a) ∧ KDict K w a es n ∧ ∀ x ∈ (["up", "down", "left", "right"] : List Str), ∃ y t, PySem.W.nsIn K a x = some (some (.str y t))
  SIDES : ∃ a o, mg "SIDES" = some (.ref a) ∧ K.lookup a = some o ∧ o.cls = .type "tuple" ∧ o.dict = none ∧ ∀ B, D K B (.ref a) (.tup ((["up", "down", "left", "right"] : List Str).map .str))
section
variable {P : Program} {w : World} {K : PySem.W.Frag} {mg : Str → Option Value} {base : Heap}
/-! opposite: slots 0 way -/
abbrev s_opposite : Stmt := topS 39
abbrev n_opposite : List Str := ["way"]
theorem sc_opposite : FnScope n_opposite ["way"] (defScope s_opposite) := ⟨rfl, rfl, rfl, by decide +kernel, rfl, by decide +kernel, by decide +kernel⟩
abbrev spOpp (K : PySem.W.Frag) : Sp := spI K 1 (fun x : Str => [.str x]) (fun x => x ∈ (["up", "down", "left", "right"] : List Str)) (fun _ _ => True)
theorem ev_kd {F : Fr} {sl : List Slot} {ta tb : TE} {a : Addr} {es : Array DictEntry} {n : Nat} {x y : Str} {t : Tok} (D : KDict K w a es n) (hx : PySem.W.nsIn K a x = some (some (.str y t))) (ha : ta = tC (.ref a)) (hb : EvD K F sl tb (.str x)) : EvD K F sl (tOp (rIxD K w) ta tb) (.str y) := by
  subst ha
  intro σ B H s Q q
  refine hb σ B H s _ fun v B1 H1 a1 e1 dv => ?_
  cases dv
  exact ⟨a, x, .str y, rfl, rfl, ⟨es, n, _, D.at_, D.lit, hx, ⟨t, rfl⟩⟩, q _ B1 H1 a1 e1 (.str y)⟩
theorem ev_nikd {F : Fr} {sl : List Slot} {ta : TE} {a : Addr} {x y : Str} {t : Tok} (hx : PySem.W.nsIn K a x = some (some (.str y t))) (hb : EvD K F sl ta (.str x)) : EvD K F sl (tOp (rNiKD K a) ta (tC (.ref a))) (.bl false) := by
  intro σ B H s Q q
  refine hb σ B H s _ fun v B1 H1 a1 e1 dv => ?_
  cases dv
  exact ⟨x, _, rfl, rfl, hx, q _ B1 H1 a1 e1 (.bl _)⟩
theorem ok_opposite (D : Df K mg "opposite" s_opposite ["way"]) (T : TxO K w mg) {k : Nat} : Cal P w K mg base (k + 1) "opposite" (spOpp K) := by
  obtain ⟨a, es, n, hOPPOSITES, hD, hv⟩ := T.OPP
  refine D.cal sc_opposite rfl fun f cdv A outer s H E hr => ?_
  have sc := sc_opposite
  refine ⟨_, ((pss_cons (ps_if (pt_cmpR (niKD rfl hD) (pv 0) (pe_ga hOPPOSITES) (by rfl))
      (pss_one ps_never)
      pss_nil) (pss_one (ps_ret (pe_ix (ixKD rfl) (pe_ga hOPPOSITES) (pv 0) (fun _ _ => rfl)))))), ?_⟩
  intro B H' x hx
  obtain ⟨y, t, hy⟩ := hv x hx
  refine rn_seq (rn_if (et_test (ev_nikd hy (ev_var rfl))) (fun h => by cases h) (fun h => rn_next ?_))
  exact rn_ret (ev_kd hD hy rfl (ev_var rfl)) trivial
/-! open_entries: slots 0 sheet, 1 names, 2 place, 3 part, 4 above; cells ['names'] -/
abbrev s_open_entries : Stmt := topS 40
abbrev n_open_entries : List Str := ["sheet", "names", "place", "part", "above"]
theorem sc_open_entries : FnScope n_open_entries ["sheet"] (defScope s_open_entries) := ⟨rfl, rfl, rfl, by decide +kernel, rfl, by decide +kernel, by decide +kernel⟩
abbrev spOents (K : PySem.W.Frag) : Sp := spI K 1 (fun s => [shD s]) Okf (fun s d => d = toldD (oents s))
theorem ok_open_entries (D : Df K mg "open_entries" s_open_entries ["sheet"]) {k : Nat} (C_open_parts : Cal P w K mg base k "open_parts" (spOpens K)) (C_entries : Cal P w K mg base k "entries" (spEntries K)) : Cal P w K mg base (k + 1) "open_entries" (spOents K) := by
  refine D.cal sc_open_entries rfl fun f cdv A outer s H E hr => ?_
  have sc := sc_open_entries
  have hr_open_parts := hr
  have hr_entries := hr
  refine ⟨_, ((pss_cons (ps_set (i := 1) sc.nd rfl (.inr rfl) (pe_cal C_open_parts hr_open_parts (pa_cons (pv 0) pa_nil))) (pss_one (ps_ret (pe_lc (own := [("place", 2), ("part", 3), ("above", 4)]) (g := (gTup K 3 (gCons (gName 2) (gCons (gName 3) (gCons (gName 4) gNil))))) rfl sc.nd (piL K rfl (pe_cal C_entries hr_entries (pa_cons (pv 0) pa_nil))) (blkOk_by (N := n_open_entries) (sc := defScope s_open_entries) (by decide +kernel)) (fun _ _ _ _ _ => (pgT K (n := 3) rfl rfl (pgs_cons (pg_name (i := 2) sc.nd rfl (.inl rfl)) (pgs_cons (pg_name (i := 3) sc.nd rfl (.inl rfl)) (pgs_cons (pg_name (i := 4) sc.nd rfl (.inl rfl)) pgs_nil))))) (fun _ _ _ _ _ => pts_one (pt_cmpR (inS K rfl) (pe_ix (ixT K rfl) (pv 3) pe_int (fun _ _ => rfl)) (pv 1) (by rfl))) (fun _ _ _ _ _ => (pe_tup (pa_cons (pv 2) (pa_cons (pv 3) pa_nil))))))))), ?_⟩
  intro B H' sh ok
  refine rn_seq (rn_asg (ev_call sh (ea_cons (ev_var rfl) ea_nil) ok) ?_)
  exact rn_ret (el_lc (ents sh) encE (openB sh) encO _ (is_list (ev_call sh (ea_cons (ev_var rfl) ea_nil) ok)) (by have := ok.sz; omega) (un3 rfl rfl rfl) (fun _ h => h) (fun e _ => tg_tup3 2 3 4 _ _ _) (fun e _ => et_test (ev_inS (ev_ixT (ev_var rfl) ev_int rfl) (rd_var rfl))) (fun e _ _ => ev_tup (ea_cons (ev_var rfl) (ea_cons (ev_var rfl) ea_nil)))).fz rfl
/-! mates_in: slots 0 told, 1 place, 2 other, 3 part; cells ['place'] -/
abbrev s_mates_in : Stmt := topS 41
abbrev n_mates_in : List Str := ["told", "place", "other", "part"]
theorem sc_mates_in : FnScope n_mates_in ["told", "place"] (defScope s_mates_in) := ⟨rfl, rfl, rfl, by decide +kernel, rfl, by decide +kernel, by decide +kernel⟩
abbrev spMates (K : PySem.W.Frag) : Sp := spI K 2 (fun i : List En × List Int => [toldD i.1, .tup (i.2.map .int)]) (fun i => i.1.length ≤ 1000) (fun i d => d = .lst ((mates i.1 i.2).map encPE))
theorem dropLast_int (ns : List Int) : (ns.map Dt.int).dropLast = (ns.dropLast).map .int := by rw [List.map_dropLast]
theorem ok_mates_in (D : Df K mg "mates_in" s_mates_in ["told", "place"]) {k : Nat} : Cal P w K mg base (k + 1) "mates_in" (spMates K) := by
  refine D.cal sc_mates_in rfl fun f cdv A outer s H E hr => ?_
  have sc := sc_mates_in
  refine ⟨_, ((pss_one (ps_ret (pe_lc (own := [("other", 2), ("part", 3)]) (g := (gTup K 2 (gCons (gName 2) (gCons (gName 3) gNil)))) rfl sc.nd (piL K rfl (pv 0)) (blkOk_by (N := n_mates_in) (sc := defScope s_mates_in) (by decide +kernel)) (fun _ _ _ _ _ => (pgT K (n := 2) rfl rfl (pgs_cons (pg_name (i := 2) sc.nd rfl (.inl rfl)) (pgs_cons (pg_name (i := 3) sc.nd rfl (.inl rfl)) pgs_nil)))) (fun _ _ _ _ _ => pts_one (pt_cmpR (eqPK K rfl hr.units) (pe_slice (slT K rfl) (pv 2) po_none (po_some (pe_un un_neg pe_int))) (pe_slice (slT K rfl) (pv 1) po_none (po_some (pe_un un_neg pe_int))) (nomark _))) (fun _ _ _ _ _ => (pv 3)))))), ?_⟩
  rintro B H' ⟨es, pl⟩ hz
  refine rn_ret (el_lc es encO (mateB pl) encPE _ (is_list (ev_var rfl)) (Nat.le_trans hz (by decide)) (un2 rfl rfl) (fun _ h => h) (fun e _ => tg_tup2 2 3 _ _) (fun e _ => et_test ((ev_eqU (a := PySem.W.Tup.mk e.place.dropLast) (b := PySem.W.Tup.mk pl.dropLast) (ev_slT (ev_var rfl) eo_none (eo_some (ev_neg ev_int))) (ev_slT (ev_var rfl) eo_none (eo_some (ev_neg ev_int))) ?_ ?_).is ?_)) (fun e _ _ => ev_var rfl)).fz rfl
  · rw [cutD_init, dropLast_int]; exact toP_ints _
  · rw [cutD_init, dropLast_int]; exact toP_ints _
  · unfold mateB
    congr 1
    exact decide_eq_decide.mpr ⟨fun h => congrArg PySem.W.Tup.items h, fun h => by rw [h]⟩
/-! nearest_four: slots 0 some, 1 box, 2 best, 3 found, 4 part, 5 side, 6 near -/
abbrev s_nearest_four : Stmt := topS 42
abbrev n_nearest_four : List Str := ["some", "box", "best", "found", "part", "side", "near"]
theorem sc_nearest_four : FnScope n_nearest_four ["some", "box"] (defScope s_nearest_four) := ⟨rfl, rfl, rfl, by decide +kernel, rfl, by decide +kernel, by decide +kernel⟩
abbrev spFour (K : PySem.W.Frag) : Sp := spI K 2 (fun i : List En × B4 => [.lst (i.1.map encPE), boxD i.2]) (fun _ => True) (fun i d => d = .lst ((near4 i.1 i.2).map optD))
theorem atI_map {α : Type} {f : α → Dt} {xs : List α} {j : Nat} {dflt : α} (h : j < xs.length) : atI (xs.map f) ((j : Nat) : Int) = some (f (xs.getD j dflt)) := by
  refine FZ.atI_nat ?_
  rw [List.getElem?_map, List.getElem?_eq_getElem h, List.getD_eq_getElem?_getD, List.getElem?_eq_getElem h]
  try rfl
theorem isN_near (n : Near) : (nearD n).isNon = n.isNone := by cases n <;> rfl
theorem ok_nearest_four (D : Df K mg "nearest_four" s_nearest_four ["some", "box"]) (T : Tx K w mg) {k : Nat} (C_nears : Cal P w K mg base k "nears" (spNears K)) : Cal P w K mg base (k + 1) "nearest_four" (spFour K) := by
  refine D.cal sc_nearest_four rfl fun f cdv A outer s H E hr => ?_
  have sc := sc_nearest_four
  have hr_nears := hr
  refine ⟨_, ((pss_cons (ps_set (i := 2) sc.nd rfl (.inl rfl) (pe_lst (pa_cons pe_non (pa_cons pe_non (pa_cons pe_non (pa_cons pe_non pa_nil)))))) (pss_cons (ps_set (i := 3) sc.nd rfl (.inl rfl) (pe_lst (pa_cons pe_non (pa_cons pe_non (pa_cons pe_non (pa_cons pe_non pa_nil)))))) (pss_cons (ps_for PassesOwn.never rfl (piL K rfl (pv 0)) (pg_name (i := 4) sc.nd rfl (.inl rfl))
      (pss_one (ps_for PassesOwn.never rfl (piEn K rfl (by rfl) T.enumerate (pa_cons (pe_cal C_nears hr_nears (pa_cons (pv 1) (pa_cons (pe_ix (ixT K rfl) (pv 4) pe_int (fun _ _ => rfl)) pa_nil))) pa_nil)) (pgT K (n := 2) rfl rfl (pgs_cons (pg_name (i := 5) sc.nd rfl (.inl rfl)) (pgs_cons (pg_name (i := 6) sc.nd rfl (.inl rfl)) pgs_nil)))
      (pss_one (ps_if (PW.pt (pw_and (pt_cmp (pc_notN (pv 6)) rfl) (pw_and1 (PW.pt (pw_or (pt_cmp (pc_isN (pe_ix (ixL K rfl) (pv 2) (pv 5) (fun _ _ => rfl))) rfl) (pw_or1 (pt_cmpR (ltTK K rfl hr.units0) (pv 6) (pe_ix (ixL K rfl) (pv 2) (pv 5) (fun _ _ => rfl)) (nomark _))))))))
      (pss_cons (ps_asg (pv 6) (pg_sub (pv 2) (pv 5) set_list)) (pss_one (ps_asg (pe_ix (ixT K rfl) (pv 4) pe_int (fun _ _ => rfl)) (pg_sub (pv 3) (pv 5) set_list))))
      pss_nil))))) (pss_one (ps_ret (pv 3))))))), ?_⟩
  rintro B H' ⟨ms, b⟩ -
  refine rn_seq (rn_asgL (el_lst (ea_cons ev_non (ea_cons ev_non (ea_cons ev_non (ea_cons ev_non ea_nil))))) ?_)
  refine rn_seq (rn_asgL (el_lst (ea_cons ev_non (ea_cons ev_non (ea_cons ev_non (ea_cons ev_non ea_nil))))) ?_)
  refine rn_seq (rn_fold ms encPE (fun st : St4 => [.fz (.lst (ms.map encPE)), .fz (boxD b), .ow (st.1.map nearD), .ow (st.2.map optD), .un, .un, .un]) (nearPart b) st0 _ _ (is_list (ev_var rfl)) (Wk.refl _) (fun e _ => tg_name 4 _) 7 (fun _ => rfl) (by decide) ?_ ?_)
  · intro pre e post st hx hst
    have hl : st.1.length = 4 ∧ st.2.length = 4 := by
      have := nearPart_len b pre st0
      rw [← hst] at this
      exact this
    refine rn_fold ((nears4 b e.p.box).zipIdx) (fun x => .tup [.int ((x.2 : Nat) : Int), nearD x.1]) (fun st : St4 => [.fz (.lst (ms.map encPE)), .fz (boxD b), .ow (st.1.map nearD), .ow (st.2.map optD), .fz (encPE e), .un, .un]) (nearStep e.p.name) st _ _ ((is_enum (ev_call (b, e.p.box) (ea_cons (ev_var rfl) (ea_cons (ev_ixT (ev_var rfl) ev_int rfl) ea_nil)) trivial)).is ?_) (wk_eq (wk_eq (wk_eq (wk_eq (wk_eq (wk_un (wk_un wk_nil))))))) (fun e _ => tg_tup2 5 6 _ _) 7 (fun _ => rfl) (by decide) ?_ ?_
    · unfold enumD
      rw [List.zipIdx_map, List.map_map]
      rfl
    · rintro pre2 ⟨nr, j⟩ post2 st2 hx2 hst2
      have hl2 : st2.1.length = 4 ∧ st2.2.length = 4 := by
        have := nearFold_len e.p.name pre2 st
        rw [← hst2] at this
        omega
      have hj : j < 4 := by
        have hm : (nr, j) ∈ (nears4 b e.p.box).zipIdx := by rw [hx2]; simp
        have := (List.mem_zipIdx hm).2.1
        simp [nears4] at this
        exact this
      have hg : atI (st2.1.map nearD) ((j : Nat) : Int) = some (nearD (st2.1.getD j none)) := atI_map (by omega)
      refine rn_if (b := nearC st2 (nr, j)) ?_ (fun hc => ?_) (fun hc => ?_)
      · unfold nearC
        cases nr with
        | none => exact et_and0 ((et_B (ev_notN (ev_var rfl))).is rfl)
        | some ns =>
          refine et_and ((et_B (ev_notN (ev_var rfl))).is rfl) (fun _ => ?_)
          cases hb : st2.1.getD j none with
          | none => 
            rw [hb] at hg
            exact et_or1 ((et_B (ev_isN (ev_ixL (rd_own rfl) (ev_var rfl) hg))).is rfl)
          | some ms2 =>
            rw [hb] at hg
            exact et_or ((et_B (ev_isN (ev_ixL (rd_own rfl) (ev_var rfl) hg))).is rfl) (fun _ => et_test (ev_ltT (ev_var rfl) (ev_ixL (rd_own rfl) (ev_var rfl) hg)))
      · refine rn_seq (rn_setL rfl (ev_var rfl) (ev_var rfl) (ixN_nat (by simp; omega)) ?_)
        refine rn_setL rfl (ev_ixT (ev_var rfl) ev_int rfl) (ev_var rfl) (ixN_nat (by simp; omega)) ?_
        rw [nearStep, if_pos hc]
        exact wk_eq (wk_eq (wk_ow (by rw [List.map_set]) (wk_ow (by rw [List.map_set]; rfl) (wk_eq (wk_un (wk_un wk_nil))))))
      · refine rn_next ?_
        rw [nearStep, if_neg (by rw [hc]; decide)]
        exact wk_eq (wk_eq (wk_eq (wk_eq (wk_eq (wk_un (wk_un wk_nil))))))
    · exact wk_eq (wk_eq (wk_eq (wk_eq (wk_un (wk_un (wk_un wk_nil))))))
  · refine rn_freeze (i := 3) (fun _ z => z) rfl ?_
    exact rn_ret (ev_var rfl) rfl
end
end FW
set_option maxHeartbeats 4000000
/-! ways, on -/
namespace FW
open PySem PySem.Spec PyProof.Rows L2 FZ
section
variable {P : Program} {w : World} {K : PySem.W.Frag} {mg : Str → Option Value} {base : Heap}
/-! first_inner: slots 0 told, 1 place, 2 other, 3 part -/
abbrev s_first_inner : Stmt := topS 43
abbrev n_first_inner : List Str := ["told", "place", "other", "part"]
theorem sc_first_inner : FnScope n_first_inner ["told", "place"] (defScope s_first_inner) := ⟨rfl, rfl, rfl, by decide +kernel, rfl, by decide +kernel, by decide +kernel⟩
abbrev spFirstIn (K : PySem.W.Frag) : Sp := spI K 2 (fun i : List En × List Int => [toldD i.1, .tup (i.2.map .int)]) (fun _ => True) (fun i d => d = optD (firstIn i.1 i.2))
theorem find_split {α : Type} {p : α → Bool} {x : α} : ∀ {pre post : List α}, (∀ y ∈ pre, p y = false) → p x = true → (pre ++ x :: post).find? p = some x
  | [], post, _, h => by simp [h]
  | y :: pre, post, h1, h => by
    rw [List.cons_append, List.find?_cons, h1 y (List.mem_cons_self ..)]
    exact find_split (fun z hz => h1 z (List.mem_cons_of_mem _ hz)) h
theorem ok_first_inner (D : Df K mg "first_inner" s_first_inner ["told", "place"]) {k : Nat} : Cal P w K mg base (k + 1) "first_inner" (spFirstIn K) := by
  refine D.cal sc_first_inner rfl fun f cdv A outer s H E hr => ?_
  have sc := sc_first_inner
  refine ⟨_, ((pss_cons (ps_for PassesOwn.never rfl (piL K rfl (pv 0)) (pgT K (n := 2) rfl rfl (pgs_cons (pg_name (i := 2) sc.nd rfl (.inl rfl)) (pgs_cons (pg_name (i := 3) sc.nd rfl (.inl rfl)) pgs_nil)))
      (pss_one (ps_if (pt_cmpR (eqPK K rfl hr.units) (pe_slice (slT K rfl) (pv 2) po_none (po_some (pe_un un_neg pe_int))) (pv 1) (nomark _))
      (pss_one (ps_ret (pe_ix (ixT K rfl) (pv 3) pe_int (fun _ _ => rfl))))
      pss_nil))) (pss_one (ps_ret pe_non)))), ?_⟩
  rintro B H' ⟨es, pl⟩ -
  refine rn_seq (rn_seek es encO [.fz (toldD es), .fz (.tup (pl.map .int)), .un, .un] (fun x => inB pl x = false) _ _ (is_list (ev_var rfl)) (Wk.refl _) (fun x _ => tg_tup2 2 3 _ _) 4 rfl (by decide) ?_ ?_)
  · intro pre x post hx hpre
    refine rn_if (b := inB pl x) (et_test ((ev_eqU (a := PySem.W.Tup.mk x.place.dropLast) (b := PySem.W.Tup.mk pl) (ev_slT (ev_var rfl) eo_none (eo_some (ev_neg ev_int))) (ev_var rfl) ?_ ?_).is ?_)) (fun h => rn_ret (ev_ixT (ev_var rfl) ev_int rfl) ?_) (fun h => rn_next ⟨wk_eq (wk_eq (wk_un (wk_un wk_nil))), h⟩)
    · rw [cutD_init, dropLast_int]; exact toP_ints _
    · exact toP_ints _
    · unfold inB
      congr 1
      exact decide_eq_decide.mpr ⟨fun h => congrArg PySem.W.Tup.items h, fun h => by rw [h]⟩
    · show Dt.str x.p.name = optD (firstIn es pl)
      unfold firstIn
      rw [hx, find_split hpre h]
      rfl
  · intro h
    refine rn_ret ev_non ?_
    show Dt.non = optD (firstIn es pl)
    unfold firstIn
    rw [List.find?_eq_none.mpr (fun x hx => by rw [h x hx]; decide)]
    rfl
/-! nearest: slots 0 sheet, 1 name, 2 way, 3 place, 4 part, 5 above -/
abbrev s_nearest : Stmt := topS 44
abbrev n_nearest : List Str := ["sheet", "name", "way", "place", "part", "above"]
theorem sc_nearest : FnScope n_nearest ["sheet", "name", "way"] (defScope s_nearest) := ⟨rfl, rfl, rfl, by decide +kernel, rfl, by decide +kernel, by decide +kernel⟩
def sides4 : List Str := ["up", "down", "left", "right"]
abbrev spNearest (K : PySem.W.Frag) : Sp := spI K 3 (fun i : Fo × En × Nat => [shD i.1, .str i.2.1.p.name, .str (sides4.getD i.2.2 "")]) (fun i => OpenE i.1 i.2.1 ∧ i.2.2 < 4) (fun i d => d = optD ((near4 (mates (oents i.1) i.2.1.place) i.2.1.p.box).getD i.2.2 none))
theorem ok_nearest (D : Df K mg "nearest" s_nearest ["sheet", "name", "way"]) (T : TxO K w mg) {k : Nat} (C_opposite : Cal P w K mg base k "opposite" (spOpp K)) (C_ask_open : Cal P w K mg base k "ask_open" (spAsk K)) (C_entry_of : Cal P w K mg base k "entry_of" (spEntryOf K)) (C_nearest_four : Cal P w K mg base k "nearest_four" (spFour K)) (C_mates_in : Cal P w K mg base k "mates_in" (spMates K)) (C_open_entries : Cal P w K mg base k "open_entries" (spOents K)) : Cal P w K mg base (k + 1) "nearest" (spNearest K) := by
  obtain ⟨a, o, hSIDES, hl, hc, hn, hs⟩ := T.SIDES
  refine D.cal sc_nearest rfl fun f cdv A outer s H E hr => ?_
  have sc := sc_nearest
  have hr_opposite := hr
  have hr_ask_open := hr
  have hr_entry_of := hr
  have hr_nearest_four := hr
  have hr_mates_in := hr
  have hr_open_entries := hr
  refine ⟨_, ((pss_cons (ps_expr (pe_cal C_opposite hr_opposite (pa_cons (pv 2) pa_nil))) (pss_cons (ps_expr (pe_cal C_ask_open hr_ask_open (pa_cons (pv 0) (pa_cons (pv 1) pa_nil)))) (pss_cons (ps_asg (pe_cal C_entry_of hr_entry_of (pa_cons (pv 0) (pa_cons (pv 1) pa_nil))) (pgT K (n := 3) rfl rfl (pgs_cons (pg_name (i := 3) sc.nd rfl (.inl rfl)) (pgs_cons (pg_name (i := 4) sc.nd rfl (.inl rfl)) (pgs_cons (pg_name (i := 5) sc.nd rfl (.inl rfl)) pgs_nil))))) (pss_one (ps_ret (pe_ix (ixL K rfl) (pe_cal C_nearest_four hr_nearest_four (pa_cons (pe_cal C_mates_in hr_mates_in (pa_cons (pe_cal C_open_entries hr_open_entries (pa_cons (pv 0) pa_nil)) (pa_cons (pv 3) pa_nil))) (pa_cons (pe_ix (ixT K rfl) (pv 4) pe_int (fun _ _ => rfl)) pa_nil))) (pbm K rfl PySem.F.plainAttrs_tuple PySem.F.slot_tuple_index PySem.F.type_tuple_index (indexT K rfl) (pe_ga hSIDES) (pa_cons (pv 2) pa_nil)) (fun _ _ => rfl)))))))), ?_⟩
  rintro B H' ⟨sh, e, j⟩ ⟨op, hj⟩
  have hj : j < 4 := hj
  have hm : sides4.getD j "" ∈ sides4 := by
    rw [List.getD_eq_getElem?_getD, List.getElem?_eq_getElem (show j < sides4.length from hj)]
    exact List.getElem_mem _
  refine rn_seq (rn_dropP (ev_callP (sides4.getD j "") (ea_cons (ev_var rfl) ea_nil) hm) ?_)
  refine rn_seq (rn_drop (ev_call (f := fun _ => Dt.non) (sh, e) (ea_cons (ev_var rfl) (ea_cons (ev_var rfl) ea_nil)) op) ?_)
  refine rn_seq (rn_asgT (ev_call (sh, e) (ea_cons (ev_var rfl) (ea_cons (ev_var rfl) ea_nil)) ⟨op.ok, op.mem⟩) (tg_tup3 3 4 5 _ _ _) (fun j h => ?_) ?_)
  · have : j = 3 ∨ j = 4 ∨ j = 5 := by simpa using h
    show j < 6
    omega
  · refine rn_ret (ev_ixL (i := (j : Int)) (rd_d (ev_call (mates (oents sh) e.place, e.p.box) (ea_cons (ev_call (oents sh, e.place) (ea_cons (ev_call sh (ea_cons (ev_var rfl) ea_nil) op.ok) (ea_cons (ev_var rfl) ea_nil)) ?_) (ea_cons (ev_ixT (ev_var rfl) ev_int rfl) ea_nil)) trivial)) (ev_indexTK (ns := sides4) (x := sides4.getD j "") hl hc hn hs (ev_var rfl) (j := j) ?_ ?_) (atI_map (dflt := none) ?_)) rfl
    · have h1 : (ents sh).length ≤ 40 := op.ok.sz
      have h2 : (oents sh).length ≤ (ents sh).length := List.length_filter_le _ _
      show (oents sh).length ≤ 1000
      omega
    · rw [List.getD_eq_getElem?_getD, List.getElem?_eq_getElem (show j < sides4.length from hj)]
      rfl
    · intro m hm
      have h4 : ∀ a, a < 4 → ∀ b, b < a → sides4[b]? ≠ some (sides4.getD a "") := by decide +kernel
      exact h4 j hj m hm
    · rw [near4_len]; exact hj
/-! into: slots 0 sheet, 1 name -/
abbrev s_into : Stmt := topS 45
abbrev n_into : List Str := ["sheet", "name"]
theorem sc_into : FnScope n_into ["sheet", "name"] (defScope s_into) := ⟨rfl, rfl, rfl, by decide +kernel, rfl, by decide +kernel, by decide +kernel⟩
abbrev spInto (K : PySem.W.Frag) : Sp := spI K 2 opI (fun i => OpenE i.1 i.2) (fun i d => d = optD (firstIn (oents i.1) i.2.place))
theorem ok_into (D : Df K mg "into" s_into ["sheet", "name"]) {k : Nat} (C_ask_open : Cal P w K mg base k "ask_open" (spAsk K)) (C_entry_of : Cal P w K mg base k "entry_of" (spEntryOf K)) (C_first_inner : Cal P w K mg base k "first_inner" (spFirstIn K)) (C_open_entries : Cal P w K mg base k "open_entries" (spOents K)) : Cal P w K mg base (k + 1) "into" (spInto K) := by
  refine D.cal sc_into rfl fun f cdv A outer s H E hr => ?_
  have sc := sc_into
  have hr_ask_open := hr
  have hr_entry_of := hr
  have hr_first_inner := hr
  have hr_open_entries := hr
  refine ⟨_, ((pss_cons (ps_expr (pe_cal C_ask_open hr_ask_open (pa_cons (pv 0) (pa_cons (pv 1) pa_nil)))) (pss_one (ps_ret (pe_cal C_first_inner hr_first_inner (pa_cons (pe_cal C_open_entries hr_open_entries (pa_cons (pv 0) pa_nil)) (pa_cons (pe_ix (ixT K rfl) (pe_cal C_entry_of hr_entry_of (pa_cons (pv 0) (pa_cons (pv 1) pa_nil))) pe_int (fun _ _ => rfl)) pa_nil))))))), ?_⟩
  rintro B H' ⟨sh, e⟩ op
  refine rn_seq (rn_drop (ev_call (f := fun _ => Dt.non) (sh, e) (ea_cons (ev_var rfl) (ea_cons (ev_var rfl) ea_nil)) op) ?_)
  exact rn_ret (ev_call (oents sh, e.place) (ea_cons (ev_call sh (ea_cons (ev_var rfl) ea_nil) op.ok) (ea_cons (ev_ixT (ev_call (sh, e) (ea_cons (ev_var rfl) (ea_cons (ev_var rfl) ea_nil)) ⟨op.ok, op.mem⟩) ev_int rfl) ea_nil)) trivial) rfl
/-! out_of: slots 0 sheet, 1 name -/
abbrev s_out_of : Stmt := topS 46
abbrev n_out_of : List Str := ["sheet", "name"]
theorem sc_out_of : FnScope n_out_of ["sheet", "name"] (defScope s_out_of) := ⟨rfl, rfl, rfl, by decide +kernel, rfl, by decide +kernel, by decide +kernel⟩
abbrev spOut (K : PySem.W.Frag) : Sp := spI K 2 opI (fun i => OpenE i.1 i.2) (fun i d => d = optD i.2.names.getLast?)
theorem last_none (ns : List Str) : (Dt.non :: ns.map .str).getLast? = some (optD ns.getLast?) := by
  rw [List.getLast?_cons, List.getLast?_map]
  cases ns.getLast? <;> rfl
theorem ok_out_of (D : Df K mg "out_of" s_out_of ["sheet", "name"]) {k : Nat} (C_ask_open : Cal P w K mg base k "ask_open" (spAsk K)) (C_entry_of : Cal P w K mg base k "entry_of" (spEntryOf K)) : Cal P w K mg base (k + 1) "out_of" (spOut K) := by
  refine D.cal sc_out_of rfl fun f cdv A outer s H E hr => ?_
  have sc := sc_out_of
  have hr_ask_open := hr
  have hr_entry_of := hr
  refine ⟨_, ((pss_cons (ps_expr (pe_cal C_ask_open hr_ask_open (pa_cons (pv 0) (pa_cons (pv 1) pa_nil)))) (pss_one (ps_ret (pe_ix (ixL K rfl) (pe_op op_cat (pe_lst (pa_cons pe_non pa_nil)) (pe_ix (ixT K rfl) (pe_cal C_entry_of hr_entry_of (pa_cons (pv 0) (pa_cons (pv 1) pa_nil))) pe_int (fun _ _ => rfl))) (pe_un un_neg pe_int) (fun _ _ => rfl)))))), ?_⟩
  rintro B H' ⟨sh, e⟩ op
  have hn := (op.ok.nl op.mem).1
  refine rn_seq (rn_drop (ev_call (f := fun _ => Dt.non) (sh, e) (ea_cons (ev_var rfl) (ea_cons (ev_var rfl) ea_nil)) op) ?_)
  refine rn_ret (ev_ixL (rd_l (el_cat (rd_l (el_lst (ea_cons ev_non ea_nil))) (rd_d (ev_ixT (ev_call (sh, e) (ea_cons (ev_var rfl) (ea_cons (ev_var rfl) ea_nil)) ⟨op.ok, op.mem⟩) ev_int rfl)) ?_)) (ev_neg ev_int) (FZ.atI_last (last_none e.names))) rfl
  show 1 + (e.names.map Dt.str).length ≤ 100000
  rw [List.length_map]
  have : e.names.length ≤ 6 := hn
  omega
/-! goes: slots 0 sheet, 1 name, 2 key -/
abbrev s_goes : Stmt := topS 47
abbrev n_goes : List Str := ["sheet", "name", "key"]
theorem sc_goes : FnScope n_goes ["sheet", "name", "key"] (defScope s_goes) := ⟨rfl, rfl, rfl, by decide +kernel, rfl, by decide +kernel, by decide +kernel⟩
abbrev spGoes (K : PySem.W.Frag) : Sp := spI K 3 (fun i : Fo × En × Nat => [shD i.1, .str i.2.1.p.name, .str (ways6.getD i.2.2 "")]) (fun i => OpenE i.1 i.2.1 ∧ i.2.2 < 6) (fun i d => d = optD ((lead6 i.1 i.2.1).getD i.2.2 none))
theorem ways6_ne : ∀ j, j < 6 → ways6.getD j "" ≠ "on" ∧ ways6.getD j "" ≠ "back" ∧ ways6.getD j "" ∈ (["on", "back", "up", "down", "left", "right", "into", "out"] : List Str) ∧ (ways6.getD j "" = "into" → j = 4) ∧ (ways6.getD j "" = "out" → j = 5) ∧ (j = 4 → ways6.getD j "" = "into") ∧ (j = 5 → ways6.getD j "" = "out") ∧ (j < 4 → ways6.getD j "" = sides4.getD j "") := by decide +kernel
theorem ok_goes (D : Df K mg "goes" s_goes ["sheet", "name", "key"]) (T : Tx K w mg) {k : Nat} (C_into : Cal P w K mg base k "into" (spInto K)) (C_out_of : Cal P w K mg base k "out_of" (spOut K)) (C_nearest : Cal P w K mg base k "nearest" (spNearest K)) : Cal P w K mg base (k + 1) "goes" (spGoes K) := by
  obtain ⟨a, hKEYS, hk⟩ := T.KEYS
  refine D.cal sc_goes rfl fun f cdv A outer s H E hr => ?_
  have sc := sc_goes
  have hr_into := hr
  have hr_out_of := hr
  have hr_nearest := hr
  refine ⟨_, ((pss_cons (ps_if (pt_cmpR (niS K rfl) (pv 2) (pe_ga hKEYS) (by rfl))
      (pss_one ps_never)
      pss_nil) (pss_cons (ps_if (pt_cmpR op_eq (pv 2) pe_str (nomark _))
      (pss_one ps_never)
      pss_nil) (pss_cons (ps_if (pt_cmpR op_eq (pv 2) pe_str (nomark _))
      (pss_one ps_never)
      pss_nil) (pss_cons (ps_if (pt_cmpR op_eq (pv 2) pe_str (nomark _))
      (pss_one (ps_ret (pe_cal C_into hr_into (pa_cons (pv 0) (pa_cons (pv 1) pa_nil)))))
      pss_nil) (pss_cons (ps_if (pt_cmpR op_eq (pv 2) pe_str (nomark _))
      (pss_one (ps_ret (pe_cal C_out_of hr_out_of (pa_cons (pv 0) (pa_cons (pv 1) pa_nil)))))
      pss_nil) (pss_one (ps_ret (pe_cal C_nearest hr_nearest (pa_cons (pv 0) (pa_cons (pv 1) (pa_cons (pv 2) pa_nil)))))))))))), ?_⟩
  rintro B H' ⟨sh, e, j⟩ ⟨op, hj⟩
  have hj : j < 6 := hj
  obtain ⟨w1, w2, w3, w4, w5, w6, w7, w8⟩ := ways6_ne j hj
  refine rn_seq (rn_if (b := false) (et_test ((ev_niST (ns := ["on", "back", "up", "down", "left", "right", "into", "out"]) (ev_var rfl) (ev_c hk)).is (by rw [decide_eq_true w3]; rfl))) (fun h => by cases h) (fun _ => rn_next ?_))
  refine rn_seq (rn_if (b := false) (et_test ((ev_eqS (ev_var rfl) ev_str).is (by rw [decide_eq_false w1]))) (fun h => by cases h) (fun _ => rn_next ?_))
  refine rn_seq (rn_if (b := false) (et_test ((ev_eqS (ev_var rfl) ev_str).is (by rw [decide_eq_false w2]))) (fun h => by cases h) (fun _ => rn_next ?_))
  refine rn_seq (rn_if (et_test (ev_eqS (ev_var rfl) ev_str)) (fun h => ?_) (fun h4 => rn_next ?_))
  · have h4 := w4 (of_decide_eq_true h)
    refine rn_ret (ev_call (sh, e) (ea_cons (ev_var rfl) (ea_cons (ev_var rfl) ea_nil)) op) ?_
    show _ = optD ((lead6 sh e).getD j none)
    rw [h4, lead6, List.getD_eq_getElem?_getD, List.getElem?_append_right (by rw [near4_len]; omega), near4_len]
    rfl
  refine rn_seq (rn_if (et_test (ev_eqS (ev_var rfl) ev_str)) (fun h => ?_) (fun h5 => rn_next ?_))
  · have h5 := w5 (of_decide_eq_true h)
    refine rn_ret (ev_call (sh, e) (ea_cons (ev_var rfl) (ea_cons (ev_var rfl) ea_nil)) op) ?_
    show _ = optD ((lead6 sh e).getD j none)
    rw [h5, lead6, List.getD_eq_getElem?_getD, List.getElem?_append_right (by rw [near4_len]; omega), near4_len]
    rfl
  have n4 : j ≠ 4 := fun q => of_decide_eq_false h4 (w6 q)
  have n5 : j ≠ 5 := fun q => of_decide_eq_false h5 (w7 q)
  have hj4 : j < 4 := by omega
  refine rn_ret (ev_call (sh, e, j) (ea_cons (ev_var rfl) (ea_cons (ev_var rfl) (ea_cons ((ev_var rfl).is (by rw [w8 hj4])) ea_nil))) ⟨op, hj4⟩) ?_
  show _ = optD ((lead6 sh e).getD j none)
  rw [lead6, List.getD_eq_getElem?_getD (l := _ ++ _), List.getElem?_append_left (by rw [near4_len]; omega), List.getD_eq_getElem?_getD]
end
end FW
set_option maxHeartbeats 4000000
/-! walk, table_of -/
namespace FW
open PySem PySem.Spec PyProof.Rows L2 FZ
section
variable {P : Program} {w : World} {K : PySem.W.Frag} {mg : Str → Option Value} {base : Heap}
/-! walk: slots 0 sheet, 1 ranks, 2 place, 3 part, 4 names, 5 ranked, 6 number, 7 name, 8 one -/
abbrev s_walk : Stmt := topS 31
abbrev n_walk : List Str := ["sheet", "ranks", "place", "part", "names", "ranked", "number", "name", "one"]
theorem sc_walk : FnScope n_walk ["sheet"] (defScope s_walk) := ⟨rfl, rfl, rfl, by decide +kernel, rfl, by decide +kernel, by decide +kernel⟩
abbrev spWalk (K : PySem.W.Frag) : Sp := spI K 1 (fun s => [shD s]) Okf (fun s d => ∃ ns : List Str, ns.Perm (opens s) ∧ d = strsD ns)
def quad (s : Fo) (x : Str × Nat) : Qd := (if decide (rankOf s x.1 = 0) = true then 1 else 0, rankOf s x.1, x.2, x.1)
theorem plain_quads : ∀ qs : List Qd, PyData.plainAll (toPs (qs.map encQ)) = true
  | [] => rfl
  | q :: qs => by
    rw [List.map_cons, toPs, PyData.plainAll, plain_quads qs]
    rfl
theorem alike_quads (qs : List Qd) : PySem.W.AllAlike (toPs (qs.map encQ)) := by
  rw [toPs_map, List.map_map]
  intro d hd d' hd'
  obtain ⟨q, _, rfl⟩ := List.mem_map.mp hd
  obtain ⟨q', _, rfl⟩ := List.mem_map.mp hd'
  rfl
theorem sort_quads (qs : List Qd) : ∃ rs : List Qd, rs.Perm qs ∧ sortD (qs.map encQ) = rs.map encQ :=
  ⟨_, List.mergeSort_perm qs _, sort_map encQ toP qs⟩
theorem ok_walk (D : Df K mg "walk" s_walk ["sheet"]) (T : Tx K w mg) {k : Nat} (C_entries : Cal P w K mg base k "entries" (spEntries K)) (C_open_parts : Cal P w K mg base k "open_parts" (spOpens K)) : Cal P w K mg base (k + 1) "walk" (spWalk K) := by
  refine D.cal sc_walk rfl fun f cdv A outer s H E hr => ?_
  have sc := sc_walk
  have hr_entries := hr
  have hr_open_parts := hr
  have hu := hu_of hr
  refine ⟨_, ((pss_cons (ps_set (i := 1) sc.nd rfl (.inl rfl) pe_dnewK) (pss_cons (ps_for PassesOwn.never rfl (piL K rfl (pe_cal C_entries hr_entries (pa_cons (pv 0) pa_nil))) (pgT K (n := 3) rfl rfl (pgs_cons (pg_name (i := 2) sc.nd rfl (.inl rfl)) (pgs_cons (pg_name (i := 3) sc.nd rfl (.inl rfl)) (pgs_cons (pg_name (i := 4) sc.nd rfl (.inl rfl)) pgs_nil))))
      (pss_one (ps_dput hu (pv 1) (pe_ix (ixT K rfl) (pv 3) pe_int (fun _ _ => rfl)) (pe_ix (ixT K rfl) (pv 3) pe_int (fun _ _ => rfl)) rfl))) (pss_cons (ps_set (i := 5) sc.nd rfl (.inl rfl) (pe_lst pa_nil)) (pss_cons (ps_for PassesOwn.never rfl (piEn K rfl (by rfl) T.enumerate (pa_cons (pe_cal C_open_parts hr_open_parts (pa_cons (pv 0) pa_nil)) pa_nil)) (pgT K (n := 2) rfl rfl (pgs_cons (pg_name (i := 6) sc.nd rfl (.inl rfl)) (pgs_cons (pg_name (i := 7) sc.nd rfl (.inl rfl)) pgs_nil)))
      (pss_one (ps_expr (pbm K rfl PySem.F.plainAttrs_list PySem.F.slot_list_append PySem.F.type_list_append mt_append (pv 5) (pa_cons (pe_tup (pa_cons (pe_callTy call_int1 (by rfl) T.int (by decide +kernel) (pa_cons (pe_cmpR op_eq (pe_dget hu (pv 1) (pv 7) (fun _ _ => rfl)) pe_int (nomark _)) pa_nil)) (pa_cons (pe_dget hu (pv 1) (pv 7) (fun _ _ => rfl)) (pa_cons (pv 6) (pa_cons (pv 7) pa_nil))))) pa_nil))))) (pss_one (ps_ret (pe_lc (own := [("one", 8)]) (g := (gName 8)) rfl sc.nd (piL K rfl (pe_callB (sortQ K rfl hr.units) (by rfl) T.sorted (by decide +kernel) (pa_cons (pv 5) pa_nil))) (blkOk_by (N := n_walk) (sc := defScope s_walk) (by decide +kernel)) (fun _ _ _ _ _ => (pg_name (i := 8) sc.nd rfl (.inl rfl))) (fun _ _ _ _ _ => pts_nil) (fun _ _ _ _ _ => (pe_ix (ixT K rfl) (pv 8) pe_int (fun _ _ => rfl))))))))))), ?_⟩
  intro B H' sh ok
  have hsz := ok.sz
  have hol := opens_len (s := sh)
  refine rn_seq (rn_asgK ek_new ?_)
  refine rn_seq (rn_fold (ents sh) encE (fun b => [.fz (shD sh), .od b, .un, .un, .un, .un, .un, .un, .un]) (fun k x => dput k x.p.name (.int x.p.rank)) [] _ _ (is_list (ev_call sh (ea_cons (ev_var rfl) ea_nil) ok)) (Wk.refl _) (fun e _ => tg_tup3 2 3 4 _ _ _) 9 (fun _ => rfl) (by decide) ?_ ?_)
  · intro pre x post b hx hb
    have hz : b.length < 100000 := by
      have h1 := dfold_len (fun x : En => x.p.name) (fun x : En => Dt.int x.p.rank) pre []
      rw [hx, List.length_append] at hsz
      rw [hb]
      simp at h1
      omega
    exact rn_dput rfl (ev_ixT (ev_var rfl) ev_int rfl) (ev_ixT (ev_var rfl) ev_int rfl) hz (wk_eq (wk_eq (wk_un (wk_un (wk_un (wk_un (wk_un (wk_un (wk_un wk_nil)))))))))
  rw [dput_fold (fun x : En => x.p.name) (fun x : En => Dt.int x.p.rank) (ents sh) [] (fun _ _ => rfl) ok.nd]
  have look : ∀ n ∈ opens sh, ([] ++ (ents sh).map fun x : En => (x.p.name, Dt.int x.p.rank)).lookup n = some (.int (rankOf sh n)) := fun n hn => by
    obtain ⟨e, he, rfl⟩ := mem_opens_ents hn
    have := lookup_map (fun x : En => x.p.name) (fun x : En => Dt.int x.p.rank) (ents sh) ok.nd e he
    rw [List.nil_append, this]
    unfold rankOf
    rw [find_ent ok he]
    rfl
  refine rn_seq (rn_asgL (el_lst ea_nil) ?_)
  refine rn_seq (rn_fold ((opens sh).zipIdx) (fun x => .tup [.int ((x.2 : Nat) : Int), .str x.1]) (fun b : List Qd => [.fz (shD sh), .od ([] ++ (ents sh).map fun x : En => (x.p.name, Dt.int x.p.rank)), .un, .un, .un, .ow (b.map encQ), .un, .un, .un]) (fun b x => b ++ [quad sh x]) [] _ _ ((is_enum (ev_call sh (ea_cons (ev_var rfl) ea_nil) ok)).is ?_) (Wk.refl _) (fun e _ => tg_tup2 6 7 _ _) 9 (fun _ => rfl) (by decide) ?_ ?_)
  · unfold enumD
    rw [List.zipIdx_map, List.map_map]
    rfl
  · rintro pre ⟨n, j⟩ post b hx hb
    have hn : n ∈ opens sh := by
      have : (n, j) ∈ (opens sh).zipIdx := by rw [hx]; simp
      have := List.mem_zipIdx' this
      rw [this.2]; exact List.getElem_mem _
    have hbl : b.length ≤ 40 := by
      have e1 : ∀ (ys : List (Str × Nat)) (c : List Qd), (ys.foldl (fun b x => b ++ [quad sh x]) c).length = c.length + ys.length := fun ys => by
        induction ys with
        | nil => intro c; rfl
        | cons y ys ih => intro c; rw [List.foldl_cons, ih]; simp; omega
      have e2 := congrArg List.length hx
      rw [List.length_zipIdx, List.length_append] at e2
      rw [hb, e1]
      simp
      omega
    refine rn_app rfl (ev_tup (ea_cons (ev_intB (ev_eqI (ev_dget (rk_own rfl) (ev_var rfl) (look n hn)) ev_int)) (ea_cons (ev_dget (rk_own rfl) (ev_var rfl) (look n hn)) (ea_cons (ev_var rfl) (ea_cons (ev_var rfl) ea_nil))))) (by simp; omega) ?_
    rw [List.map_append]
    exact wk_eq (wk_eq (wk_eq (wk_eq (wk_eq (wk_eq (wk_un (wk_un (wk_un wk_nil))))))))
  · obtain ⟨rs, hp, hs⟩ := sort_quads (((opens sh).zipIdx).foldl (fun b x => b ++ [quad sh x]) [])
    have hfold : ∀ (ys : List (Str × Nat)) (c : List Qd), ys.foldl (fun b x => b ++ [quad sh x]) c = c ++ ys.map (quad sh) := fun ys => by
      induction ys with
      | nil => intro c; simp
      | cons y ys ih => intro c; rw [List.foldl_cons, ih]; simp
    refine rn_ret (el_lc0 rs encQ (fun q => .str q.2.2.2) _ (is_list ((el_sort (rd_own rfl) (plain_quads _) (alike_quads _) ?_ ?_).fz.is (by rw [hs]))) ?_ (un1 rfl) (fun _ h => h) (fun n _ => tg_name 8 _) (fun q _ => ev_ixT (ev_var rfl) ev_int rfl)).fz ?_
    · intro d hd
      obtain ⟨q, _, rfl⟩ := List.mem_map.mp hd
      exact ⟨_, _, rfl⟩
    · intro d hd
      obtain ⟨q, _, rfl⟩ := List.mem_map.mp hd
      show PyData.depth (.tuple [.int _, .int _, .int _, .str _]) ≤ 8
      simp [PyData.depth, PyData.depthAll]
    · rw [hp.length_eq, hfold, List.nil_append, List.length_map, List.length_zipIdx]
      omega
    · refine ⟨rs.map fun q => q.2.2.2, ?_, by show Dt.lst _ = Dt.lst ((rs.map _).map Dt.str); rw [List.map_map]; rfl⟩
      have := hp.map fun q : Qd => q.2.2.2
      rw [hfold, List.nil_append, List.map_map] at this
      refine this.trans (List.Perm.of_eq ?_)
      show ((opens sh).zipIdx).map (fun x => x.1) = _
      simp
/-! table_of: slots 0 sheet, 1 told, 2 names, 3 table, 4 place, 5 part, 6 above, 7 at, 8 four, 9 row -/
abbrev s_table_of : Stmt := topS 48
abbrev n_table_of : List Str := ["sheet", "told", "names", "table", "place", "part", "above", "at", "four", "row"]
theorem sc_table_of : FnScope n_table_of ["sheet"] (defScope s_table_of) := ⟨rfl, rfl, rfl, by decide +kernel, rfl, by decide +kernel, by decide +kernel⟩
def x1 (ns : List Str) (n : Str) : Str := (atI ns (((ns.idxOf n : Nat) : Int) + 1 |>.fmod (ns.length : Int))).getD ""
def x2 (ns : List Str) (n : Str) : Str := (atI ns (((ns.idxOf n : Nat) : Int) - 1)).getD ""
def rowD (s : Fo) (ns : List Str) (e : En) : Dt := .tup ([.str (x1 ns e.p.name), .str (x2 ns e.p.name)] ++ (lead6 s e).map optD)
def tabK (s : Fo) (ns : List Str) : List (Str × Dt) := (oents s).map fun e => (e.p.name, rowD s ns e)
abbrev spTable (K : PySem.W.Frag) : Sp := spI K 1 (fun s => [shD s]) Okf (fun s d => ∃ ns, d = .dct (tabK s ns))
theorem idx_spec {n : Str} : ∀ {ns : List Str}, n ∈ ns → ns[ns.idxOf n]? = some n ∧ ∀ m, m < ns.idxOf n → ns[m]? ≠ some n
  | [], h => by cases h
  | y :: ns, h => by
    by_cases e : y = n
    · subst e
      simp
    · have hm : n ∈ ns := by
        rcases List.mem_cons.mp h with h | h
        · exact absurd h.symm e
        · exact h
      have e1 : (y == n) = false := by simpa using e
      have e2 : (y :: ns).idxOf n = ns.idxOf n + 1 := by
        rw [List.idxOf_cons, e1]; rfl
      obtain ⟨h1, h2⟩ := idx_spec hm
      rw [e2]
      refine ⟨h1, fun m hm => ?_⟩
      cases m with
      | zero =>
        show some y ≠ some n
        exact fun q => e (Option.some.inj q)
      | succ m => exact h2 m (by omega)
theorem atI_in {ns : List Str} {i : Int} (h1 : -(ns.length : Int) ≤ i) (h2 : i < ns.length) : atI (ns.map Dt.str) i = some (.str ((atI ns i).getD "")) := by
  have e : ∃ j, ixN ns.length i = some j ∧ j < ns.length := by
    unfold ixN
    by_cases h0 : 0 ≤ i
    · rw [if_pos h0, if_pos h2]; exact ⟨_, rfl, by omega⟩
    · rw [if_neg h0, if_pos h1]; exact ⟨_, rfl, by omega⟩
  obtain ⟨j, e1, e2⟩ := e
  unfold atI
  rw [List.length_map, e1]
  show (ns.map Dt.str)[j]? = some (.str (ns[j]?.getD ""))
  rw [List.getElem?_map, List.getElem?_eq_getElem e2]
  rfl
theorem ok_table_of (D : Df K mg "table_of" s_table_of ["sheet"]) (T : Tx K w mg) {k : Nat} (C_open_entries : Cal P w K mg base k "open_entries" (spOents K)) (C_walk : Cal P w K mg base k "walk" (spWalk K)) (C_entries : Cal P w K mg base k "entries" (spEntries K)) (C_nearest_four : Cal P w K mg base k "nearest_four" (spFour K)) (C_mates_in : Cal P w K mg base k "mates_in" (spMates K)) (C_first_inner : Cal P w K mg base k "first_inner" (spFirstIn K)) : Cal P w K mg base (k + 1) "table_of" (spTable K) := by
  refine D.cal sc_table_of rfl fun f cdv A outer s H E hr => ?_
  have sc := sc_table_of
  have hr_open_entries := hr
  have hr_walk := hr
  have hr_entries := hr
  have hr_nearest_four := hr
  have hr_mates_in := hr
  have hr_first_inner := hr
  have hu := hu_of hr
  refine ⟨_, ((pss_cons (ps_set (i := 1) sc.nd rfl (.inl rfl) (pe_cal C_open_entries hr_open_entries (pa_cons (pv 0) pa_nil))) (pss_cons (ps_set (i := 2) sc.nd rfl (.inl rfl) (pe_cal C_walk hr_walk (pa_cons (pv 0) pa_nil))) (pss_cons (ps_set (i := 3) sc.nd rfl (.inl rfl) pe_dnewK) (pss_cons (ps_for PassesOwn.never rfl (piL K rfl (pe_cal C_entries hr_entries (pa_cons (pv 0) pa_nil))) (pgT K (n := 3) rfl rfl (pgs_cons (pg_name (i := 4) sc.nd rfl (.inl rfl)) (pgs_cons (pg_name (i := 5) sc.nd rfl (.inl rfl)) (pgs_cons (pg_name (i := 6) sc.nd rfl (.inl rfl)) pgs_nil))))
      (pss_one (ps_if (pt_cmpR (inS K rfl) (pe_ix (ixT K rfl) (pv 5) pe_int (fun _ _ => rfl)) (pv 2) (by rfl))
      (pss_cons (ps_set (i := 7) sc.nd rfl (.inl rfl) (pbm K rfl PySem.F.plainAttrs_list PySem.F.slot_list_index PySem.F.type_list_index (indexK K rfl) (pv 2) (pa_cons (pe_ix (ixT K rfl) (pv 5) pe_int (fun _ _ => rfl)) pa_nil))) (pss_cons (ps_set (i := 8) sc.nd rfl (.inl rfl) (pe_cal C_nearest_four hr_nearest_four (pa_cons (pe_cal C_mates_in hr_mates_in (pa_cons (pv 1) (pa_cons (pv 4) pa_nil))) (pa_cons (pe_ix (ixT K rfl) (pv 5) pe_int (fun _ _ => rfl)) pa_nil)))) (pss_cons (ps_set (i := 9) sc.nd rfl (.inl rfl) (pe_op op_cat (pe_lst (pa_cons (pe_ix (ixL K rfl) (pv 2) (pe_op op_modN (pe_op op_add (pv 7) pe_int) (pe_callB (lenK K rfl) (by rfl) T.len (by decide +kernel) (pa_cons (pv 2) pa_nil))) (fun _ _ => rfl)) (pa_cons (pe_ix (ixL K rfl) (pv 2) (pe_op op_sub (pv 7) pe_int) (fun _ _ => rfl)) pa_nil))) (pv 8))) (pss_one (ps_dput hu (pv 3) (pe_ix (ixT K rfl) (pv 5) pe_int (fun _ _ => rfl)) (pe_callTy (tupK K rfl) (by rfl) T.tuple (by decide +kernel) (pa_cons (pe_op op_cat (pv 9) (pe_lst (pa_cons (pe_cal C_first_inner hr_first_inner (pa_cons (pv 1) (pa_cons (pv 4) pa_nil))) (pa_cons (pe_ix (ixL K rfl) (pe_op op_cat (pe_lst (pa_cons pe_non pa_nil)) (pv 6)) (pe_un un_neg pe_int) (fun _ _ => rfl)) pa_nil)))) pa_nil)) rfl)))))
      pss_nil))) (pss_one (ps_ret (pv 3)))))))), ?_⟩
  intro B H' sh ok
  have hsz := ok.sz
  refine rn_seq (rn_asg (ev_call sh (ea_cons (ev_var rfl) ea_nil) ok) ?_)
  refine rn_seq (rn_asgP (ev_callP sh (ea_cons (ev_var rfl) ea_nil) ok) ?_)
  rintro _ ⟨ns, hp, rfl⟩
  have ho : (oents sh).length ≤ 40 := Nat.le_trans (List.length_filter_le _ _) hsz
  refine rn_seq (rn_asgK ek_new ?_)
  refine rn_seq (rn_fold (ents sh) encE (fun b => [.fz (shD sh), .fz (toldD (oents sh)), .fz (strsD ns), .od b, .un, .un, .un, .un, .un, .un]) (fun b e => if openB sh e = true then dput b e.p.name (rowD sh ns e) else b) [] _ _ (is_list (ev_call sh (ea_cons (ev_var rfl) ea_nil) ok)) (Wk.refl _) (fun e _ => tg_tup3 4 5 6 _ _ _) 10 (fun _ => rfl) (by decide) ?_ ?_)
  · intro pre e post b hx hb
    have he : e ∈ ents sh := by rw [hx]; simp
    have hz : b.length < 100000 := by
      have h1 : ∀ (es : List En) (b : List (Str × Dt)), (es.foldl (fun b e => if openB sh e = true then dput b e.p.name (rowD sh ns e) else b) b).length ≤ b.length + es.length := fun es => by
        induction es with
        | nil => intro b; exact Nat.le_refl _
        | cons e es ih =>
          intro b
          rw [List.foldl_cons, List.length_cons]
          refine Nat.le_trans (ih _) ?_
          have := dput_len b e.p.name (rowD sh ns e)
          split <;> omega
      have h2 := h1 pre []
      rw [hx, List.length_append] at hsz
      rw [hb]
      simp only [List.length_nil] at h2
      omega
    refine rn_if (b := openB sh e) (et_test ((ev_inS (ev_ixT (ev_var rfl) ev_int rfl) (rd_var rfl)).is ?_)) (fun hc => ?_) (fun hc => ?_)
    · unfold openB
      congr 1
      exact decide_eq_decide.mpr hp.mem_iff
    · have hm : e.p.name ∈ ns := hp.mem_iff.mpr (of_decide_eq_true hc)
      obtain ⟨i1, i2⟩ := idx_spec hm
      have il : ns.idxOf e.p.name < ns.length := (List.getElem?_eq_some_iff.mp i1).1
      refine rn_seq (rn_asg (ev_indexS (rd_var rfl) (ev_ixT (ev_var rfl) ev_int rfl) i1 i2) ?_)
      refine rn_seq (rn_asg (ev_call (mates (oents sh) e.place, e.p.box) (ea_cons (ev_call (oents sh, e.place) (ea_cons (ev_var rfl) (ea_cons (ev_var rfl) ea_nil)) ?_) (ea_cons (ev_ixT (ev_var rfl) ev_int rfl) ea_nil)) trivial) ?_)
      · show (oents sh).length ≤ 1000
        omega
      refine rn_seq (rn_asgL (el_cat (rd_l (el_lst (ea_cons (ev_ixL (rd_var rfl) (ev_fmod (ev_add (ev_var rfl) ev_int) (ev_lenL (rd_var rfl)) ?_) ((congrArg _ (by rw [List.length_map])).trans (atI_in (ns := ns) ?_ ?_))) (ea_cons (ev_ixL (rd_var rfl) (ev_sub (ev_var rfl) ev_int) (atI_in (ns := ns) ?_ ?_)) ea_nil)))) (rd_var rfl) ?_) ?_)
      · rw [List.length_map]; omega
      · have := Int.fmod_nonneg_of_pos (((ns.idxOf e.p.name : Nat) : Int) + 1) (b := (ns.length : Int)) (by omega)
        omega
      · exact Int.fmod_lt_of_pos _ (by omega)
      · omega
      · omega
      · rw [List.length_map, near4_len]
        simp
      · have hn : e.names.length ≤ 6 := (ok.nl he).1
        refine rn_dput rfl (ev_tupL (rd_l (el_cat (rd_own rfl) (rd_l (el_lst (ea_cons (d := optD (firstIn (oents sh) e.place)) ?_ (ea_cons (d := optD e.names.getLast?) ?_ ea_nil)))) ?_))) (ev_ixT (ev_var rfl) ev_int rfl) hz ?_
        · exact ev_call (oents sh, e.place) (ea_cons (ev_var rfl) (ea_cons (ev_var rfl) ea_nil)) trivial
        · exact ev_ixL (rd_l (el_cat (rd_l (el_lst (ea_cons ev_non ea_nil))) (rd_var rfl) (by show 1 + (e.names.map Dt.str).length ≤ 100000; rw [List.length_map]; omega))) (ev_neg ev_int) (FZ.atI_last (last_none e.names))
        · simp [near4_len]
        · rw [if_pos hc]
          refine wk_eq (wk_eq (wk_eq (wk_od ?_ (wk_un (wk_un (wk_un (wk_un (wk_un (wk_un wk_nil)))))))))
          congr 1
          unfold rowD lead6
          rw [List.map_append, List.append_assoc]
          rfl
    · refine rn_next ?_
      rw [if_neg (by rw [hc]; decide)]
      exact wk_eq (wk_eq (wk_eq (wk_eq (wk_un (wk_un (wk_un (wk_un (wk_un (wk_un wk_nil)))))))))
  · rw [← List.foldl_filter]
    have hnd : ((oents sh).map fun e => e.p.name).Nodup := by rw [← opens_oents ok]; exact opens_nd ok
    rw [show (ents sh).filter (openB sh) = oents sh from rfl, dput_fold (fun e : En => e.p.name) (fun e => rowD sh ns e) (oents sh) [] (fun _ _ => rfl) hnd]
    refine rn_freezeD (i := 3) (fun _ z => z) rfl ?_
    exact rn_ret (ev_var rfl) ⟨ns, rfl⟩
end
end FW
set_option maxHeartbeats 4000000
/-! layers, rows -/
namespace FW
open PySem PySem.Spec PyProof.Rows L2 FZ
section
variable {P : Program} {w : World} {K : PySem.W.Frag} {mg : Str → Option Value} {base : Heap}
theorem tab_look {s : Fo} (ok : Okf s) (ns : List Str) {n : Str} (h : n ∈ opens s) : (tabK s ns).lookup n = some (.tup ([.str (x1 ns n), .str (x2 ns n)] ++ (leads s n).map optD)) := by
  obtain ⟨e, he, rfl⟩ := opens_entry ok h
  have := lookup_map (fun e : En => e.p.name) (rowD s ns) (oents s) (by rw [← opens_oents ok]; exact opens_nd ok) e he
  unfold tabK
  rw [this, leads_ent ok he]
  rfl
theorem nbr_len {s : Fo} (ok : Okf s) {n : Str} (h : n ∈ opens s) : (nbr s n).length ≤ 6 := by
  unfold nbr
  exact Nat.le_trans (List.length_filterMap_le _ _) (Nat.le_of_eq (leads_len ok h))
theorem nbr_map (s : Fo) (n : Str) : ((leads s n).filter Option.isSome).map optD = (nbr s n).map .str := by
  unfold nbr
  induction leads s n with
  | nil => rfl
  | cons o os ih => cases o <;> simp [ih, optD]
/-! led_to: slots 0 table, 1 some, 2 first, 3 behind, 4 found, 5 name, 6 to -/
abbrev s_led_to : Stmt := topS 50
abbrev n_led_to : List Str := ["table", "some", "first", "behind", "found", "name", "to"]
theorem sc_led_to : FnScope n_led_to ["table", "some", "first", "behind"] (defScope s_led_to) := ⟨rfl, rfl, rfl, by decide +kernel, rfl, by decide +kernel, by decide +kernel⟩
abbrev spLed (K : PySem.W.Frag) : Sp := spI K 4 (fun i : Fo × List Str × List Str => [.dct (tabK i.1 i.2.1), strsD i.2.2, .int 2, .int 8]) (fun i => Okf i.1 ∧ (∀ n ∈ i.2.2, n ∈ opens i.1) ∧ i.2.2.length ≤ 1000) (fun i d => d = strsD (ledTo i.1 i.2.2))
theorem ok_led_to (D : Df K mg "led_to" s_led_to ["table", "some", "first", "behind"]) {k : Nat} : Cal P w K mg base (k + 1) "led_to" (spLed K) := by
  refine D.cal sc_led_to rfl fun f cdv A outer s H E hr => ?_
  have sc := sc_led_to
  have hu := hu_of hr
  refine ⟨_, ((pss_cons (ps_set (i := 4) sc.nd rfl (.inl rfl) (pe_lst pa_nil)) (pss_cons (ps_for PassesOwn.never rfl (piL K rfl (pv 1)) (pg_name (i := 5) sc.nd rfl (.inl rfl))
      (pss_one (ps_expr (pbm K rfl PySem.F.plainAttrs_list PySem.F.slot_list_extend PySem.F.type_list_extend mt_extend (pv 4) (pa_cons (pe_lc (own := [("to", 6)]) (g := (gName 6)) rfl sc.nd (piT K rfl (pe_slice (slT K rfl) (pe_dget hu (pv 0) (pv 5) (fun _ _ => rfl)) (po_some (pv 2)) (po_some (pv 3)))) (blkOk_by (N := n_led_to) (sc := defScope s_led_to) (by decide +kernel)) (fun _ _ _ _ _ => (pg_name (i := 6) sc.nd rfl (.inl rfl))) (fun _ _ _ _ _ => pts_one (pt_cmp (pc_notN (pv 6)) rfl)) (fun _ _ _ _ _ => (pv 6))) pa_nil))))) (pss_one (ps_ret (pv 4)))))), ?_⟩
  rintro B H' ⟨sh, ns, so⟩ ⟨ok, ho, hz⟩
  dsimp only at ok ho hz
  have fl : ∀ (xs : List Str) (b : List Str), xs.foldl (fun b n => b ++ nbr sh n) b = b ++ ledTo sh xs := fun xs => by
    induction xs with
    | nil => intro b; simp [ledTo]
    | cons x xs ih => intro b; rw [List.foldl_cons, ih]; simp [ledTo]
  have ll : ∀ (xs : List Str), (∀ n ∈ xs, n ∈ opens sh) → (ledTo sh xs).length ≤ 6 * xs.length := fun xs => by
    induction xs with
    | nil => intro _; simp [ledTo]
    | cons x xs ih =>
      intro h
      have h1 := ih fun n hn => h n (List.mem_cons_of_mem _ hn)
      have h2 := nbr_len ok (h x (List.mem_cons_self ..))
      have e : ledTo sh (x :: xs) = nbr sh x ++ ledTo sh xs := by simp [ledTo]
      rw [e, List.length_append, List.length_cons]
      omega
  refine rn_seq (rn_asgL (el_lst ea_nil) ?_)
  refine rn_seq (rn_fold so .str (fun b : List Str => [.fz (.dct (tabK sh ns)), .fz (strsD so), .fz (.int 2), .fz (.int 8), .ow (b.map .str), .un, .un]) (fun b n => b ++ nbr sh n) [] _ _ (is_list (ev_var rfl)) (Wk.refl _) (fun e _ => tg_name 5 _) 7 (fun _ => rfl) (by decide) ?_ ?_)
  · intro pre n post b hx hb
    have hn : n ∈ opens sh := ho n (by rw [hx]; simp)
    have hb2 : b.length ≤ 6 * pre.length := by
      rw [hb, fl, List.nil_append]
      exact ll pre fun m hm => ho m (by rw [hx]; exact List.mem_append_left _ hm)
    have hpl : pre.length ≤ 1000 := by
      rw [hx, List.length_append] at hz
      omega
    have h6 := leads_len ok hn
    have hnl := nbr_len ok hn
    refine rn_ext (es := (nbr sh n).map .str) rfl (rd_l ((el_lc (leads sh n) optD Option.isSome optD _ ((is_tup (ev_slT (ev_dget (rk_var rfl) (ev_var rfl) (tab_look ok ns hn)) (eo_some (ev_var rfl)) (eo_some (ev_var rfl)))).is ?_) (by omega) (un1 rfl) (fun _ h => h) (fun o _ => tg_name 6 _) (fun o _ => (et_B (ev_notN (ev_var rfl))).is (by cases o <;> rfl)) (fun o _ _ => ev_var rfl)).is (nbr_map sh n))) (by simp; omega) ?_
    · show cutD _ (some ((2 : Nat) : Int)) (some ((8 : Nat) : Int)) = _
      rw [cutD_mid _ 2 8 (by simp [h6]) (by omega)]
      show List.take 6 ((leads sh n).map optD) = _
      rw [List.take_of_length_le (by rw [List.length_map]; omega)]
    · rw [List.map_append]
      exact wk_eq (wk_eq (wk_eq (wk_eq (wk_eq (wk_un (wk_un wk_nil))))))
  · rw [fl, List.nil_append]
    refine rn_freeze (i := 4) (fun _ z => z) rfl ?_
    exact rn_ret (ev_var rfl) rfl
/-! layers: slots 0 sheet, 1 name, 2 table, 3 left, 4 found, 5 led, 6 one; cells ['led', 'name'] -/
abbrev s_layers : Stmt := topS 51
abbrev n_layers : List Str := ["sheet", "name", "table", "left", "found", "led", "one"]
theorem sc_layers : FnScope n_layers ["sheet", "name"] (defScope s_layers) := ⟨rfl, rfl, rfl, by decide +kernel, rfl, by decide +kernel, by decide +kernel⟩
abbrev spLayers (K : PySem.W.Frag) : Sp := spI K 2 (fun i : Fo × Str => [shD i.1, .str i.2]) (fun i => Okf i.1 ∧ i.2 ∈ opens i.1) (fun i d => ∃ k, LOk i.1 i.2 k ∧ d = .lst ((List.range k).map fun j => strsD (layer i.1 i.2 j)))
theorem layer_len {s : Fo} {n : Str} : ∀ i, (layer s n (i + 1)).length + (layAt s n (i + 1)).2.length = (layAt s n i).2.length := fun i => by
  show ((layAt s n i).2.filter _).length + ((layAt s n i).2.filter _).length = _
  induction (layAt s n i).2 with
  | nil => rfl
  | cons o os ih =>
    by_cases h : o ∈ ledTo s (layAt s n i).1
    · simp [h] at ih ⊢; omega
    · simp [h] at ih ⊢; omega
theorem lay_cnt {s : Fo} {n : Str} (h0 : (layAt s n 0).2.length ≤ 40) : ∀ i, (∀ j, j ≤ i → layer s n j ≠ []) → (layAt s n i).2.length + i ≤ 40
  | 0, _ => h0
  | i + 1, h => by
    have h1 := lay_cnt h0 i fun j hj => h j (by omega)
    have h2 := layer_len (s := s) (n := n) i
    have h3 := List.length_pos_iff.mpr (h (i + 1) (Nat.le_refl _))
    omega
theorem et_weak {F : Fr} {sl tl : List Slot} {tt : TT} {b : Bool} (w : Wk sl tl) (h : EvT K F tl tt b) : EvT K F sl tt b := fun σ B H a Q q => h σ B H (a.weak w) _ fun B' H' a' e => q B' H' (a.to e a'.bh) e
theorem ok_layers (D : Df K mg "layers" s_layers ["sheet", "name"]) {k : Nat} (C_ask_open : Cal P w K mg base k "ask_open" (spAsk K)) (C_table_of : Cal P w K mg base k "table_of" (spTable K)) (C_open_parts : Cal P w K mg base k "open_parts" (spOpens K)) (C_led_to : Cal P w K mg base k "led_to" (spLed K)) : Cal P w K mg base (k + 1) "layers" (spLayers K) := by
  refine D.cal sc_layers rfl fun f cdv A outer s H E hr => ?_
  have sc := sc_layers
  have hr_ask_open := hr
  have hr_table_of := hr
  have hr_open_parts := hr
  have hr_led_to := hr
  refine ⟨_, ((pss_cons (ps_expr (pe_cal C_ask_open hr_ask_open (pa_cons (pv 0) (pa_cons (pv 1) pa_nil)))) (pss_cons (ps_set (i := 2) sc.nd rfl (.inl rfl) (pe_cal C_table_of hr_table_of (pa_cons (pv 0) pa_nil))) (pss_cons (ps_setLc (i := 3) (own := [("one", 6)]) (g := (gName 6)) rfl sc.nd rfl rfl (sw_true rfl rfl rfl (by decide +kernel)) (piL K rfl (pe_cal C_open_parts hr_open_parts (pa_cons (pv 0) pa_nil))) (blkOk_by (N := n_layers) (sc := defScope s_layers) (by decide +kernel)) (fun _ _ _ _ _ => (pg_name (i := 6) sc.nd rfl (.inl rfl))) (fun _ _ _ _ _ => pts_one (pt_cmpR op_ne (pv 6) (pv 1) (nomark _))) (fun _ _ _ _ _ => (pv 6))) (pss_cons (ps_set (i := 4) sc.nd rfl (.inl rfl) (pe_lst (pa_cons (pe_lst (pa_cons (pv 1) pa_nil)) pa_nil))) (pss_cons (ps_while PassesOwn.never (pt_cmpR (nePK K rfl hr.units) (pe_ix (ixL K rfl) (pv 4) (pe_un un_neg pe_int) (fun _ _ => rfl)) (pe_lst pa_nil) (nomark _))
      (pss_cons (ps_set (i := 5) sc.nd rfl (.inr rfl) (pe_cal C_led_to hr_led_to (pa_cons (pv 2) (pa_cons (pe_ix (ixL K rfl) (pv 4) (pe_un un_neg pe_int) (fun _ _ => rfl)) (pa_cons pe_int (pa_cons pe_int pa_nil)))))) (pss_cons (ps_expr (pbm K rfl PySem.F.plainAttrs_list PySem.F.slot_list_append PySem.F.type_list_append mt_append (pv 4) (pa_cons (pe_lc (own := [("one", 6)]) (g := (gName 6)) rfl sc.nd (piL K rfl (pv 3)) (blkOk_by (N := n_layers) (sc := defScope s_layers) (by decide +kernel)) (fun _ _ _ _ _ => (pg_name (i := 6) sc.nd rfl (.inl rfl))) (fun _ _ _ _ _ => pts_one (pt_cmpR (inS K rfl) (pv 6) (pv 5) (by rfl))) (fun _ _ _ _ _ => (pv 6))) pa_nil))) (pss_one (ps_setLc (i := 3) (own := [("one", 6)]) (g := (gName 6)) rfl sc.nd rfl rfl (sw_true rfl rfl rfl (by decide +kernel)) (piL K rfl (pv 3)) (blkOk_by (N := n_layers) (sc := defScope s_layers) (by decide +kernel)) (fun _ _ _ _ _ => (pg_name (i := 6) sc.nd rfl (.inl rfl))) (fun _ _ _ _ _ => pts_one (pt_cmpR (niS K rfl) (pv 6) (pv 5) (by rfl))) (fun _ _ _ _ _ => (pv 6))))))) (pss_one (ps_ret (pe_slice (slL K rfl) (pv 4) po_none (po_some (pe_un un_neg pe_int))))))))))), ?_⟩
  rintro B H' ⟨sh, n⟩ ⟨ok, hn⟩
  dsimp only at ok hn
  obtain ⟨e, he, rfl⟩ := opens_entry ok hn
  have hsz := ok.sz
  have hol := opens_len (s := sh)
  have lay_le : ∀ i, (layAt sh e.p.name i).2.length ≤ 40 := fun i => by
    induction i with
    | zero =>
      refine Nat.le_trans (List.length_filter_le _ _) ?_
      omega
    | succ i ih =>
      have := layer_len (s := sh) (n := e.p.name) i
      omega
  have lay_le2 : ∀ i, (layer sh e.p.name i).length ≤ 40 := fun i => by
    cases i with
    | zero => show 1 ≤ 40; omega
    | succ i =>
      have := layer_len (s := sh) (n := e.p.name) i
      have := lay_le i
      omega
  refine rn_seq (rn_drop (ev_call (f := fun _ => Dt.non) (sh, e) (ea_cons (ev_var rfl) (ea_cons (ev_var rfl) ea_nil)) (openE_of ok he)) ?_)
  refine rn_seq (rn_asgP (ev_callP sh (ea_cons (ev_var rfl) ea_nil) ok) ?_)
  rintro _ ⟨ns, rfl⟩
  refine rn_seq (rn_asg (el_lc (opens sh) .str (fun o => !decide (o = e.p.name)) .str _ (is_list (ev_call sh (ea_cons (ev_var rfl) ea_nil) ok)) (by omega) (un1 rfl) (fun _ h => h) (fun o _ => tg_name 6 _) (fun o _ => et_test (ev_neS (ev_var rfl) (ev_var rfl))) (fun o _ _ => ev_var rfl)).fz ?_)
  refine rn_seq (rn_asgL (el_lst (ea_cons (el_lst (ea_cons (ev_var rfl) ea_nil)).fz ea_nil)) ?_)
  have lastL : ∀ i, atI ((List.range (i + 1)).map fun j => strsD (layer sh e.p.name j)) (-1) = some (strsD (layer sh e.p.name i)) := fun i => by
    refine FZ.atI_last ?_
    rw [List.range_succ, List.map_append]
    exact List.getLast?_concat
  refine rn_seq (rn_while (fun m sl => ∃ i, m = 2 * (layAt sh e.p.name i).2.length + (if layer sh e.p.name i = [] then 0 else 1) ∧ (∀ j, j < i → layer sh e.p.name j ≠ []) ∧ Wk sl [.fz (shD sh), .fz (.str e.p.name), .fz (.dct (tabK sh ns)), .fz (strsD (layAt sh e.p.name i).2), .ow ((List.range (i + 1)).map fun j => strsD (layer sh e.p.name j)), .un, .un]) _ ⟨0, rfl, fun j hj => absurd hj (Nat.not_lt_zero _), Wk.refl _⟩ ?_)
  rintro m sl ⟨i, rfl, hne, wk⟩
  have hi : i ≤ 41 := by
    cases i with
    | zero => omega
    | succ i =>
      have := lay_cnt (s := sh) (n := e.p.name) (lay_le 0) i (fun j hj => hne j (by omega))
      omega
  refine ⟨!decide (layer sh e.p.name i = []), et_weak wk (et_test (ev_neU (a := layer sh e.p.name i) (b := ([] : List Str)) (ev_ixL (rd_own rfl) (ev_neg ev_int) (lastL i)) (el_lst ea_nil).fz (toP_strsL _) rfl)), fun hb => ?_, fun hb => ?_⟩
  · have hL : layer sh e.p.name i ≠ [] := fun q => by rw [decide_eq_true q] at hb; cases hb
    refine rn_weak wk ?_
    refine rn_seq (rn_asg (ev_call (sh, ns, layer sh e.p.name i) (ea_cons (ev_var rfl) (ea_cons (ev_ixL (rd_own rfl) (ev_neg ev_int) (lastL i)) (ea_cons ev_int (ea_cons ev_int ea_nil)))) ⟨ok, fun m hm => reach_open ok hn ((lay_char ok hn i).1 m |>.mp hm).1, Nat.le_trans (lay_le2 i) (by decide)⟩) ?_)
    refine rn_seq (rn_app rfl (el_lc (layAt sh e.p.name i).2 .str (fun o => decide (o ∈ ledTo sh (layer sh e.p.name i))) .str _ (is_list (ev_var rfl)) (Nat.le_trans (lay_le i) (by decide)) (un1 rfl) (fun _ h => h) (fun o _ => tg_name 6 _) (fun o _ => et_test (ev_inS (ev_var rfl) (rd_var rfl))) (fun o _ _ => ev_var rfl)).fz (by simp; omega) ?_)
    refine rn_asg (el_lc (layAt sh e.p.name i).2 .str (fun o => !decide (o ∈ ledTo sh (layer sh e.p.name i))) .str _ (is_list (ev_var rfl)) (Nat.le_trans (lay_le i) (by decide)) (un1 rfl) (fun _ h => h) (fun o _ => tg_name 6 _) (fun o _ => et_test (ev_niS (ev_var rfl) (rd_var rfl))) (fun o _ _ => ev_var rfl)).fz ?_
    refine ⟨_, ?_, i + 1, rfl, fun j hj => ?_, ?_⟩
    · have h1 := layer_len (s := sh) (n := e.p.name) i
      rw [if_neg hL]
      by_cases q : layer sh e.p.name (i + 1) = []
      · rw [if_pos q]; omega
      · rw [if_neg q]
        have := List.length_pos_iff.mpr q
        omega
    · rcases Nat.lt_or_ge j i with g | g
      · exact hne j g
      · have : j = i := by omega
        rw [this]; exact hL
    · refine wk_eq (wk_eq (wk_eq (wk_eq (wk_ow ?_ (wk_un (wk_un wk_nil))))))
      rw [List.range_succ (n := i + 1), List.map_append]
      rfl
  · have hL : layer sh e.p.name i = [] := by
      by_cases q : layer sh e.p.name i = []
      · exact q
      · rw [decide_eq_false q] at hb; cases hb
    refine rn_weak wk ?_
    refine rn_ret (el_slL (rd_own rfl) eo_none (eo_some (ev_neg ev_int))).fz ⟨i, ⟨hL, hne⟩, ?_⟩
    rw [cutD_init, List.range_succ, List.map_append]
    show Dt.lst ((_ ++ [_]).dropLast) = _
    rw [List.dropLast_concat]
/-! rows_from: slots 0 sheet, 1 one, 2 table, 3 rows, 4 line, 5 at, 6 way, 7 to -/
abbrev s_rows_from : Stmt := topS 53
abbrev n_rows_from : List Str := ["sheet", "one", "table", "rows", "line", "at", "way", "to"]
theorem sc_rows_from : FnScope n_rows_from ["sheet", "one"] (defScope s_rows_from) := ⟨rfl, rfl, rfl, by decide +kernel, rfl, by decide +kernel, by decide +kernel⟩
def rowsD (b : BS) : Dt := .dct (b.map fun p => (p.1, strsD p.2))
abbrev spRows (K : PySem.W.Frag) : Sp := spI K 2 (fun i : Fo × Str => [shD i.1, .str i.2]) (fun i => Okf i.1 ∧ i.2 ∈ opens i.1) (fun i d => ∃ b, ROk i.1 i.2 b ∧ d = rowsD b)
theorem nodup_len {α : Type} [DecidableEq α] : ∀ {xs ys : List α}, xs.Nodup → (∀ x ∈ xs, x ∈ ys) → xs.length ≤ ys.length
  | [], ys, _, _ => Nat.zero_le _
  | x :: xs, ys, h, hs => by
    rw [List.nodup_cons] at h
    have h1 := nodup_len (ys := ys.erase x) h.2 fun y hy => (List.mem_erase_of_ne (show y ≠ x from fun q => h.1 (by rw [← q]; exact hy))).mpr (hs y (List.mem_cons_of_mem _ hy))
    rw [List.length_erase_of_mem (hs x (List.mem_cons_self ..))] at h1
    have := List.length_pos_of_mem (hs x (List.mem_cons_self ..))
    rw [List.length_cons]
    omega
theorem rows_look {b : BS} (nd : (keys b).Nodup) {p : Str × List Str} (hp : p ∈ b) : (b.map fun p => (p.1, strsD p.2)).lookup p.1 = some (strsD p.2) := lookup_map (fun p : Str × List Str => p.1) (fun p => strsD p.2) b nd p hp
theorem rows_none {b : BS} {t : Str} : ((b.map fun p => (p.1, strsD p.2)).lookup t).isSome = decide (t ∈ keys b) := by
  induction b with
  | nil => rfl
  | cons p b ih =>
    rw [List.map_cons]
    by_cases e : t = p.1
    · subst e
      simp [List.lookup, keys]
    · have e1 : (t == p.1) = false := by simpa using e
      simp only [List.lookup, e1, ih]
      unfold keys
      exact decide_eq_decide.mpr ⟨fun h => List.mem_cons_of_mem _ h, fun h => by
        rcases List.mem_cons.mp h with h | h
        · exact absurd h e
        · exact h⟩
theorem ok_rows_from (D : Df K mg "rows_from" s_rows_from ["sheet", "one"]) (T : Tx K w mg) {k : Nat} (C_table_of : Cal P w K mg base k "table_of" (spTable K)) : Cal P w K mg base (k + 1) "rows_from" (spRows K) := by
  obtain ⟨aW, hWAYS, hWD⟩ := T.WAYS
  refine D.cal sc_rows_from rfl fun f cdv A outer s H E hr => ?_
  have sc := sc_rows_from
  have hr_table_of := hr
  have hu := hu_of hr
  refine ⟨_, ((pss_cons (ps_set (i := 2) sc.nd rfl (.inl rfl) (pe_cal C_table_of hr_table_of (pa_cons (pv 0) pa_nil))) (pss_cons (ps_set (i := 3) sc.nd rfl (.inl rfl) (pe_disp (pps_cons (pv 1) (pe_lst pa_nil) pps_nil) (by rfl) (by rfl) (fun z => by cases z) (by decide))) (pss_cons (ps_set (i := 4) sc.nd rfl (.inl rfl) (pe_lst (pa_cons (pv 1) pa_nil))) (pss_cons (ps_set (i := 5) sc.nd rfl (.inl rfl) pe_int) (pss_cons (ps_while PassesOwn.never (pt_cmpR op_lt (pv 5) (pe_callB (lenK K rfl) (by rfl) T.len (by decide +kernel) (pa_cons (pv 4) pa_nil)) (nomark _))
      (pss_cons (ps_for PassesOwn.never rfl (piZip K rfl (by rfl) T.zip (pa_cons (pe_ga hWAYS) (pa_cons (pe_slice (slT K rfl) (pe_dget hu (pv 2) (pe_ix (ixL K rfl) (pv 4) (pv 5) (fun _ _ => rfl)) (fun _ _ => rfl)) (po_some pe_int) po_none) pa_nil))) (pgT K (n := 2) rfl rfl (pgs_cons (pg_name (i := 6) sc.nd rfl (.inl rfl)) (pgs_cons (pg_name (i := 7) sc.nd rfl (.inl rfl)) pgs_nil)))
      (pss_one (ps_if (PW.pt (pw_and (pt_cmp (pc_notN (pv 7)) rfl) (pw_and1 (pt_cmp (pc_dnotin hu (pv 7) (pv 3)) rfl))))
      (pss_cons (ps_dput hu (pv 3) (pv 7) (pe_op op_cat (pe_dget hu (pv 3) (pe_ix (ixL K rfl) (pv 4) (pv 5) (fun _ _ => rfl)) (fun _ _ => rfl)) (pe_lst (pa_cons (pv 6) pa_nil))) rfl) (pss_one (ps_expr (pbm K rfl PySem.F.plainAttrs_list PySem.F.slot_list_append PySem.F.type_list_append mt_append (pv 4) (pa_cons (pv 7) pa_nil)))))
      pss_nil))) (pss_one (ps_set (i := 5) sc.nd rfl (.inl rfl) (pe_op op_add (pv 5) pe_int))))) (pss_one (ps_ret (pv 3))))))))), ?_⟩
  rintro B H' ⟨sh, n⟩ ⟨ok, hn⟩
  dsimp only at ok hn
  have hsz := ok.sz
  have hol := opens_len (s := sh)
  refine rn_seq (rn_asgP (ev_callP sh (ea_cons (ev_var rfl) ea_nil) ok) ?_)
  rintro _ ⟨ns, rfl⟩
  refine rn_seq (rn_asgK (ek_disp (eps_cons (ev_var rfl) (el_lst ea_nil).fz eps_nil) (by simp)) ?_)
  refine rn_seq (rn_asgL (el_lst (ea_cons (ev_var rfl) ea_nil)) ?_)
  refine rn_seq (rn_asg ev_int ?_)
  have blen : ∀ {j b}, BOk sh n j b → b.length ≤ 40 := fun {j b} h => by
    have := nodup_len h.nd (ys := opens sh) fun x hx => by
      obtain ⟨p, hp, rfl⟩ := List.mem_map.mp hx
      exact h.op p hp
    rw [keys, List.length_map] at this
    omega
  refine rn_seq (rn_while (fun m sl => ∃ (j : Nat) (b : BS), m = 41 - j ∧ BOk sh n j b ∧ Wk sl [.fz (shD sh), .fz (.str n), .fz (.dct (tabK sh ns)), .od (b.map fun p => (p.1, strsD p.2)), .ow ((keys b).map .str), .fz (.int (j : Nat)), .un, .un]) _ ⟨0, [(n, [])], rfl, b0_ok hn, Wk.refl _⟩ ?_)
  rintro m sl ⟨j, b, rfl, bok, wk⟩
  have hbl := blen bok
  have hkl : ((keys b).map Dt.str).length = b.length := by rw [List.length_map, keys, List.length_map]
  refine ⟨decide (((j : Nat) : Int) < (((keys b).map Dt.str).length : Int)), et_weak wk (et_test (ev_lt (ev_var rfl) (ev_lenL (rd_own rfl)))), fun hb => ?_, fun hb => ?_⟩
  · have hj : j < b.length := by
      have := of_decide_eq_true hb
      rw [hkl] at this
      omega
    obtain ⟨p, hp⟩ : ∃ p, b[j]? = some p := ⟨b[j], List.getElem?_eq_getElem hj⟩
    have hpm := List.mem_of_getElem? hp
    have hpo := bok.op p hpm
    have h6 := leads_len ok hpo
    have key : ∀ {c : BS}, c[j]? = some p → atI ((keys c).map Dt.str) ((j : Nat) : Int) = some (.str p.1) := fun {c} hc => by
      refine FZ.atI_nat ?_
      rw [List.getElem?_map, keys, List.getElem?_map, hc]
      rfl
    refine rn_weak wk ?_
    refine rn_seq (rn_fold (ways6.zip (leads sh p.1)) (fun x => .tup [.str x.1, optD x.2]) (fun c : BS => [.fz (shD sh), .fz (.str n), .fz (.dct (tabK sh ns)), .od (c.map fun p => (p.1, strsD p.2)), .ow ((keys c).map .str), .fz (.int (j : Nat)), .un, .un]) (bStep p.2) b _ _ ((is_zipT (ds := ways6.map .str) (ev_c hWD) (ev_slT (ev_dget (rk_var rfl) (ev_ixL (rd_own rfl) (ev_var rfl) (key hp)) (tab_look ok ns hpo)) (eo_some ev_int) eo_none)).is ?_) (Wk.refl _) (fun x _ => tg_tup2 6 7 _ _) 8 (fun _ => rfl) (by decide) ?_ ?_)
    · show zipD _ (cutD _ (some ((2 : Nat) : Int)) none) = _
      rw [cutD_from _ 2 (by simp)]
      show zipD (ways6.map .str) ((leads sh p.1).map optD) = _
      unfold zipD
      rw [List.zip_map, List.map_map]
      rfl
    · rintro pre ⟨wy, o⟩ post c hx hc
      obtain ⟨k1, k2, k3⟩ := bFold_ok ok pre bok hp (fun x hx' => zip_step h6 x (by rw [hx]; exact List.mem_append_left _ hx'))
      rw [← hc] at k1 k2
      have hcp := k2 _ _ hp
      have hcl := blen k1
      cases o with
      | none =>
        refine rn_if (b := false) (et_and0 ((et_B (ev_notN (ev_var rfl))).is rfl)) (fun h => by cases h) (fun _ => rn_next ?_)
        exact wk_eq (wk_eq (wk_eq (wk_eq (wk_eq (wk_eq (wk_un (wk_un wk_nil)))))))
      | some t =>
        refine rn_if (b := !decide (t ∈ keys c)) ((et_and (a := true) ((et_B (ev_notN (ev_var rfl))).is rfl) (fun _ => et_B ((ev_dni (k := t) (ev_var rfl) (rk_own rfl)).is (by rw [rows_none])))).is (Bool.true_and _)) (fun h => ?_) (fun h => rn_next ?_)
        · have ht : t ∉ keys c := fun q => by rw [decide_eq_true q] at h; cases h
          refine rn_seq (rn_dput rfl (el_cat (rd_d (ev_dget (rk_own rfl) (ev_ixL (rd_own rfl) (ev_var rfl) (key hcp)) (rows_look k1.nd (List.mem_of_getElem? hcp)))) (rd_l (el_lst (ea_cons (ev_var rfl) ea_nil))) ?_).fz (ev_var rfl) (by rw [List.length_map]; omega) ?_)
          · have := bok.sz j p hp
            show (p.2.map Dt.str).length + 1 ≤ 100000
            rw [List.length_map]
            omega
          refine rn_app rfl (ev_var rfl) (by rw [List.length_map, keys, List.length_map]; omega) ?_
          have e1 : bStep p.2 c (wy, some t) = c ++ [(t, p.2 ++ [wy])] := by
            show (if t ∈ keys c then c else _) = _
            rw [if_neg ht]
          rw [e1]
          refine wk_eq (wk_eq (wk_eq (wk_od ?_ (wk_ow ?_ (wk_eq (wk_un (wk_un wk_nil)))))))
          · unfold dput
            rw [rows_none, decide_eq_false ht, if_neg (by decide), List.map_append]
            show _ ++ [(t, Dt.lst (p.2.map .str ++ [.str wy]))] = _ ++ [(t, Dt.lst ((p.2 ++ [wy]).map .str))]
            rw [List.map_append]
            rfl
          · unfold keys
            rw [List.map_append, List.map_append]
            rfl
        · have ht : t ∈ keys c := by
            by_cases q : t ∈ keys c
            · exact q
            · rw [decide_eq_false q] at h; cases h
          have e1 : bStep p.2 c (wy, some t) = c := by
            show (if t ∈ keys c then c else _) = _
            rw [if_pos ht]
          rw [e1]
          exact wk_eq (wk_eq (wk_eq (wk_eq (wk_eq (wk_eq (wk_un (wk_un wk_nil)))))))
    · refine rn_asg (ev_add (ev_var rfl) ev_int) ?_
      refine ⟨41 - (j + 1), by omega, j + 1, bTurn sh b p, rfl, bTurn_ok ok bok hp, ?_⟩
      exact wk_eq (wk_eq (wk_eq (wk_eq (wk_eq (wk_fz (by simp) (wk_un (wk_un wk_nil)))))))
  · have hj : j = b.length := by
      have h1 := of_decide_eq_false hb
      rw [hkl] at h1
      have := bok.le
      omega
    refine rn_weak wk ?_
    refine rn_freezeD (i := 3) (fun _ z => z) rfl ?_
    subst hj
    exact rn_ret (ev_var rfl) ⟨b, bok.done, rfl⟩
end
end FW
set_option maxHeartbeats 4000000
/-! parted -/
namespace FW
open PySem PySem.Spec PyProof.Rows L2 FZ
section
variable {P : Program} {w : World} {K : PySem.W.Frag} {mg : Str → Option Value} {base : Heap}
theorem LOk.uniq {s : Fo} {n : Str} {k l : Nat} (h : LOk s n k) (g : LOk s n l) : k = l := by
  rcases Nat.lt_trichotomy k l with q | q | q
  · exact absurd h.stop (g.more k q)
  · exact q
  · exact absurd g.stop (h.more l q)
theorem lok_ex {s : Fo} (ok : Okf s) (n : Str) : ∃ k, k ≤ 41 ∧ LOk s n k := by
  have all : ∀ m, (∀ i, i < m → layer s n i ≠ []) ∨ ∃ k, k < m ∧ LOk s n k := fun m => by
    induction m with
    | zero => exact .inl fun i hi => absurd hi (Nat.not_lt_zero _)
    | succ m ih =>
      rcases ih with ih | ⟨k, h1, h2⟩
      · by_cases q : layer s n m = []
        · exact .inr ⟨m, by omega, q, ih⟩
        · refine .inl fun i hi => ?_
          rcases Nat.lt_or_ge i m with g | g
          · exact ih i g
          · have : i = m := by omega
            rw [this]; exact q
      · exact .inr ⟨k, by omega, h2⟩
  rcases all 42 with h | ⟨k, h1, h2⟩
  · have h0 : (layAt s n 0).2.length ≤ 40 := by
      refine Nat.le_trans (List.length_filter_le _ _) ?_
      have := ok.sz
      have := opens_len (s := s)
      omega
    have := lay_cnt h0 41 fun j hj => h j (by omega)
    omega
  · exact ⟨k, by omega, h2⟩
theorem ev_layers {F : Fr} {sl : List FZ.Slot} {tas : TA} {E : XK} {s : Fo} {n : Str} {k : Nat} (ha : EvAs K F sl tas [shD s, .str n]) (ok : Okf s) (hn : n ∈ opens s) (hk : LOk s n k) : EvD K F sl (tCall (spLayers K) [] E tas) (.lst ((List.range k).map fun j => strsD (layer s n j))) :=
  (ev_callP (s, n) ha ⟨ok, hn⟩).det fun e ⟨k', h1, h2⟩ => by rw [h2, h1.uniq hk]
def Whole (s : Fo) : Prop := ∀ one ∈ opens s, ∀ other ∈ opens s, ∃ i, other ∈ layer s one i
/-! parted: slots 0 sheet, 1 some, 2 one, 3 names, 4 layer, 5 other, 6 name; cells ['names'] -/
abbrev s_parted : Stmt := topS 55
abbrev n_parted : List Str := ["sheet", "some", "one", "names", "layer", "other", "name"]
theorem sc_parted : FnScope n_parted ["sheet"] (defScope s_parted) := ⟨rfl, rfl, rfl, by decide +kernel, rfl, by decide +kernel, by decide +kernel⟩
abbrev spParted (K : PySem.W.Frag) : Sp := spI K 1 (fun s => [shD s]) Okf (fun s d => d.isNon = true ↔ Whole s)
theorem ok_parted (D : Df K mg "parted" s_parted ["sheet"]) {k : Nat} (C_open_parts : Cal P w K mg base k "open_parts" (spOpens K)) (C_layers : Cal P w K mg base k "layers" (spLayers K)) : Cal P w K mg base (k + 1) "parted" (spParted K) := by
  refine D.cal sc_parted rfl fun f cdv A outer s H E hr => ?_
  have sc := sc_parted
  have hr_open_parts := hr
  have hr_layers := hr
  refine ⟨_, ((pss_cons (ps_set (i := 1) sc.nd rfl (.inl rfl) (pe_cal C_open_parts hr_open_parts (pa_cons (pv 0) pa_nil))) (pss_cons (ps_for PassesOwn.never rfl (piL K rfl (pv 1)) (pg_name (i := 2) sc.nd rfl (.inl rfl))
      (pss_cons (ps_set (i := 3) sc.nd rfl (.inr rfl) (pe_lst pa_nil)) (pss_cons (ps_for PassesOwn.never rfl (piL K rfl (pe_cal C_layers hr_layers (pa_cons (pv 0) (pa_cons (pv 2) pa_nil)))) (pg_name (i := 4) sc.nd rfl (.inl rfl))
      (pss_one (ps_expr (pbm K rfl PySem.F.plainAttrs_list PySem.F.slot_list_extend PySem.F.type_list_extend mt_extend (pv 3) (pa_cons (pv 4) pa_nil))))) (pss_one (ps_for PassesOwn.never rfl (piL K rfl (pv 1)) (pg_name (i := 5) sc.nd rfl (.inl rfl))
      (pss_one (ps_if (pt_cmpR (niS K rfl) (pv 5) (pv 3) (by rfl))
      (pss_one (ps_ret (pe_tup (pa_cons (pv 2) (pa_cons (pv 5) (pa_cons (pe_lc (own := [("name", 6)]) (g := (gName 6)) rfl sc.nd (piL K rfl (pv 1)) (blkOk_by (N := n_parted) (sc := defScope s_parted) (by decide +kernel)) (fun _ _ _ _ _ => (pg_name (i := 6) sc.nd rfl (.inl rfl))) (fun _ _ _ _ _ => pts_one (pt_cmpR (inS K rfl) (pv 6) (pv 3) (by rfl))) (fun _ _ _ _ _ => (pv 6))) pa_nil))))))
      pss_nil))))))) (pss_one (ps_ret pe_non))))), ?_⟩
  intro B H' sh ok
  have hsz := ok.sz
  have hol := opens_len (s := sh)
  refine rn_seq (rn_asg (ev_call sh (ea_cons (ev_var rfl) ea_nil) ok) ?_)
  refine rn_seq (rn_seek (opens sh) .str [.fz (shD sh), .fz (strsD (opens sh)), .un, .un, .un, .un, .un] (fun one => ∀ other ∈ opens sh, ∃ i, other ∈ layer sh one i) _ _ (is_list (ev_var rfl)) (Wk.refl _) (fun x _ => tg_name 2 _) 7 rfl (by decide) ?_ ?_)
  · intro pre one post hx hpre
    have ho : one ∈ opens sh := by rw [hx]; simp
    obtain ⟨k, hk41, hk⟩ := lok_ex ok one
    have lle : ∀ i, (layer sh one i).length ≤ 40 := fun i => by
      have lay_le : ∀ i, (layAt sh one i).2.length ≤ 40 := fun i => by
        induction i with
        | zero =>
          refine Nat.le_trans (List.length_filter_le _ _) ?_
          omega
        | succ i ih =>
          have := layer_len (s := sh) (n := one) i
          omega
      cases i with
      | zero => show 1 ≤ 40; omega
      | succ i =>
        have := layer_len (s := sh) (n := one) i
        have := lay_le i
        omega
    have fl : ∀ (xs : List Nat) (b : List Str), xs.foldl (fun b j => b ++ layer sh one j) b = b ++ xs.flatMap (layer sh one) := fun xs => by
      induction xs with
      | nil => intro b; simp
      | cons x xs ih => intro b; rw [List.foldl_cons, ih]; simp
    have ll : ∀ (xs : List Nat), (xs.flatMap (layer sh one)).length ≤ 40 * xs.length := fun xs => by
      induction xs with
      | nil => simp
      | cons x xs ih =>
        have := lle x
        rw [List.flatMap_cons, List.length_append, List.length_cons]
        omega
    refine rn_seq (rn_asgL (el_lst ea_nil) ?_)
    refine rn_seq (rn_fold (List.range k) (fun j => strsD (layer sh one j)) (fun b : List Str => [.fz (shD sh), .fz (strsD (opens sh)), .fz (.str one), .ow (b.map .str), .un, .un, .un]) (fun b j => b ++ layer sh one j) [] _ _ (is_list (ev_layers (ea_cons (ev_var rfl) (ea_cons (ev_var rfl) ea_nil)) ok ho hk)) (Wk.refl _) (fun x _ => tg_name 4 _) 7 (fun _ => rfl) (by decide) ?_ ?_)
    · intro pre2 j post2 b hx2 hb
      refine rn_ext rfl (rd_var rfl) ?_ ?_
      · have h1 := congrArg List.length hx2
        rw [List.length_range, List.length_append] at h1
        have h2 := ll pre2
        have h3 := lle j
        rw [hb, fl, List.nil_append, List.length_map, List.length_map]
        omega
      · rw [List.map_append]
        exact wk_eq (wk_eq (wk_eq (wk_eq (wk_un (wk_un (wk_un wk_nil))))))
    · rw [fl, List.nil_append]
      have memN : ∀ o, o ∈ (List.range k).flatMap (layer sh one) ↔ ∃ i, o ∈ layer sh one i := fun o => by
        rw [List.mem_flatMap]
        exact ⟨fun ⟨i, _, h⟩ => ⟨i, h⟩, fun ⟨i, h⟩ => ⟨i, List.mem_range.mpr (hk.lt h), h⟩⟩
      refine rn_seek (opens sh) .str [.fz (shD sh), .fz (strsD (opens sh)), .fz (.str one), .ow (((List.range k).flatMap (layer sh one)).map .str), .un, .un, .un] (fun o => ∃ i, o ∈ layer sh one i) _ _ (is_list (ev_var rfl)) (wk_eq (wk_eq (wk_eq (wk_eq (wk_un (wk_un (wk_un wk_nil))))))) (fun x _ => tg_name 5 _) 7 rfl (by decide) ?_ ?_
      · intro pre3 o post3 hx3 hpre3
        have hoo : o ∈ opens sh := by rw [hx3]; simp
        refine rn_if (et_test (ev_niS (ev_var rfl) (rd_own rfl))) (fun h => ?_) (fun h => rn_next ⟨wk_eq (wk_eq (wk_eq (wk_eq (wk_un (wk_un (wk_un wk_nil)))))), ?_⟩)
        · refine rn_ret (ev_tup (ea_cons (ev_var rfl) (ea_cons (ev_var rfl) (ea_cons (el_lc (opens sh) .str (fun o => decide (o ∈ (List.range k).flatMap (layer sh one))) .str _ (is_list (ev_var rfl)) (by omega) (un1 rfl) (fun _ h => h) (fun o _ => tg_name 6 _) (fun o _ => et_test (ev_inS (ev_var rfl) (rd_own rfl))) (fun o _ _ => ev_var rfl)).fz ea_nil)))) ?_
          show Dt.isNon (.tup _) = true ↔ Whole sh
          constructor
          · intro z; cases z
          · intro z
            have := (memN o).mpr (z one ho o hoo)
            rw [decide_eq_true this] at h
            cases h
        · rw [← memN o]
          by_cases q : o ∈ (List.range k).flatMap (layer sh one)
          · exact q
          · rw [decide_eq_false q] at h; cases h
      · intro h
        exact ⟨wk_eq (wk_eq (wk_un (wk_un (wk_un (wk_un (wk_un wk_nil)))))), h⟩
  · intro h
    refine rn_ret ev_non ?_
    show Dt.isNon .non = true ↔ Whole sh
    exact ⟨fun _ => h, fun _ => rfl⟩
end
end FW
set_option maxHeartbeats 4000000
/-! NoWay: how it is made -/
namespace FW
open PySem PySem.Spec PyProof.Rows L2 FZ
section
variable {X : Cx} {e : Expr} {es : List Expr} {ta : TA} {p1 p2 pos : Pos}
/-- FocusError.__init__(self, ..) -/
theorem pe_feinit {C0 : Addr} {pl : Sem Bool} (hg : Gl X "FocusError") (hm : X.mg "FocusError" = some (.ref C0)) (hr : PySem.W.readsIn X.K C0 (.type "type") = true) (vV : PySem.W.findCls X.K (.ref C0) (.type "type") "__init__" = some (.val (.builtin "ValueError.__init__")))
    (hsp : PySem.W.specialIn X.K (.ref C0) "__getattribute__" = some (some (.builtin "type.__getattribute__"))) (ha : PA X (e :: es) ta)
    (hc : eval (.Call (.Attribute (.Name "FocusError" p1) "__init__" p2) (e :: es) [] pos) X.env = (do
      let ov ← eval (.Name "FocusError" p1) X.env
      standAt p2.atName
      let (f, first) ← holding [ov] (getMethod ov "__init__" pl)
      callWith pos f first (backTo pos (starEach (e :: es) X.env)) (backToKw pos (keywordEach [] X.env))) := by rfl)
    (he : starEach (e :: es) X.env = (false, eval e X.env) :: starEach es X.env := by rfl) (hpl : (backTo pos (starEach es X.env)).any (·.1) = false := by rfl) :
    PE X (.Call (.Attribute (.Name "FocusError" p1) "__init__" p2) (e :: es) [] pos) (tVeI X.K ta) := by
  refine ⟨fun pins s σ H Q I h => ?_⟩
  refine PySem.W.methodCall_KW (ld_glob I hg hm ?_ (by decide)) hc
  refine PySem.W.method_cls I.kIn hsp (PySem.W.cls_value I.kIn hr vV (by decide +kernel) ?_)
  show wpAny _ _ (callWith pos (Value.builtin "ValueError.__init__") [] (backTo pos (starEach (e :: es) X.env)) []) _ _ _
  refine PyProof.Rows.callWith_method1 (thn (ha.run pos pins _ σ H _ (I.tok _) h) fun us s1 ⟨vs, H1, I1, r1, a, C, ws, ev, hl, T, ea, q⟩ => ?_) he hpl
  subst ev
  cases r1 with
  | @cons _ u0 _ ur ra rw' =>
    obtain rfl : u0 = Value.ref a := ra
    have hlen : ur.length ≤ sizeLine := by
      rw [← Paired.length rw', sizeLine_eq]
      omega
    exact oinit_ok T I1 ea hlen fun s' J => ⟨.non, H1, J, rfl, q⟩
end
abbrev s_ninit : Stmt := inClass (topS 5) 0
/-- what is told of NoWay, at C, of FocusError, at C0 -/
structure TxE (K : PySem.W.Frag) (mg : Str → Option Value) (C : Addr) : Prop where
  gC : mg "NoWay" = some (.ref C)
  gF : ∃ C0, mg "FocusError" = some (.ref C0) ∧ PySem.W.readsIn K C0 (.type "type") = true ∧ PySem.W.findCls K (.ref C0) (.type "type") "__init__" = some (.val (.builtin "ValueError.__init__")) ∧ PySem.W.specialIn K (.ref C0) "__getattribute__" = some (some (.builtin "type.__getattribute__"))
  T : OexC K C
  nb : PySem.W.findIn K (.ref C) "names" = some none
  ini : ∃ fI fd, PySem.W.findIn K (.ref C) "__init__" = some (some (.ref fI)) ∧ PySem.W.typeIn K (.ref fI) = some (.type "function") ∧ Fun K "__init__" "NoWay.__init__" s_ninit fI fd ∧ Binds K fd ["self", "names"] []
  xf : XfC K C
  te : PySem.W.exmOne K (.ref C) (.ref C) = some true
section
variable {P : Program} {w : World} {K : PySem.W.Frag} {mg : Str → Option Value} {base : Heap} {C : Addr}
def spNoWay (C : Addr) : Sp := fun vs H Q _ => ∃ (a : Addr) (y : V), vs = [.ref a, y] ∧ H a = some (exo a C none) ∧ ∀ dx, H dx = none → dx ≠ a → Q .non (upd (upd H dx (exd dx [("names", y)])) a (exo a C (some dx)))
theorem sc_ninit : FnScope ["self", "names"] ["self", "names"] (defScope s_ninit) := ⟨rfl, rfl, rfl, by decide +kernel, rfl, by decide +kernel, by decide +kernel⟩
def t_ninit (K : PySem.W.Frag) : TS := tSeq (tDrop (tVeI K (tCons (tVar 0) (tCons (tC (.str "no row of keys leads there")) tNil)))) (tOst K "names" (tVar 0) (tVar 1))
theorem ok_ninit {fI : Addr} {fd : FuncData} (T : TxE K mg C) (F : Fun K "__init__" "NoWay.__init__" s_ninit fI fd) {k : Nat} : FnOk P w K mg base CX0 (k + 1) fI fd ["self", "names"] (spNoWay C) := by
  obtain ⟨C0, gF, hr0, vV, hsp⟩ := T.gF
  refine F.ok sc_ninit (fun vs H Q E h => ?_) (fun cdv A outer s H vs Q E hr h => ⟨t_ninit K, ?_, ?_⟩)
  · obtain ⟨a, y, rfl, _⟩ := h
    rfl
  · have sc := sc_ninit
    exact pss_cons (ps_expr (pe_feinit rfl gF hr0 vV hsp (pa_cons (pv 0) (pa_cons pe_str pa_nil)))) (pss_one (ps_ost (pv 0) (pv 1)))
  · obtain ⟨a, y, rfl, ha, q⟩ := h
    refine ⟨.ref a, rfl, a, C, [_], rfl, (by decide), T.T, ha, ?_⟩
    refine ⟨y, rfl, .ref a, rfl, a, C, rfl, T.T, T.nb, .inl ⟨ha, fun dx h1 h2 => q dx h1 h2⟩⟩
end
end FW
set_option maxHeartbeats 4000000
/-! row_to: a row or a refusal -/
namespace FW
open PySem PySem.Spec PyProof.Rows L2 FZ
/-- a def that may raise, as it is called by its name -/
structure CalX (P : Program) (w : World) (K : PySem.W.Frag) (mg : Str → Option Value) (base : Heap) (k : Nat) (x : Str) (sp : Sp) : Prop where
  ex : ∃ f fd ps, FnOk P w K mg base (L2.CX P w) k f fd ps sp ∧ mg x = some (.ref f) ∧ PySem.W.keepIn K (.ref f) = true ∧ Binds K fd ps []
theorem stp0 {K : PySem.W.Frag} {B H : Hp} {s : List FZ.Slot} {σ : L2.St} {B' H' : Hp} (a : SA K (F0 B H) s σ B' H') : Stp B H B' H' := ⟨a.b0, fun x o q => a.kp x o q (fun z => z), fun x h0 b0 => a.nn x h0 b0⟩
theorem run_rn {K : PySem.W.Frag} {N : List Str} {vs : List V} {ds : List Dt} {B H : Hp} {ts : TS} {Po : FZ.Po} {Y : Ends} (e : Same B H) (hd : Ds K B vs ds) (hb : Rn K (F0 B H) (ds.map .fz ++ List.replicate (N.length - ds.length) .un) ts Po)
    (hs : ∀ s σ B' H', SA K (F0 B H) s σ B' H' → (Po.nx s → Y.nx σ H') ∧ (∀ d v, Po.rt d s → D K B' v d → Y.rt v H') ∧ ¬ Po.bk s ∧ ¬ Po.ct s) : ts Y (L2.start N vs) H := by
  have a : SA K (F0 B H) (ds.map .fz ++ List.replicate (N.length - ds.length) .un) (L2.start N vs) B H := by
    have := SA.init e hd (N.length - ds.length)
    unfold L2.start
    rw [hd.len]; exact this
  exact hb (L2.start N vs) B H _ a ⟨fun s σ B' H' p a z => (hs s σ B' H' a).1 p, fun d s v σ B' H' p a z dv => (hs s σ B' H' a).2.1 d v p dv, fun s σ B' H' p a z => ((hs s σ B' H' a).2.2.1 p).elim, fun s σ B' H' p a z => ((hs s σ B' H' a).2.2.2 p).elim⟩
section
variable {P : Program} {w : World} {K : PySem.W.Frag} {mg : Str → Option Value} {base : Heap} {C : Addr}
theorem rn_raise {B H : Hp} {sl : List FZ.Slot} {te : TE} {d0 : Dt} {Po : FZ.Po} {E : XK} (ha : EvD K (F0 B H) sl te d0) (hE : ∀ B' H' dd y, Stp B H B' H' → Same B' H' → H' dd = some (.xd [("names", y)]) → D K B' y d0 → E (.ref C) (some dd) H') :
    Rn K (F0 B H) sl (fun _ σ H1 => tMkO C (spNoWay C) [] (tCons te tNil) σ H1 fun cls d H' => E cls d H') Po := fun σ B1 H1 Y a t => by
  refine ha σ B1 H1 a _ fun v B2 H2 a2 e2 dv => ⟨by simp, fun p hp => ⟨p, v, rfl, upd_same, fun dx h1 h2 => ?_⟩⟩
  rw [upd_ne h2] at h1
  have s1 : Stp B H B2 H2 := stp0 a2
  refine ⟨rfl, dx, [("names", v)], upd_same, (upd_ne h2).trans upd_same, h1, ?_⟩
  have sm : Same H2 (upd (del (upd (upd (upd H2 p (exo p C none)) dx (exd dx [("names", v)])) p (exo p C (some dx))) p) dx (.xd [("names", v)])) := fun x u q => by
    have n1 : x ≠ p := fun z => by rw [z, hp] at q; cases q
    have n2 : x ≠ dx := fun z => by rw [z, h1] at q; cases q
    rw [upd_ne n2, del_ne n1, upd_ne n1, upd_ne n2, upd_ne n1]
    exact q
  exact hE B2 _ dx v ⟨s1.e, s1.g.trans sm, s1.n⟩ (a2.bh.trans sm) upd_same dv
abbrev toI : Fo × Str × Str → List Dt := fun i => [shD i.1, .str i.2.1, .str i.2.2]
abbrev toPre : Fo × Str × Str → Prop := fun i => Okf i.1 ∧ i.2.1 ∈ opens i.1 ∧ i.2.2 ∈ opens i.1
/-- a row, or NoWay with what is reached -/
def spRowTo (K : PySem.W.Frag) (C : Addr) : Sp := fun vs H Q E => ∃ (B : Hp) (i : Fo × Str × Str), Same B H ∧ Ds K B vs (toI i) ∧ toPre i ∧
  (∀ b row v B' H', ROk i.1 i.2.1 b → (i.2.2, row) ∈ b → Stp B H B' H' → Same B' H' → D K B' v (strsD row) → Q v H') ∧
  (∀ b B' H' dd y, ROk i.1 i.2.1 b → i.2.2 ∉ keys b → Stp B H B' H' → Same B' H' → H' dd = some (.xd [("names", y)]) → D K B' y (strsD ((opens i.1).filter fun n => decide (n ∈ keys b))) → E (.ref C) (some dd) H')
/-! row_to: slots 0 sheet, 1 one, 2 other, 3 rows, 4 name; cells ['rows'] -/
abbrev s_row_to : Stmt := topS 54
abbrev n_row_to : List Str := ["sheet", "one", "other", "rows", "name"]
theorem sc_row_to : FnScope n_row_to ["sheet", "one", "other"] (defScope s_row_to) := ⟨rfl, rfl, rfl, by decide +kernel, rfl, by decide +kernel, by decide +kernel⟩
theorem ok_row_to (D : Df K mg "row_to" s_row_to ["sheet", "one", "other"]) (T : TxE K mg C) {k : Nat} (C_part_of : Cal P w K mg base (k + 2) "part_of" (spPartOf K)) (C_ask_open : Cal P w K mg base (k + 2) "ask_open" (spAsk K)) (C_rows_from : Cal P w K mg base (k + 2) "rows_from" (spRows K)) (C_open_parts : Cal P w K mg base (k + 2) "open_parts" (spOpens K)) : CalX P w K mg base (k + 3) "row_to" (spRowTo K C) := by
  obtain ⟨f, fd, F, hm, b⟩ := D.ex
  obtain ⟨fI, fdI, iC, tI, FI, bI⟩ := T.ini
  refine ⟨f, fd, _, ?_, hm, F.kp, b⟩
  refine F.okX sc_row_to (fun vs H Q E h => ?_) (fun cdv A outer s H vs Q E hr h => ?_)
  · obtain ⟨B, i, _, hd, _⟩ := h
    exact hd.len
  have sc := sc_row_to
  have hr_part_of := hr
  have hr_ask_open := hr
  have hr_rows_from := hr
  have hr_open_parts := hr
  have hu := hu_of hr
  refine ⟨_, ((pss_cons (ps_expr (pe_cal C_part_of hr_part_of (pa_cons (pv 0) (pa_cons (pv 1) pa_nil)))) (pss_cons (ps_expr (pe_cal C_part_of hr_part_of (pa_cons (pv 0) (pa_cons (pv 2) pa_nil)))) (pss_cons (ps_expr (pe_cal C_ask_open hr_ask_open (pa_cons (pv 0) (pa_cons (pv 1) pa_nil)))) (pss_cons (ps_expr (pe_cal C_ask_open hr_ask_open (pa_cons (pv 0) (pa_cons (pv 2) pa_nil)))) (pss_cons (ps_set (i := 3) sc.nd rfl (.inr rfl) (pe_cal C_rows_from hr_rows_from (pa_cons (pv 0) (pa_cons (pv 1) pa_nil)))) (pss_cons (ps_if (pt_cmp (pc_dnotin hu (pv 2) (pv 3)) rfl)
      (pss_one (ps_raise (W := fun cls d _ H => E cls d H) rfl (takes_of rfl rfl rfl rfl) (pmk_oex T.T iC tI (ok_ninit (k := 0) T FI) (hr.mono (by omega)) bI .nil pass0 rfl T.gC (pa_cons (pe_lc (own := [("name", 4)]) (g := (gName 4)) rfl sc.nd (piL K rfl (pe_cal C_open_parts hr_open_parts (pa_cons (pv 0) pa_nil))) (blkOk_by (N := n_row_to) (sc := defScope s_row_to) (by decide +kernel)) (fun _ _ _ _ _ => (pg_name (i := 4) sc.nd rfl (.inl rfl))) (fun _ _ _ _ _ => pts_one (pt_cmp (pc_din hu (pv 4) (pv 3)) rfl)) (fun _ _ _ _ _ => (pv 4))) pa_nil))))
      pss_nil) (pss_one (ps_ret (pe_dget hu (pv 3) (pv 2) (fun _ _ => rfl))))))))))), ?_⟩
  obtain ⟨B, ⟨sh, one, other⟩, hB, hds, ⟨ok, ho, ho2⟩, kR, kE⟩ := h
  dsimp only at ok ho ho2 kR kE
  have hsz := ok.sz
  have hol := opens_len (s := sh)
  refine run_rn hB hds (Po := { rt := fun d _ => ∃ b row, ROk sh one b ∧ (other, row) ∈ b ∧ d = strsD row }) ?_ (fun s σ B' H' a => ⟨fun z => z.elim, fun d v ⟨b, row, h1, h2, h3⟩ dv => ?_, fun z => z, fun z => z⟩)
  · obtain ⟨e1, he1, rfl⟩ := opens_entry ok ho
    obtain ⟨e2, he2, rfl⟩ := opens_entry ok ho2
    refine rn_seq (rn_drop (ev_call (sh, e1) (ea_cons (ev_var rfl) (ea_cons (ev_var rfl) ea_nil)) ⟨ok, (oents_mem he1).1⟩) ?_)
    refine rn_seq (rn_drop (ev_call (sh, e2) (ea_cons (ev_var rfl) (ea_cons (ev_var rfl) ea_nil)) ⟨ok, (oents_mem he2).1⟩) ?_)
    refine rn_seq (rn_drop (ev_call (f := fun _ => Dt.non) (sh, e1) (ea_cons (ev_var rfl) (ea_cons (ev_var rfl) ea_nil)) (openE_of ok he1)) ?_)
    refine rn_seq (rn_drop (ev_call (f := fun _ => Dt.non) (sh, e2) (ea_cons (ev_var rfl) (ea_cons (ev_var rfl) ea_nil)) (openE_of ok he2)) ?_)
    refine rn_seq (rn_asgP (ev_callP (sh, e1.p.name) (ea_cons (ev_var rfl) (ea_cons (ev_var rfl) ea_nil)) ⟨ok, ho⟩) ?_)
    rintro _ ⟨b, R, rfl⟩
    refine rn_seq (rn_if (et_B ((ev_dni (k := e2.p.name) (ev_var rfl) (rk_var rfl)).is (by rw [rows_none]))) (fun h => ?_) (fun h => rn_next ?_))
    · have ht : e2.p.name ∉ keys b := fun q => by rw [decide_eq_true q] at h; cases h
      refine rn_raise (d0 := strsD ((opens sh).filter fun n => decide (n ∈ keys b))) (el_lc (opens sh) .str (fun n => decide (n ∈ keys b)) .str _ (is_list (ev_call sh (ea_cons (ev_var rfl) ea_nil) ok)) (by omega) (un1 rfl) (fun _ h => h) (fun o _ => tg_name 4 _) (fun o _ => et_B ((ev_din (k := o) (ev_var rfl) (rk_var rfl)).is (by rw [rows_none]))) (fun o _ _ => ev_var rfl)).fz (fun B' H' dd y s1 s2 s3 s4 => kE b B' H' dd y R ht s1 s2 s3 s4)
    · have ht : e2.p.name ∈ keys b := by
        by_cases q : e2.p.name ∈ keys b
        · exact q
        · rw [decide_eq_false q] at h; cases h
      obtain ⟨p, hp, e⟩ := List.mem_map.mp ht
      have hp' : (e2.p.name, p.2) ∈ b := by rw [← e]; exact hp
      exact rn_ret (ev_dget (rk_var rfl) (ev_var rfl) (rows_look R.nd hp')) ⟨b, p.2, R, hp', rfl⟩
  · subst h3
    exact kR b row v B' H' h1 h2 (stp0 a) a.bh dv
end
end FW
set_option maxHeartbeats 4000000
/-! the law's draws -/
namespace FW
open PySem PySem.Spec PyProof.Rows L2 FZ
section
variable {K : PySem.W.Frag} {F : Fr} {sl : List FZ.Slot} {ta tb : TE}
theorem ev_mul {i j : Int} (ha : EvD K F sl ta (.int i)) (hb : EvD K F sl tb (.int j)) (hc : CMul i j) : EvD K F sl (tOp (rI CMul fun i j => .int (i * j)) ta tb) (.int (i * j)) := ev_I (C := CMul) (g := fun i j => i * j) ha hb hc
theorem ev_fdiv {i j : Int} (ha : EvD K F sl ta (.int i)) (hb : EvD K F sl tb (.int j)) (hc : CDivN i j) : EvD K F sl (tOp (rI CDivN fun i j => .int (i.fdiv j)) ta tb) (.int (i.fdiv j)) := ev_I (C := CDivN) (g := fun i j => i.fdiv j) ha hb hc
theorem ev_pow {i j : Int} (ha : EvD K F sl ta (.int i)) (hb : EvD K F sl tb (.int j)) (hc : CPow i j) : EvD K F sl (tOp (rI CPow fun i j => .int (i ^ j.toNat)) ta tb) (.int (i ^ j.toNat)) := ev_I (C := CPow) (g := fun i j => i ^ j.toNat) ha hb hc
end
def fkv (c : Dt) (a x : Int) : List (Str × Dt) := [("cells", c), ("at", .int a), ("left", .int x)]
theorem s_ac : (("at" : Str) == "cells") = false := by decide +kernel
theorem s_lc : (("left" : Str) == "cells") = false := by decide +kernel
theorem s_la : (("left" : Str) == "at") = false := by decide +kernel
theorem s_ca : ("cells" : Str) ≠ "at" := by decide +kernel
theorem s_cl : ("cells" : Str) ≠ "left" := by decide +kernel
theorem s_al : ("at" : Str) ≠ "left" := by decide +kernel
theorem s_la' : ("left" : Str) ≠ "at" := by decide +kernel
theorem look_cells {c : Dt} {a x : Int} : List.lookup ("cells" : Str) (fkv c a x) = some c := by simp [fkv, List.lookup]
theorem look_at {c : Dt} {a x : Int} : List.lookup ("at" : Str) (fkv c a x) = some (.int a) := by simp [fkv, List.lookup, s_ac]
theorem look_left {c : Dt} {a x : Int} : List.lookup ("left" : Str) (fkv c a x) = some (.int x) := by simp [fkv, List.lookup, s_lc, s_la]
theorem put_at {c : Dt} {a x b : Int} : dput (fkv c a x) ("at" : Str) (.int b) = fkv c b x := by
  unfold dput
  rw [look_at]
  rw [if_pos (show (Option.isSome (some _)) = true from rfl)]
  simp [fkv, s_ca, s_la']
theorem put_left {c : Dt} {a x b : Int} : dput (fkv c a x) ("left" : Str) (.int b) = fkv c a b := by
  unfold dput
  rw [look_left]
  rw [if_pos (show (Option.isSome (some _)) = true from rfl)]
  simp [fkv, s_cl, s_al]
section
variable {P : Program} {w : World} {K : PySem.W.Frag} {mg : Str → Option Value} {base : Heap}
/-! _law_draw: slots 0 _law_feed_here, 1 _law_many, 2 _law_found, 3 _law_at, 4 _law_cell, 5 _law_number -/
abbrev s__law_draw : Stmt := topS 58
abbrev n__law_draw : List Str := ["_law_feed_here", "_law_many", "_law_found", "_law_at", "_law_cell", "_law_number"]
theorem sc__law_draw : FnScope n__law_draw ["_law_feed_here", "_law_many"] (defScope s__law_draw) := ⟨rfl, rfl, rfl, by decide +kernel, rfl, by decide +kernel, by decide +kernel⟩
abbrev spDraw (K : PySem.W.Frag) : Sp := spF K 1 (fun m : Int => [.int m]) (fun m => 1 ≤ m ∧ m < 1073741824) (fun _ => 1) (fun m d => PI (fun r => 0 ≤ r ∧ r < m) d)
theorem fmod_in (i : Int) {m : Int} (h : 1 ≤ m) : 0 ≤ i.fmod m ∧ i.fmod m < m := ⟨Int.fmod_nonneg_of_pos _ (by omega), Int.fmod_lt_of_pos _ (by omega)⟩
theorem rn_via {F : Fr} {sl : List FZ.Slot} {ts tu : TS} {Po : FZ.Po} {X : Type} (S : X → List FZ.Slot) (h1 : Rn K F sl ts { Po with nx := fun s => ∃ c, Wk s (S c) }) (h2 : ∀ c, Rn K F (S c) tu Po) : Rn K F sl (tSeq ts tu) Po :=
  rn_seq (fun σ B H E a t => h1 σ B H E a ⟨fun s σ' B' H' ⟨c, wk⟩ a' e => t.nx s σ' B' H' (rn_weak wk (h2 c)) a' e, t.rt, t.bk, t.ct⟩)
theorem ok__law_draw (D : Df K mg "_law_draw" s__law_draw ["_law_feed_here", "_law_many"]) (T : Tx K w mg) {k : Nat} : Cal P w K mg base (k + 1) "_law_draw" (spDraw K) := by
  refine D.calF sc__law_draw rfl fun f cdv A outer s H E hr => ?_
  have sc := sc__law_draw
  have hu := hu_of hr
  refine ⟨_, ((pss_cons (ps_if (pt_cmpR op_gt (pe_dget hu (pv 0) pe_str (fun _ _ => rfl)) pe_int (nomark _))
      (pss_cons (ps_set (i := 2) sc.nd rfl (.inl rfl) (pe_op op_modN (pe_dget hu (pv 0) pe_str (fun _ _ => rfl)) (pv 1))) (pss_cons (ps_dput hu (pv 0) pe_str (pe_op op_fdivN (pe_dget hu (pv 0) pe_str (fun _ _ => rfl)) (pv 1)) rfl) (pss_one (ps_ret (pv 2)))))
      pss_nil) (pss_cons (ps_set (i := 3) sc.nd rfl (.inl rfl) (pe_dget hu (pv 0) pe_str (fun _ _ => rfl))) (pss_cons (ps_dput hu (pv 0) pe_str (pe_op op_add (pv 3) pe_int) rfl) (pss_cons (ps_set (i := 4) sc.nd rfl (.inl rfl) (pv 3)) (pss_cons (ps_if (pt_cmpR op_gt (pe_callB (lenK K rfl) (by rfl) T.len (by decide +kernel) (pa_cons (pe_dget hu (pv 0) pe_str (fun _ _ => rfl)) pa_nil)) pe_int (nomark _))
      (pss_one (ps_set (i := 4) sc.nd rfl (.inl rfl) (pe_ix (ixL K rfl) (pe_dget hu (pv 0) pe_str (fun _ _ => rfl)) (pe_op op_modN (pv 3) (pe_callB (lenK K rfl) (by rfl) T.len (by decide +kernel) (pa_cons (pe_dget hu (pv 0) pe_str (fun _ _ => rfl)) pa_nil))) (fun _ _ => rfl))))
      pss_nil) (pss_cons (ps_if (PW.pt (pw_and (pt_cmpR op_ge (pv 4) (pe_op op_pow pe_int pe_int) (nomark _)) (pw_and1 (pt_cmpR op_lt (pv 3) (pe_callB (lenK K rfl) (by rfl) T.len (by decide +kernel) (pa_cons (pe_dget hu (pv 0) pe_str (fun _ _ => rfl)) pa_nil)) (nomark _)))))
      (pss_cons (ps_dput hu (pv 0) pe_str (pe_op op_fdivN (pv 4) (pv 1)) rfl) (pss_one (ps_ret (pe_op op_modN (pv 4) (pv 1)))))
      pss_nil) (pss_cons (ps_set (i := 5) sc.nd rfl (.inl rfl) (pe_op op_modN (pe_op op_mul (pe_op op_add (pe_op op_add (pe_op op_add (pe_op op_modN (pv 4) pe_int) (pe_op op_mul (pe_op op_mul pe_int (pv 3)) (pv 3))) (pe_op op_mul pe_int (pv 3))) pe_int) pe_int) pe_int)) (pss_one (ps_ret (pe_op op_modN (pe_op op_fdivN (pe_op op_modN (pe_op op_mul (pe_op op_modN (pe_op op_add (pe_op op_mul (pv 5) pe_int) (pe_op op_mul pe_int (pv 3))) pe_int) pe_int) pe_int) pe_int) (pv 1)))))))))))), ?_⟩
  rintro B H' l n m ⟨hm1, hm2⟩ hn
  refine rn_open (i := 0) rfl ?_
  rintro _ ⟨cells, a, x, rfl, ha0, ha1, hx, hcl⟩
  show Rn K _ [.oda l (fkv (.lst (cells.map .int)) a x), .fz (.int m), .un, .un, .un, .un] _ _
  have hn : n + 1 ≤ 100000 := hn
  have cm : CDivN x m := ⟨by omega, by omega⟩
  have hz : ∀ {c : Dt} {a x : Int}, (fkv c a x).length < 100000 := fun {c a x} => by show 3 < 100000; omega
  have okf : ∀ (a x : Int), 0 ≤ a → a ≤ n + 1 → 0 ≤ x → FeedOk (n + 1) (fkv (.lst (cells.map .int)) a x) := fun a x h1 h2 h3 => ⟨cells, a, x, rfl, h1, by omega, h3, hcl⟩
  refine rn_seq (rn_if (et_test (ev_gt (ev_dget (rk_oda rfl) ev_str look_left) ev_int)) (fun h => ?_) (fun h => rn_next ?_))
  · refine rn_seq (rn_asg (ev_fmod (ev_dget (rk_oda rfl) ev_str look_left) (ev_var rfl) (by omega)) ?_)
    refine rn_seq (rn_dputA rfl (ev_fdiv (ev_dget (rk_oda rfl) ev_str look_left) (ev_var rfl) cm) ev_str hz ?_)
    rw [put_left]
    refine rn_ret (ev_var rfl) ⟨.inr ⟨_, rfl, okf _ _ ha0 (by omega) ?_⟩, _, rfl, fmod_in x hm1⟩
    exact Int.fdiv_nonneg hx (by omega)
  refine rn_seq (rn_asg (ev_dget (rk_oda rfl) ev_str look_at) ?_)
  refine rn_seq (rn_dputA rfl (ev_add (ev_var rfl) ev_int) ev_str hz ?_)
  rw [put_at]
  refine rn_seq (rn_asg (ev_var rfl) ?_)
  -- the cell
  refine rn_via (fun cell : Int => [.oda l (fkv (.lst (cells.map .int)) (a + 1) x), .fz (.int m), .un, .fz (.int a), .fz (.int cell), .un]) (rn_if (et_test (ev_gt (ev_lenL (rd_d (ev_dget (rk_oda rfl) ev_str look_cells))) ev_int)) (fun h => ?_) (fun h => rn_next ⟨a, Wk.refl _⟩)) (fun cell => ?_)
  · have hl : (0 : Int) < ((cells.map Dt.int).length : Int) := of_decide_eq_true h
    have b1 := fmod_in a (m := ((cells.map Dt.int).length : Int)) (by omega)
    have hi : ∃ cell, L2.atI (cells.map Dt.int) (a.fmod ((cells.map Dt.int).length : Int)) = some (.int cell) := by
      obtain ⟨j, hj⟩ : ∃ j : Nat, a.fmod ((cells.map Dt.int).length : Int) = (j : Int) := ⟨(a.fmod ((cells.map Dt.int).length : Int)).toNat, by omega⟩
      rw [hj] at b1 ⊢
      have hj2 : j < cells.length := by
        have := b1.2
        rw [List.length_map] at this
        omega
      exact ⟨cells[j], FZ.atI_nat (by rw [List.getElem?_map, List.getElem?_eq_getElem hj2]; rfl)⟩
    obtain ⟨cell, hcell⟩ := hi
    exact rn_asg (ev_ixL (rd_d (ev_dget (rk_oda rfl) ev_str look_cells)) (ev_fmod (ev_var rfl) (ev_lenL (rd_d (ev_dget (rk_oda rfl) ev_str look_cells))) (by omega)) hcell) ⟨cell, Wk.refl _⟩
  refine rn_seq (rn_if (et_and (et_test (ev_ge (ev_var rfl) (ev_pow ev_int ev_int ⟨by decide, by decide, by decide⟩))) (fun _ => et_test (ev_lt (ev_var rfl) (ev_lenL (rd_d (ev_dget (rk_oda rfl) ev_str look_cells)))))) (fun h => ?_) (fun h => rn_next ?_))
  · have hce : 0 ≤ cell := by
      have h1 := (Bool.and_eq_true_iff.mp h).1
      have h2 := of_decide_eq_true h1
      have : (0 : Int) ≤ 10 ^ (18 : Int).toNat := by decide
      omega
    refine rn_seq (rn_dputA rfl (ev_fdiv (ev_var rfl) (ev_var rfl) ⟨by omega, by omega⟩) ev_str hz ?_)
    rw [put_left]
    refine rn_ret (ev_fmod (ev_var rfl) (ev_var rfl) (by omega)) ⟨.inr ⟨_, rfl, okf _ _ (by omega) (by omega) (Int.fdiv_nonneg hce (by omega))⟩, _, rfl, fmod_in cell hm1⟩
  have c1 : ∀ {i j : Int}, (-(2 ^ 64) < j ∧ j < 2 ^ 64) → CMul i j := fun h => .inr h
  have c0 : ∀ {i j : Int}, (-(2 ^ 64) < i ∧ i < 2 ^ 64) → CMul i j := fun h => .inl h
  refine rn_seq (rn_asg (ev_fmod (ev_mul (ev_add (ev_add (ev_add (ev_fmod (ev_var rfl) ev_int (by decide)) (ev_mul (ev_mul ev_int (ev_var rfl) (c0 (by decide))) (ev_var rfl) (c1 (by omega)))) (ev_mul ev_int (ev_var rfl) (c0 (by decide)))) ev_int) ev_int (c1 (by decide))) ev_int (by decide)) ?_)
  refine rn_ret (ev_fmod (ev_fdiv (ev_fmod (ev_mul (ev_fmod (ev_add (ev_mul (ev_var rfl) ev_int (c1 (by decide))) (ev_mul ev_int (ev_var rfl) (c0 (by decide)))) ev_int (by decide)) ev_int (c1 (by decide))) ev_int (by decide)) ev_int ⟨by decide, by decide⟩) (ev_var rfl) (by omega)) ⟨.inr ⟨_, rfl, okf _ _ (by omega) (by omega) hx⟩, _, rfl, fmod_in _ hm1⟩
end
end FW
set_option maxHeartbeats 4000000
/-! the law's scales and boxes -/
namespace FW
open PySem PySem.Spec PyProof.Rows L2 FZ
section
variable {P : Program} {w : World} {K : PySem.W.Frag} {mg : Str → Option Value} {base : Heap}
theorem mul_l {i j : Int} (h : -(2 ^ 64) < i ∧ i < 2 ^ 64) : CMul i j := .inl h
theorem mul_r {i j : Int} (h : -(2 ^ 64) < j ∧ j < 2 ^ 64) : CMul i j := .inr h
/-- a draw of the feed in slot 0 -/
theorem ef_draw {F : Fr} {sl : List FZ.Slot} {tb : TE} {l : Addr} {m : Nat} {i : Int} {E : XK} {j : Nat} (hj : sl[j]? = some (.fd l m)) (hb : EvD K F sl tb (.int i)) (h1 : 1 ≤ i) (h2 : i < 1073741824) (hm : m + 1 ≤ 100000) : EvFP K F sl (tCall (spDraw K) [] E (tCons (tVar j) (tCons tb tNil))) (sl.set j (.fd l (m + 1))) l (FZ.PI fun r => 0 ≤ r ∧ r < i) :=
  ef_callF (args := fun m : Int => [.int m]) (pre := fun m => 1 ≤ m ∧ m < 1073741824) (c := fun _ => 1) (post := fun m d => FZ.PI (fun r => 0 ≤ r ∧ r < m) d) i hj (ea_cons hb ea_nil) ⟨h1, h2⟩ hm
/-! _law_great: slots 0 _law_feed_here, 1 _law_pieces, 2 _law_number, 3 _law_k -/
abbrev s__law_great : Stmt := topS 59
abbrev n__law_great : List Str := ["_law_feed_here", "_law_pieces", "_law_number", "_law_k"]
theorem sc__law_great : FnScope n__law_great ["_law_feed_here", "_law_pieces"] (defScope s__law_great) := ⟨rfl, rfl, rfl, by decide +kernel, rfl, by decide +kernel, by decide +kernel⟩
abbrev spGreat (K : PySem.W.Frag) : Sp := spF K 1 (fun n : Nat => [.int (n : Int)]) (fun n => n ≤ 100) (fun n => n) (fun _ d => FZ.PI (fun _ => True) d)
theorem ok__law_great (D : Df K mg "_law_great" s__law_great ["_law_feed_here", "_law_pieces"]) (T : Tx K w mg) {k : Nat} (C__law_draw : Cal P w K mg base k "_law_draw" (spDraw K)) : Cal P w K mg base (k + 1) "_law_great" (spGreat K) := by
  refine D.calF sc__law_great rfl fun f cdv A outer s H E hr => ?_
  have sc := sc__law_great
  have hr__law_draw := hr
  refine ⟨_, ((pss_cons (ps_set (i := 2) sc.nd rfl (.inl rfl) pe_int) (pss_cons (ps_for PassesOwn.never rfl (pi_range1 rfl T.range (pa_cons (pv 1) pa_nil)) (pg_name (i := 3) sc.nd rfl (.inl rfl))
      (pss_one (ps_set (i := 2) sc.nd rfl (.inl rfl) (pe_op op_add (pe_op op_mul (pv 2) pe_int) (pe_cal C__law_draw hr__law_draw (pa_cons (pv 0) (pa_cons pe_int pa_nil))))))) (pss_one (ps_ret (pv 2)))))), ?_⟩
  rintro B H' l m n hn hm
  have hm : m + n ≤ 100000 := hm
  have hn : n ≤ 100 := hn
  refine rn_seq (rn_asg ev_int ?_)
  refine rn_seq (rn_for (is_range1 (n := n) (ev_var rfl) (by omega)) (fun i s => ∃ z : Int, Wk s [.fd l (m + i), .fz (.int (n : Int)), .fz (.int z), .un]) ⟨0, Wk.refl _⟩ (fun i d s hd hv => ?_) (fun s hv => ?_))
  · obtain ⟨z, wk⟩ := hv
    obtain ⟨hi, rfl⟩ := rangeD_get hd
    refine ⟨_, _, _, wk, tg_name 3 _, by simp, ?_⟩
    refine rn_asgF (ef_op0 (S := fun _ => True) (ef_op (S := fun _ => True) (ef_i (ev_var rfl)) (ef_i ev_int) (fun i j _ hj => ⟨mul_r (by omega), trivial⟩)) (ef_draw rfl ev_int (by decide) (by decide) (by omega)) (fun _ _ _ _ => trivial)) ?_
    rintro _ ⟨z', rfl, _⟩
    exact ⟨z', wk_eq (wk_eq (wk_eq (wk_un wk_nil)))⟩
  · obtain ⟨z, wk⟩ := hv
    rw [rangeD_len] at wk
    exact ⟨_, wk, rn_ret (ev_var rfl) ⟨fd_at rfl (Nat.le_refl _), z, rfl, trivial⟩⟩
def isT3 (d : Dt) : Prop := ∃ a b c : Int, d = .tup [.int a, .int b, .int c]
/-! _law_scale: slots 0 _law_feed_here, 1 _law_way -/
abbrev s__law_scale : Stmt := topS 60
abbrev n__law_scale : List Str := ["_law_feed_here", "_law_way"]
theorem sc__law_scale : FnScope n__law_scale ["_law_feed_here"] (defScope s__law_scale) := ⟨rfl, rfl, rfl, by decide +kernel, rfl, by decide +kernel, by decide +kernel⟩
abbrev spScale (K : PySem.W.Frag) : Sp := spF K 0 (fun _ : Unit => []) (fun _ => True) (fun _ => 60) (fun _ d => isT3 d)
theorem ok__law_scale (D : Df K mg "_law_scale" s__law_scale ["_law_feed_here"]) (T : Tx K w mg) {k : Nat} (C__law_draw : Cal P w K mg base k "_law_draw" (spDraw K)) (C__law_great : Cal P w K mg base k "_law_great" (spGreat K)) : Cal P w K mg base (k + 1) "_law_scale" (spScale K) := by
  refine D.calF sc__law_scale rfl fun f cdv A outer s H E hr => ?_
  have sc := sc__law_scale
  have hr__law_draw := hr
  have hr__law_great := hr
  refine ⟨_, ((pss_cons (ps_set (i := 1) sc.nd rfl (.inl rfl) (pe_cal C__law_draw hr__law_draw (pa_cons (pv 0) (pa_cons pe_int pa_nil)))) (pss_cons (ps_if (pt_cmpR op_lt (pv 1) pe_int (nomark _))
      (pss_one (ps_ret (pe_tup (pa_cons pe_int (pa_cons pe_int (pa_cons pe_int pa_nil))))))
      pss_nil) (pss_cons (ps_if (pt_cmpR op_eq (pv 1) pe_int (nomark _))
      (pss_one (ps_ret (pe_tup (pa_cons (pe_op op_add pe_int (pe_cal C__law_draw hr__law_draw (pa_cons (pv 0) (pa_cons pe_int pa_nil)))) (pa_cons (pe_op op_sub (pe_cal C__law_draw hr__law_draw (pa_cons (pv 0) (pa_cons pe_int pa_nil))) pe_int) (pa_cons (pe_op op_sub (pe_cal C__law_draw hr__law_draw (pa_cons (pv 0) (pa_cons pe_int pa_nil))) pe_int) pa_nil))))))
      pss_nil) (pss_one (ps_ret (pe_tup (pa_cons (pe_op op_add pe_int (pe_cal C__law_great hr__law_great (pa_cons (pv 0) (pa_cons pe_int pa_nil)))) (pa_cons (pe_op op_sub (pe_cal C__law_great hr__law_great (pa_cons (pv 0) (pa_cons pe_int pa_nil))) (pe_cal C__law_great hr__law_great (pa_cons (pv 0) (pa_cons pe_int pa_nil)))) (pa_cons (pe_op op_sub (pe_cal C__law_great hr__law_great (pa_cons (pv 0) (pa_cons pe_int pa_nil))) (pe_cal C__law_great hr__law_great (pa_cons (pv 0) (pa_cons pe_int pa_nil)))) pa_nil)))))))))), ?_⟩
  rintro B H' l m i hn hm
  have hm : m + 60 ≤ 100000 := hm
  refine rn_seq (rn_asgF (ef_draw (j := 0) rfl ev_int (by decide) (by decide) (by omega)) ?_)
  rintro _ ⟨z, rfl, _, _⟩
  have three : ∀ {sl sl' : List FZ.Slot} {tas : TA}, EvFA K ⟨B, H', fun a => a = l⟩ sl tas sl' l (fun ds => ∃ a b c : Int, ds = [.int a, .int b, .int c]) → EvFP K ⟨B, H', fun a => a = l⟩ sl (tTup tas) sl' l isT3 := fun {sl sl' tas} h => ef_imp (ef_tup h (fun ds ⟨a, b, c, e⟩ => by rw [e]; simp)) fun d ⟨ds, e, a, b, c, e2⟩ => ⟨a, b, c, by rw [e, e2]⟩
  refine rn_seq (rn_if (et_test (ev_lt (ev_var rfl) ev_int)) (fun _ => rn_ret (ev_tup (ea_cons ev_int (ea_cons ev_int (ea_cons ev_int ea_nil)))) ⟨fd_at rfl (by omega), 1, 0, 0, rfl⟩) (fun _ => rn_next ?_))
  refine rn_seq (rn_if (et_test (ev_eqI (ev_var rfl) ev_int)) (fun _ => ?_) (fun _ => rn_next ?_))
  · refine rn_retF (three (efa_cons (ef_op0 (S := fun _ => True) (ef_i ev_int) (ef_draw (j := 0) rfl ev_int (by decide) (by decide) (by omega)) (fun _ _ _ _ => trivial)) fun _ ⟨a, ea, _⟩ => efa_cons (ef_op0 (S := fun _ => True) (ef_draw (j := 0) rfl ev_int (by decide) (by decide) (by omega)) (ef_i ev_int) (fun _ _ _ _ => trivial)) fun _ ⟨b, eb, _⟩ => efa_cons (ef_op0 (S := fun _ => True) (ef_draw (j := 0) rfl ev_int (by decide) (by decide) (by omega)) (ef_i ev_int) (fun _ _ _ _ => trivial)) fun _ ⟨c, ec, _⟩ => efa_nil ⟨a, b, c, by rw [ea, eb, ec]⟩)) fun d hd => ⟨fd_at rfl (by omega), hd⟩
  · have gr : ∀ {sl : List FZ.Slot} {tb : TE} {m : Nat} {n : Nat} {E : XK}, sl[0]? = some (.fd l m) → EvD K ⟨B, H', fun a => a = l⟩ sl tb (.int (n : Int)) → n ≤ 100 → m + n ≤ 100000 → EvFP K ⟨B, H', fun a => a = l⟩ sl (tCall (spGreat K) [] E (tCons (tVar 0) (tCons tb tNil))) (sl.set 0 (.fd l (m + n))) l (FZ.PI fun _ => True) := fun {sl tb m n E} h1 h2 h3 h4 =>
      ef_callF (args := fun n : Nat => [.int (n : Int)]) (pre := fun n => n ≤ 100) (c := fun n => n) (post := fun _ d => FZ.PI (fun _ => True) d) n h1 (ea_cons h2 ea_nil) h3 h4
    refine rn_retF (three (efa_cons (ef_op0 (S := fun _ => True) (ef_i ev_int) (gr (n := 8) rfl ev_int (by decide) (by omega)) (fun _ _ _ _ => trivial)) fun _ ⟨a, ea, _⟩ => efa_cons (ef_op0 (S := fun _ => True) (gr (n := 11) rfl ev_int (by decide) (by omega)) (gr (n := 11) rfl ev_int (by decide) (by omega)) (fun _ _ _ _ => trivial)) fun _ ⟨b, eb, _⟩ => efa_cons (ef_op0 (S := fun _ => True) (gr (n := 11) rfl ev_int (by decide) (by omega)) (gr (n := 11) rfl ev_int (by decide) (by omega)) (fun _ _ _ _ => trivial)) fun _ ⟨c, ec, _⟩ => efa_nil ⟨a, b, c, by rw [ea, eb, ec]⟩)) fun d hd => ⟨fd_at rfl (by omega), hd⟩
def sm (i : Int) : Prop := -1000 < i ∧ i < 1000
def isB4 (d : Dt) : Prop := ∃ a b c e : Int, d = .tup [.int a, .int b, .int c, .int e] ∧ sm a ∧ sm b ∧ sm c ∧ sm e
/-! _law_box: slots 0 _law_feed_here, 1 _law_style, 2 _law_column, 3 _law_line -/
abbrev s__law_box : Stmt := topS 61
abbrev n__law_box : List Str := ["_law_feed_here", "_law_style", "_law_column", "_law_line"]
theorem sc__law_box : FnScope n__law_box ["_law_feed_here", "_law_style"] (defScope s__law_box) := ⟨rfl, rfl, rfl, by decide +kernel, rfl, by decide +kernel, by decide +kernel⟩
abbrev spBox (K : PySem.W.Frag) : Sp := spF K 1 (fun i : Int => [.int i]) (fun _ => True) (fun _ => 4) (fun _ d => isB4 d)
theorem ok__law_box (D : Df K mg "_law_box" s__law_box ["_law_feed_here", "_law_style"]) (T : Tx K w mg) {k : Nat} (C__law_draw : Cal P w K mg base k "_law_draw" (spDraw K)) : Cal P w K mg base (k + 1) "_law_box" (spBox K) := by
  refine D.calF sc__law_box rfl fun f cdv A outer s H E hr => ?_
  have sc := sc__law_box
  have hr__law_draw := hr
  refine ⟨_, ((pss_cons (ps_if (pt_cmpR op_eq (pv 1) pe_int (nomark _))
      (pss_cons (ps_set (i := 2) sc.nd rfl (.inl rfl) (pe_cal C__law_draw hr__law_draw (pa_cons (pv 0) (pa_cons pe_int pa_nil)))) (pss_cons (ps_set (i := 3) sc.nd rfl (.inl rfl) (pe_cal C__law_draw hr__law_draw (pa_cons (pv 0) (pa_cons pe_int pa_nil)))) (pss_one (ps_ret (pe_tup (pa_cons (pe_ix (ixL K rfl) (pe_lst (pa_cons pe_int (pa_cons pe_int (pa_cons pe_int pa_nil)))) (pv 2) (fun _ _ => rfl)) (pa_cons (pe_ix (ixL K rfl) (pe_lst (pa_cons pe_int (pa_cons pe_int (pa_cons pe_int pa_nil)))) (pv 3) (fun _ _ => rfl)) (pa_cons (pe_ix (ixL K rfl) (pe_lst (pa_cons pe_int (pa_cons pe_int (pa_cons pe_int pa_nil)))) (pv 2) (fun _ _ => rfl)) (pa_cons (pe_ix (ixL K rfl) (pe_lst (pa_cons pe_int (pa_cons pe_int (pa_cons pe_int pa_nil)))) (pv 3) (fun _ _ => rfl)) pa_nil)))))))))
      pss_nil) (pss_cons (ps_if (pt_cmpR op_eq (pv 1) pe_int (nomark _))
      (pss_one (ps_ret (pe_tup (pa_cons (pe_cal C__law_draw hr__law_draw (pa_cons (pv 0) (pa_cons pe_int pa_nil))) (pa_cons (pe_cal C__law_draw hr__law_draw (pa_cons (pv 0) (pa_cons pe_int pa_nil))) (pa_cons (pe_op op_add pe_int (pe_cal C__law_draw hr__law_draw (pa_cons (pv 0) (pa_cons pe_int pa_nil)))) (pa_cons (pe_op op_add pe_int (pe_cal C__law_draw hr__law_draw (pa_cons (pv 0) (pa_cons pe_int pa_nil)))) pa_nil)))))))
      pss_nil) (pss_cons (ps_if (pt_cmpR op_eq (pv 1) pe_int (nomark _))
      (pss_one (ps_ret (pe_tup (pa_cons (pe_op op_mul pe_int (pe_cal C__law_draw hr__law_draw (pa_cons (pv 0) (pa_cons pe_int pa_nil)))) (pa_cons (pe_cal C__law_draw hr__law_draw (pa_cons (pv 0) (pa_cons pe_int pa_nil))) (pa_cons (pe_op op_add pe_int (pe_cal C__law_draw hr__law_draw (pa_cons (pv 0) (pa_cons pe_int pa_nil)))) (pa_cons (pe_op op_add pe_int (pe_cal C__law_draw hr__law_draw (pa_cons (pv 0) (pa_cons pe_int pa_nil)))) pa_nil)))))))
      pss_nil) (pss_one (ps_ret (pe_tup (pa_cons (pe_op op_mul pe_int (pe_cal C__law_draw hr__law_draw (pa_cons (pv 0) (pa_cons pe_int pa_nil)))) (pa_cons (pe_op op_mul pe_int (pe_cal C__law_draw hr__law_draw (pa_cons (pv 0) (pa_cons pe_int pa_nil)))) (pa_cons pe_int (pa_cons pe_int pa_nil))))))))))), ?_⟩
  rintro B H' l m st hn hm
  have hm : m + 4 ≤ 100000 := hm
  have four : ∀ {sl sl' : List FZ.Slot} {tas : TA}, EvFA K ⟨B, H', fun a => a = l⟩ sl tas sl' l (fun ds => ∃ a b c e : Int, ds = [.int a, .int b, .int c, .int e] ∧ sm a ∧ sm b ∧ sm c ∧ sm e) → EvFP K ⟨B, H', fun a => a = l⟩ sl (tTup tas) sl' l isB4 := fun {sl sl' tas} h => ef_imp (ef_tup h (fun ds ⟨a, b, c, e, q, _⟩ => by rw [q]; simp)) fun d ⟨ds, q, a, b, c, e, q2, r⟩ => ⟨a, b, c, e, by rw [q, q2], r⟩
  have idx : ∀ {x y z : Int} {c : Int}, 0 ≤ c → c < 3 → sm x → sm y → sm z → ∃ r : Int, L2.atI [Dt.int x, .int y, .int z] c = some (.int r) ∧ sm r := fun {x y z c} h0 h3 hx hy hz => by
    have : c = 0 ∨ c = 1 ∨ c = 2 := by omega
    rcases this with rfl | rfl | rfl
    · exact ⟨x, rfl, hx⟩
    · exact ⟨y, rfl, hy⟩
    · exact ⟨z, rfl, hz⟩
  have dr : ∀ {sl : List FZ.Slot} {i : Int} {m : Nat} {E : XK}, sl[0]? = some (.fd l m) → 1 ≤ i → i < 100 → m + 1 ≤ 100000 → EvFP K ⟨B, H', fun a => a = l⟩ sl (tCall (spDraw K) [] E (tCons (tVar 0) (tCons (tC (.int i)) tNil))) (sl.set 0 (.fd l (m + 1))) l (FZ.PI fun r => 0 ≤ r ∧ r < 100) := fun {sl i m E} h1 h2 h3 h4 => ef_imp (ef_draw (j := 0) h1 ev_int h2 (by omega) h4) fun d ⟨r, e, a, b⟩ => ⟨r, e, a, by omega⟩
  refine rn_seq (rn_if (et_test (ev_eqI (ev_var rfl) ev_int)) (fun _ => ?_) (fun _ => rn_next ?_))
  · refine rn_seq (rn_asgF (ef_draw (j := 0) rfl ev_int (by decide) (by decide) (by omega)) ?_)
    rintro _ ⟨c1, rfl, c2, c3⟩
    refine rn_seq (rn_asgF (ef_draw (j := 0) rfl ev_int (by decide) (by decide) (by omega)) ?_)
    rintro _ ⟨e1, rfl, e2, e3⟩
    obtain ⟨r1, q1, s1⟩ := idx (x := 0) (y := 2) (z := 5) c2 c3 (by unfold sm; omega) (by unfold sm; omega) (by unfold sm; omega)
    obtain ⟨r2, q2, s2⟩ := idx (x := 0) (y := 3) (z := 4) e2 e3 (by unfold sm; omega) (by unfold sm; omega) (by unfold sm; omega)
    obtain ⟨r3, q3, s3⟩ := idx (x := 2) (y := 3) (z := 1) c2 c3 (by unfold sm; omega) (by unfold sm; omega) (by unfold sm; omega)
    obtain ⟨r4, q4, s4⟩ := idx (x := 2) (y := 1) (z := 2) e2 e3 (by unfold sm; omega) (by unfold sm; omega) (by unfold sm; omega)
    have l3 : ∀ {F : Fr} {sl : List FZ.Slot} {x y z : Int}, EvRd K F sl (tLst (tCons (tC (.int x)) (tCons (tC (.int y)) (tCons (tC (.int z)) tNil)))) [.int x, .int y, .int z] := fun {F sl x y z} => rd_l (el_lst (ea_cons ev_int (ea_cons ev_int (ea_cons ev_int ea_nil))))
    exact rn_ret (ev_tup (ea_cons (ev_ixL l3 (ev_var rfl) q1) (ea_cons (ev_ixL l3 (ev_var rfl) q2) (ea_cons (ev_ixL l3 (ev_var rfl) q3) (ea_cons (ev_ixL l3 (ev_var rfl) q4) ea_nil))))) ⟨fd_at rfl (by omega), _, _, _, _, rfl, s1, s2, s3, s4⟩
  have smd : ∀ r : Int, 0 ≤ r → r < 100 → sm r := fun r h1 h2 => by unfold sm; omega
  have pl : ∀ i j : Int, i = 1 → (0 ≤ j ∧ j < 100) → sm (i + j) := fun i j h1 h2 => by unfold sm; omega
  refine rn_seq (rn_if (et_test (ev_eqI (ev_var rfl) ev_int)) (fun _ => ?_) (fun _ => rn_next ?_))
  · exact rn_retF (four (efa_cons (dr rfl (by decide) (by decide) (by omega)) fun _ ⟨a, ea, a1, a2⟩ => efa_cons (dr rfl (by decide) (by decide) (by omega)) fun _ ⟨b, eb, b1, b2⟩ => efa_cons (ef_op0 (S := sm) (ef_i ev_int) (dr rfl (by decide) (by decide) (by omega)) pl) fun _ ⟨c, ec, c1⟩ => efa_cons (ef_op0 (S := sm) (ef_i ev_int) (dr rfl (by decide) (by decide) (by omega)) pl) fun _ ⟨e, ee, e1⟩ => efa_nil ⟨a, b, c, e, by rw [ea, eb, ec, ee], smd a a1 a2, smd b b1 b2, c1, e1⟩)) fun d hd => ⟨fd_at rfl (by omega), hd⟩
  have ml : ∀ i j : Int, i = 2 → (0 ≤ j ∧ j < 100) → CMul i j ∧ sm (i * j) := fun i j h1 h2 => ⟨mul_l (by omega), by subst h1; unfold sm; omega⟩
  have ml3 : ∀ i j : Int, i = 3 → (0 ≤ j ∧ j < 100) → CMul i j ∧ sm (i * j) := fun i j h1 h2 => ⟨mul_l (by omega), by subst h1; unfold sm; omega⟩
  refine rn_seq (rn_if (et_test (ev_eqI (ev_var rfl) ev_int)) (fun _ => ?_) (fun _ => rn_next ?_))
  · exact rn_retF (four (efa_cons (ef_op (S := sm) (ef_i ev_int) (dr rfl (by decide) (by decide) (by omega)) ml) fun _ ⟨a, ea, a1⟩ => efa_cons (dr rfl (by decide) (by decide) (by omega)) fun _ ⟨b, eb, b1, b2⟩ => efa_cons (ef_op0 (S := sm) (ef_i ev_int) (dr rfl (by decide) (by decide) (by omega)) pl) fun _ ⟨c, ec, c1⟩ => efa_cons (ef_op0 (S := sm) (ef_i ev_int) (dr rfl (by decide) (by decide) (by omega)) pl) fun _ ⟨e, ee, e1⟩ => efa_nil ⟨a, b, c, e, by rw [ea, eb, ec, ee], a1, smd b b1 b2, c1, e1⟩)) fun d hd => ⟨fd_at rfl (by omega), hd⟩
  · exact rn_retF (four (efa_cons (ef_op (S := sm) (ef_i ev_int) (dr rfl (by decide) (by decide) (by omega)) ml3) fun _ ⟨a, ea, a1⟩ => efa_cons (ef_op (S := sm) (ef_i ev_int) (dr rfl (by decide) (by decide) (by omega)) ml3) fun _ ⟨b, eb, b1⟩ => efa_d ev_int (efa_d ev_int (efa_nil ⟨a, b, 2, 2, by rw [ea, eb], a1, b1, by unfold sm; omega, by unfold sm; omega⟩)))) fun d hd => ⟨fd_at rfl (by omega), hd⟩
/-! _law_scaled: slots 0 _law_box_here, 1 _law_scale_here, 2 _law_times, 3 _law_right_here, 4 _law_down -/
abbrev s__law_scaled : Stmt := topS 62
abbrev n__law_scaled : List Str := ["_law_box_here", "_law_scale_here", "_law_times", "_law_right_here", "_law_down"]
theorem sc__law_scaled : FnScope n__law_scaled ["_law_box_here", "_law_scale_here"] (defScope s__law_scaled) := ⟨rfl, rfl, rfl, by decide +kernel, rfl, by decide +kernel, by decide +kernel⟩
abbrev spScaled (K : PySem.W.Frag) : Sp := spI K 2 (fun i : B4 × Int × Int × Int => [boxD i.1, .tup [.int i.2.1, .int i.2.2.1, .int i.2.2.2]]) (fun i => sm i.1.l ∧ sm i.1.t ∧ sm i.1.w ∧ sm i.1.h) (fun _ d => ∃ b, d = boxD b)
theorem ok__law_scaled (D : Df K mg "_law_scaled" s__law_scaled ["_law_box_here", "_law_scale_here"]) {k : Nat} : Cal P w K mg base (k + 1) "_law_scaled" (spScaled K) := by
  refine D.cal sc__law_scaled rfl fun f cdv A outer s H E hr => ?_
  have sc := sc__law_scaled
  refine ⟨_, ((pss_cons (ps_asg (pv 1) (pgT K (n := 3) rfl rfl (pgs_cons (pg_name (i := 2) sc.nd rfl (.inl rfl)) (pgs_cons (pg_name (i := 3) sc.nd rfl (.inl rfl)) (pgs_cons (pg_name (i := 4) sc.nd rfl (.inl rfl)) pgs_nil))))) (pss_one (ps_ret (pe_tup (pa_cons (pe_op op_add (pe_op op_mul (pe_ix (ixT K rfl) (pv 0) pe_int (fun _ _ => rfl)) (pv 2)) (pv 3)) (pa_cons (pe_op op_add (pe_op op_mul (pe_ix (ixT K rfl) (pv 0) pe_int (fun _ _ => rfl)) (pv 2)) (pv 4)) (pa_cons (pe_op op_mul (pe_ix (ixT K rfl) (pv 0) pe_int (fun _ _ => rfl)) (pv 2)) (pa_cons (pe_op op_mul (pe_ix (ixT K rfl) (pv 0) pe_int (fun _ _ => rfl)) (pv 2)) pa_nil))))))))), ?_⟩
  rintro B H' ⟨b, t, r, u⟩ ⟨h1, h2, h3, h4⟩
  have mk : ∀ {i j : Int}, sm i → CMul i j := fun {i j} h => mul_l (by unfold sm at h; omega)
  refine rn_seq (rn_asgT (ev_var rfl) (tg_tup3 2 3 4 _ _ _) (fun j h => ?_) ?_)
  · have : j = 2 ∨ j = 3 ∨ j = 4 := by simpa using h
    show j < 5
    omega
  · exact rn_ret (ev_tup (ea_cons (ev_add (ev_mul (ev_ixT (ev_var rfl) ev_int rfl) (ev_var rfl) (mk h1)) (ev_var rfl)) (ea_cons (ev_add (ev_mul (ev_ixT (ev_var rfl) ev_int rfl) (ev_var rfl) (mk h2)) (ev_var rfl)) (ea_cons (ev_mul (ev_ixT (ev_var rfl) ev_int rfl) (ev_var rfl) (mk h3)) (ea_cons (ev_mul (ev_ixT (ev_var rfl) ev_int rfl) (ev_var rfl) (mk h4)) ea_nil))))) ⟨⟨_, _, _, _⟩, rfl⟩
end
end FW
set_option maxHeartbeats 4000000
/-! the law's names -/
namespace FW
open PySem PySem.Spec PyProof.Rows L2 FZ
def abc : Str := "abcdefghijklmnopqrstuvwxyz"
def ltr (i : Int) : Str := ⟨#[97 + i.toNat]⟩
theorem ltr_len (i : Int) : (ltr i).length = 1 := rfl
theorem ltr_at0 : ∀ i : Nat, i < 26 → L2.atI abc.cps.toList ((i : Nat) : Int) = some (97 + i) := by decide +kernel
theorem ltr_at {i : Int} (h0 : 0 ≤ i) (h1 : i < 26) : L2.atI abc.cps.toList i = some (97 + i.toNat) := by
  have := ltr_at0 i.toNat (by omega)
  rw [show ((i.toNat : Nat) : Int) = i by omega] at this
  exact this
theorem abc_len : abc.length ≤ 100000 := by decide +kernel
theorem nodup_range {n : Nat} {f : Nat → Str} (h : ∀ i j, i < n → j < n → f i = f j → i = j) : ((List.range n).map f).Nodup := by
  rw [List.Nodup, List.pairwise_map]
  have : (List.range n).Pairwise fun a b => a < b := List.pairwise_lt_range
  refine List.Pairwise.imp_of_mem ?_ this
  intro a b ha hb hab e
  have := h a b (List.mem_range.mp ha) (List.mem_range.mp hb) e
  omega
def nm1 (f : Int) (k : Nat) : Str := repS (ltr ((f + ((k : Nat) : Int).fdiv 8).fmod 26)) (1 + ((k : Nat) : Int).fmod 8).toNat
theorem nm1_inj {f : Int} {i j : Nat} (hi : i < 8) (hj : j < 8) (e : nm1 f i = nm1 f j) : i = j := by
  have h1 : (nm1 f i).cps.size = (1 + ((i : Nat) : Int).fmod 8).toNat := repS_len (ltr_len _) _
  have h2 : (nm1 f j).cps.size = (1 + ((j : Nat) : Int).fmod 8).toNat := repS_len (ltr_len _) _
  rw [e, h2] at h1
  have a : ((i : Nat) : Int).fmod 8 = i := by rw [Int.fmod_eq_emod_of_nonneg _ (by omega)]; omega
  have b : ((j : Nat) : Int).fmod 8 = j := by rw [Int.fmod_eq_emod_of_nonneg _ (by omega)]; omega
  rw [a, b] at h1
  omega
def lt2 (f st : Int) (k : Nat) : Str := ltr ((f + st * (k : Nat)).fmod 26)
def nm2 (f st : Int) (bs : List Str) (a : Nat) (k : Nat) : Str := Txt.join "" (bs.set a (lt2 f st k))
theorem set_split {α : Type} : ∀ {bs : List α} {a : Nat} (x : α), a < bs.length → bs.set a x = bs.take a ++ x :: bs.drop (a + 1)
  | b :: bs, 0, x, h => rfl
  | b :: bs, a + 1, x, h => by
    rw [List.set_cons_succ, set_split (bs := bs) (a := a) x (by simpa using h)]
    rfl
theorem nm2_inj {f st : Int} {bs : List Str} {a i j : Nat} (ha : a < bs.length) (hs : st = 1 ∨ st = 7 ∨ st = 25) (hi : i < 8) (hj : j < 8) (e : nm2 f st bs a i = nm2 f st bs a j) : i = j := by
  unfold nm2 at e
  have h := congrArg (fun z : Str => z.cps.toList) e
  simp only [join_cps, set_split _ ha, List.flatMap_append, List.flatMap_cons] at h
  have h := List.append_cancel_left h
  have h := List.append_cancel_right h
  have h : [97 + ((f + st * (i : Nat)).fmod 26).toNat] = [97 + ((f + st * (j : Nat)).fmod 26).toNat] := h
  have h := List.head_eq_of_cons_eq h
  rw [Int.fmod_eq_emod_of_nonneg _ (by omega), Int.fmod_eq_emod_of_nonneg _ (by omega)] at h
  rcases hs with rfl | rfl | rfl <;> omega
theorem sum_ones : ∀ {ys : List Str}, (∀ y ∈ ys, y.length = 1) → (ys.map (·.length)).sum = ys.length
  | [], _ => rfl
  | y :: ys, h => by
    rw [List.map_cons, List.sum_cons, h y (List.mem_cons_self ..), sum_ones fun z hz => h z (List.mem_cons_of_mem _ hz), List.length_cons]
    omega
theorem letters_of : ∀ {ds : List Dt}, (∀ d ∈ ds, ∃ i : Int, d = .str (ltr i)) → ∃ bs : List Str, ds = bs.map .str ∧ ∀ b ∈ bs, b.length = 1
  | [], _ => ⟨[], rfl, fun b h => by cases h⟩
  | d :: ds, h => by
    obtain ⟨i, rfl⟩ := h d (List.mem_cons_self ..)
    obtain ⟨bs, rfl, h2⟩ := letters_of fun z hz => h z (List.mem_cons_of_mem _ hz)
    refine ⟨ltr i :: bs, rfl, fun b hb => ?_⟩
    rcases List.mem_cons.mp hb with rfl | hb
    · exact ltr_len i
    · exact h2 b hb
section
variable {P : Program} {w : World} {K : PySem.W.Frag} {mg : Str → Option Value} {base : Heap}
/-! _law_names: slots 0 _law_feed_here, 1 _law_many, 2 _law_letters, 3 _law_first, 4 _law_base, 5 _law_at, 6 _law_step, 7 _law_names_here, 8 _law_k; cells ['_law_feed_here', '_law_first', '_law_letters'] -/
abbrev s__law_names : Stmt := topS 63
abbrev n__law_names : List Str := ["_law_feed_here", "_law_many", "_law_letters", "_law_first", "_law_base", "_law_at", "_law_step", "_law_names_here", "_law_k"]
theorem sc__law_names : FnScope n__law_names ["_law_feed_here", "_law_many"] (defScope s__law_names) := ⟨rfl, rfl, rfl, by decide +kernel, rfl, by decide +kernel, by decide +kernel⟩
abbrev spNames (K : PySem.W.Frag) : Sp := spF K 1 (fun n : Nat => [.int (n : Nat)]) (fun n => n ≤ 5) (fun _ => 20) (fun n d => ∃ ns : List Str, ns.length = n ∧ ns.Nodup ∧ d = strsD ns)
theorem ok__law_names (D : Df K mg "_law_names" s__law_names ["_law_feed_here", "_law_many"]) (T : Tx K w mg) {k : Nat} (C__law_draw : Cal P w K mg base k "_law_draw" (spDraw K)) : Cal P w K mg base (k + 1) "_law_names" (spNames K) := by
  refine D.calF sc__law_names rfl fun f cdv A outer s H E hr => ?_
  have sc := sc__law_names
  have hr__law_draw := hr
  refine ⟨_, ((pss_cons (ps_set (i := 2) sc.nd rfl (.inr rfl) pe_str) (pss_cons (ps_set (i := 3) sc.nd rfl (.inr rfl) (pe_cal C__law_draw hr__law_draw (pa_cons (pv 0) (pa_cons pe_int pa_nil)))) (pss_cons (ps_if (pt_cmpR op_eq (pe_cal C__law_draw hr__law_draw (pa_cons (pv 0) (pa_cons pe_int pa_nil))) pe_int (nomark _))
      (pss_one (ps_ret (pe_lc (own := [("_law_k", 8)]) (g := (gName 8)) rfl sc.nd (pi_range1 rfl T.range (pa_cons (pv 1) pa_nil)) (blkOk_by (N := n__law_names) (sc := defScope s__law_names) (by decide +kernel)) (fun _ _ _ _ _ => (pg_name (i := 8) sc.nd rfl (.inl rfl))) (fun _ _ _ _ _ => pts_nil) (fun _ _ _ _ _ => (pe_op op_repS (pe_ix ix_str (pv 2) (pe_op op_modN (pe_op op_add (pv 3) (pe_op op_fdivN (pv 8) pe_int)) pe_int) (fun _ _ => rfl)) (pe_op op_add pe_int (pe_op op_modN (pv 8) pe_int)))))))
      pss_nil) (pss_cons (ps_setLc (i := 4) (own := [("_law_k", 8)]) (g := (gName 8)) rfl sc.nd rfl rfl (sw_true rfl rfl rfl (by decide +kernel)) (pi_range1 rfl T.range (pa_cons (pe_op op_add pe_int (pe_cal C__law_draw hr__law_draw (pa_cons (pv 0) (pa_cons pe_int pa_nil)))) pa_nil)) (blkOk_by (N := n__law_names) (sc := defScope s__law_names) (by decide +kernel)) (fun _ _ _ _ _ => (pg_name (i := 8) sc.nd rfl (.inl rfl))) (fun _ _ _ _ _ => pts_nil) (fun _ _ _ _ _ => (pe_ix ix_str (pv 2) (pe_cal C__law_draw hr__law_draw (pa_cons (pv 0) (pa_cons pe_int pa_nil))) (fun _ _ => rfl)))) (pss_cons (ps_set (i := 5) sc.nd rfl (.inl rfl) (pe_cal C__law_draw hr__law_draw (pa_cons (pv 0) (pa_cons (pe_callB (lenK K rfl) (by rfl) T.len (by decide +kernel) (pa_cons (pv 4) pa_nil)) pa_nil)))) (pss_cons (ps_set (i := 6) sc.nd rfl (.inl rfl) (pe_ix (ixL K rfl) (pe_lst (pa_cons pe_int (pa_cons pe_int (pa_cons pe_int pa_nil)))) (pe_cal C__law_draw hr__law_draw (pa_cons (pv 0) (pa_cons pe_int pa_nil))) (fun _ _ => rfl))) (pss_cons (ps_set (i := 7) sc.nd rfl (.inl rfl) (pe_lst pa_nil)) (pss_cons (ps_for PassesOwn.never rfl (pi_range1 rfl T.range (pa_cons (pv 1) pa_nil)) (pg_name (i := 8) sc.nd rfl (.inl rfl))
      (pss_cons (ps_asg (pe_ix ix_str (pv 2) (pe_op op_modN (pe_op op_add (pv 3) (pe_op op_mul (pv 6) (pv 8))) pe_int) (fun _ _ => rfl)) (pg_sub (pv 4) (pv 5) set_list)) (pss_one (ps_expr (pbm K rfl PySem.F.plainAttrs_list PySem.F.slot_list_append PySem.F.type_list_append mt_append (pv 7) (pa_cons (pe_joinK K rfl pe_str (pv 4)) pa_nil)))))) (pss_one (ps_ret (pv 7)))))))))))), ?_⟩
  rintro B H' l m n hn hm
  have hn : n ≤ 5 := hn
  have hm : m + 20 ≤ 100000 := hm
  refine rn_seq (rn_asg ev_str ?_)
  refine rn_seq (rn_asgF (ef_draw (j := 0) rfl ev_int (by decide) (by decide) (by omega)) ?_)
  rintro _ ⟨f, rfl, f0, f1⟩
  show Rn K _ [.fd l (m + 1), .fz (.int (n : Nat)), .fz (.str abc), .fz (.int f), .un, .un, .un, .un, .un] _ _
  refine rn_seq (rn_ifF (ef_eqI (ef_draw (j := 0) rfl ev_int (by decide) (by decide) (by omega)) ev_int) ?_ (rn_next ?_))
  · refine rn_ret (el_lc0 (List.range n) (fun k => .int ((k : Nat) : Int)) (fun k => .str (nm1 f k)) _ (is_range1 (n := n) (ev_var rfl) (by omega)) (by rw [List.length_range]; omega) (un1 rfl) (fun _ h => h) (fun x _ => tg_name 8 _) (fun k hk => ?_)).fz ⟨fd_at rfl (by omega), (List.range n).map (nm1 f), by rw [List.length_map, List.length_range], nodup_range fun i j hi hj e => nm1_inj (by omega) (by omega) e, ?_⟩
    · have hk5 : k < 5 := by have := List.mem_range.mp hk; omega
      have d8 : CDivN ((k : Nat) : Int) 8 := ⟨by decide, by decide⟩
      have m1 := fmod_in (f + ((k : Nat) : Int).fdiv 8) (m := 26) (by decide)
      have m2 := fmod_in ((k : Nat) : Int) (m := 8) (by decide)
      exact ev_repS (ev_ixS (ev_var rfl) (ev_fmod (ev_add (ev_var rfl) (ev_fdiv (ev_var rfl) ev_int d8)) ev_int (by decide)) abc_len (ltr_at m1.1 m1.2)) (ev_add ev_int (ev_fmod (ev_var rfl) ev_int (by decide))) rfl (by omega) (by omega)
    · show Dt.lst _ = Dt.lst _
      rw [List.map_map]
      rfl
  refine rn_seq (rn_asgFL (el_rngF (jf := 0) (jv := 8) (n0 := m + 3) (c := 1) (M := 8) (R := fun i => 1 ≤ i ∧ i ≤ 8) (E := fun d => ∃ i : Int, d = .str (ltr i)) ⟨_, rfl⟩ rfl (ef_op0 (ef_i ev_int) (ef_draw (j := 0) rfl ev_int (by decide) (by decide) (by omega)) (fun i j hi hj => by omega)) (fun i hi => by omega) (by decide) (fun i hi => ef_ixS (ev_var rfl) (ef_draw (j := 0) (m := m + 3 + i * 1) rfl ev_int (by decide) (by decide) (by omega)) abc_len (fun i hi => ⟨_, ltr_at hi.1 hi.2, i, rfl⟩))) ?_)
  rintro ds ⟨⟨hr1, hr2⟩, hE⟩
  obtain ⟨bs, rfl, hb1⟩ := letters_of hE
  rw [List.length_map] at hr1 hr2
  show Rn K _ [.fd l (m + 3 + 8 * 1), .fz (.int (n : Nat)), .fz (.str abc), .fz (.int f), .ow (bs.map .str), .un, .un, .un, .un] _ _
  refine rn_seq (rn_asgF (ef_draw (j := 0) rfl (ev_lenL (rd_own rfl)) (by rw [List.length_map]; omega) (by rw [List.length_map]; omega) (by omega)) ?_)
  rintro _ ⟨a', rfl, a0, a1⟩
  rw [List.length_map] at a1
  obtain ⟨a, rfl⟩ : ∃ a : Nat, a' = (a : Int) := ⟨a'.toNat, by omega⟩
  have ha : a < bs.length := by omega
  refine rn_seq (rn_asgF (ef_ixL (R := fun ds => ds = [.int 1, .int 7, .int 25]) (S := fun d => ∃ st : Int, d = .int st ∧ (st = 1 ∨ st = 7 ∨ st = 25)) (ef_imp (ef_d (el_lst (ea_cons ev_int (ea_cons ev_int (ea_cons ev_int ea_nil)))).fz) fun d e => ⟨_, e, rfl⟩) (ef_draw (j := 0) rfl ev_int (by decide) (by decide) (by omega)) (fun ds i hd hi => ?_)) ?_)
  · subst hd
    have : i = 0 ∨ i = 1 ∨ i = 2 := by omega
    rcases this with rfl | rfl | rfl
    · exact ⟨_, rfl, 1, rfl, .inl rfl⟩
    · exact ⟨_, rfl, 7, rfl, .inr (.inl rfl)⟩
    · exact ⟨_, rfl, 25, rfl, .inr (.inr rfl)⟩
  rintro _ ⟨st, rfl, hst⟩
  refine rn_seq (rn_asgL (el_lst ea_nil) ?_)
  refine rn_seq (rn_for (is_range1 (n := n) (ev_var rfl) (by omega)) (fun i s => ∃ b' : List Str, (∀ y, b'.set a y = bs.set a y) ∧ b'.length = bs.length ∧ Wk s [.fd l (m + 3 + 8 * 1 + 1 + 1), .fz (.int (n : Nat)), .fz (.str abc), .fz (.int f), .ow (b'.map .str), .fz (.int (a : Nat)), .fz (.int st), .ow (((List.range i).map (nm2 f st bs a)).map .str), .un]) ⟨bs, fun _ => rfl, rfl, Wk.refl _⟩ (fun i d s hd hv => ?_) (fun s hv => ?_))
  · obtain ⟨b', hb', hbl, wk⟩ := hv
    obtain ⟨hi, rfl⟩ := rangeD_get hd
    have m1 := fmod_in (f + st * ((i : Nat) : Int)) (m := 26) (by decide)
    refine ⟨_, _, _, wk, tg_name 8 _, by simp, ?_⟩
    refine rn_seq (rn_setL rfl (ev_ixS (ev_var rfl) (ev_fmod (ev_add (ev_var rfl) (ev_mul (ev_var rfl) (ev_var rfl) (mul_l (by omega)))) ev_int (by decide)) abc_len (ltr_at m1.1 m1.2)) (ev_var rfl) (ixN_nat (by rw [List.length_map]; omega)) ?_)
    have e1 : (b'.map Dt.str).set a (.str (lt2 f st i)) = (bs.set a (lt2 f st i)).map .str := by rw [← List.map_set, hb']
    have one : ∀ y ∈ bs.set a (lt2 f st i), y.length = 1 := fun y hy => by
      rcases List.mem_or_eq_of_mem_set hy with h | h
      · exact hb1 y h
      · rw [h]; exact ltr_len _
    refine rn_app rfl (ev_join (ys := bs.set a (lt2 f st i)) ev_str ((rd_own rfl).is e1) ?_) (by simp; omega) ⟨bs.set a (lt2 f st i), fun y => List.set_set .., by rw [List.length_set], ?_⟩
    · rw [sum_ones one, List.length_set]
      show bs.length + bs.length * 0 ≤ _
      omega
    · refine wk_eq (wk_eq (wk_eq (wk_eq (wk_ow e1 (wk_eq (wk_eq (wk_ow ?_ (wk_un wk_nil))))))))
      rw [List.range_succ, List.map_append, List.map_append]
      rfl
  · obtain ⟨b', hb', hbl, wk⟩ := hv
    rw [rangeD_len] at wk
    refine ⟨_, wk, ?_⟩
    refine rn_freezeF (i := 7) (j := 0) (fun _ h => h) rfl rfl ?_
    exact rn_ret (ev_var rfl) ⟨fd_at rfl (by omega), (List.range n).map (nm2 f st bs a), by rw [List.length_map, List.length_range], nodup_range fun i j hi hj e => nm2_inj ha hst (by omega) (by omega) e, rfl⟩
end
end FW
set_option maxHeartbeats 4000000
/-! the law's readings of rows -/
namespace FW
open PySem PySem.Spec PyProof.Rows L2 FZ
section
variable {P : Program} {w : World} {K : PySem.W.Frag} {mg : Str → Option Value} {base : Heap}
theorem row_at {rs : List Rw} {k : Nat} (h : k < rs.length) : L2.atI (rs.map encR) ((k : Nat) : Int) = some (encR rs[k]) := FZ.atI_nat (by rw [List.getElem?_map, List.getElem?_eq_getElem h]; rfl)
theorem deepAt_get {rs : List Rw} {k : Nat} (h : k < rs.length) : deepAt rs k = rs[k].deep := by unfold deepAt; rw [List.getElem?_eq_getElem h]; rfl
theorem nameAt_get {rs : List Rw} {k : Nat} (h : k < rs.length) : nameAt rs k = rs[k].p.name := by unfold nameAt; rw [List.getElem?_eq_getElem h]; rfl
theorem wordAt_get {rs : List Rw} {k : Nat} (h : k < rs.length) : wordAt rs k = rs[k].p.word := by unfold wordAt; rw [List.getElem?_eq_getElem h]; rfl
/-- rows[k][0] -/
theorem ev_deep {F : Fr} {sl : List FZ.Slot} {ta tb tc : TE} {rs : List Rw} {k : Nat} (ha : EvRd K F sl ta (rs.map encR)) (hb : EvD K F sl tb (.int (k : Nat))) (hc : EvD K F sl tc (.int 0)) (h : k < rs.length) : EvD K F sl (tOp (rIxL K) (tOp (rIxL K) ta tb) tc) (.int (deepAt rs k : Nat)) :=
  (ev_ixL (rd_d (ev_ixL ha hb (row_at h))) hc (show L2.atI _ (0 : Int) = some (.int (rs[k].deep : Nat)) from rfl)).is (by rw [deepAt_get h])
/-! _law_above: slots 0 _law_rows_here, 1 _law_k, 2 _law_found, 3 _law_deep, 4 _law_j -/
abbrev s__law_above : Stmt := topS 64
abbrev n__law_above : List Str := ["_law_rows_here", "_law_k", "_law_found", "_law_deep", "_law_j"]
theorem sc__law_above : FnScope n__law_above ["_law_rows_here", "_law_k"] (defScope s__law_above) := ⟨rfl, rfl, rfl, by decide +kernel, rfl, by decide +kernel, by decide +kernel⟩
abbrev spAbove (K : PySem.W.Frag) : Sp := spI K 2 (fun i : List Rw × Nat => [rowsL i.1, .int (i.2 : Nat)]) (fun i => i.2 < i.1.length ∧ i.1.length ≤ 100) (fun i d => d = .lst ((above i.1 i.2).map fun j => .int ((j : Nat) : Int)))
theorem abFold_len (rs : List Rw) : ∀ (js : List Nat) (st : List Nat × Nat), (js.foldl (abStep rs) st).1.length ≤ st.1.length + js.length
  | [], st => Nat.le_refl _
  | j :: js, st => by
    rw [List.foldl_cons, List.length_cons]
    refine Nat.le_trans (abFold_len rs js _) ?_
    unfold abStep
    split <;> simp <;> omega
theorem ok__law_above (D : Df K mg "_law_above" s__law_above ["_law_rows_here", "_law_k"]) (T : Tx K w mg) {k : Nat} : Cal P w K mg base (k + 1) "_law_above" (spAbove K) := by
  refine D.cal sc__law_above rfl fun f cdv A outer s H E hr => ?_
  have sc := sc__law_above
  refine ⟨_, ((pss_cons (ps_set (i := 2) sc.nd rfl (.inl rfl) (pe_lst pa_nil)) (pss_cons (ps_set (i := 3) sc.nd rfl (.inl rfl) (pe_ix (ixL K rfl) (pe_ix (ixL K rfl) (pv 0) (pv 1) (fun _ _ => rfl)) pe_int (fun _ _ => rfl))) (pss_cons (ps_for PassesOwn.never rfl (pi_revR (by rfl) T.reversed (prg_1 (by rfl) T.range (pv 1))) (pg_name (i := 4) sc.nd rfl (.inl rfl))
      (pss_one (ps_if (pt_cmpR op_lt (pe_ix (ixL K rfl) (pe_ix (ixL K rfl) (pv 0) (pv 4) (fun _ _ => rfl)) pe_int (fun _ _ => rfl)) (pv 3) (nomark _))
      (pss_cons (ps_expr (pbm K rfl PySem.F.plainAttrs_list PySem.F.slot_list_append PySem.F.type_list_append mt_append (pv 2) (pa_cons (pv 4) pa_nil))) (pss_one (ps_set (i := 3) sc.nd rfl (.inl rfl) (pe_ix (ixL K rfl) (pe_ix (ixL K rfl) (pv 0) (pv 4) (fun _ _ => rfl)) pe_int (fun _ _ => rfl)))))
      pss_nil))) (pss_one (ps_ret (pe_revLK K rfl (pv 2)))))))), ?_⟩
  rintro B H' ⟨rs, n⟩ ⟨hn, hl⟩
  dsimp only at hn hl
  refine rn_seq (rn_asgL (el_lst ea_nil) ?_)
  refine rn_seq (rn_asg (ev_deep (rd_var rfl) (ev_var rfl) ev_int hn) ?_)
  refine rn_seq (rn_fold ((List.range n).reverse) (fun j => .int ((j : Nat) : Int)) (fun st : List Nat × Nat => [.fz (rowsL rs), .fz (.int (n : Nat)), .ow (st.1.map fun j => .int ((j : Nat) : Int)), .fz (.int (st.2 : Nat)), .un]) (abStep rs) ([], deepAt rs n) _ _ ((is_revR (n := n) (ev_var rfl) (by omega)).is ?_) (Wk.refl _) (fun j _ => tg_name 4 _) 5 (fun _ => rfl) (by decide) ?_ ?_)
  · unfold rangeD
    rw [List.map_reverse]
  · intro pre j post st hx hst
    have hj : j < n := by
      have : j ∈ (List.range n).reverse := by rw [hx]; simp
      exact List.mem_range.mp (List.mem_reverse.mp this)
    have hsl : st.1.length ≤ 200 := by
      have h1 := abFold_len rs pre ([], deepAt rs n)
      rw [← hst] at h1
      have h2 := congrArg List.length hx
      rw [List.length_reverse, List.length_range, List.length_append] at h2
      simp only [List.length_nil] at h1
      omega
    have hjl : j < rs.length := by omega
    refine rn_if (et_test (ev_lt (ev_deep (rd_var rfl) (ev_var rfl) ev_int hjl) (ev_var rfl))) (fun h => ?_) (fun h => rn_next ?_)
    · refine rn_seq (rn_app rfl (ev_var rfl) (by rw [List.length_map]; omega) ?_)
      refine rn_asg (ev_deep (rd_var rfl) (ev_var rfl) ev_int hjl) ?_
      have c : deepAt rs j < st.2 := by have := of_decide_eq_true h; omega
      have e : abStep rs st j = (st.1 ++ [j], deepAt rs j) := if_pos c
      rw [e]
      exact wk_eq (wk_eq (wk_ow (by rw [List.map_append]; rfl) (wk_eq (wk_un wk_nil))))
    · have c : ¬ deepAt rs j < st.2 := by have := of_decide_eq_false h; omega
      have e : abStep rs st j = st := if_neg c
      rw [e]
      exact wk_eq (wk_eq (wk_eq (wk_eq (wk_un wk_nil))))
  · refine rn_ret (el_rev (rd_own rfl)).fz ?_
    show Dt.lst (((aboveR rs n).1.map fun j => Dt.int ((j : Nat) : Int)).reverse) = _
    rw [← List.map_reverse]
    rfl
/-! _law_free: slots 0 _law_rows_here, 1 _law_found, 2 _law_k, 3 _law_j; cells ['_law_rows_here'] -/
abbrev s__law_free : Stmt := topS 67
abbrev n__law_free : List Str := ["_law_rows_here", "_law_found", "_law_k", "_law_j"]
theorem sc__law_free : FnScope n__law_free ["_law_rows_here"] (defScope s__law_free) := ⟨rfl, rfl, rfl, by decide +kernel, rfl, by decide +kernel, by decide +kernel⟩
abbrev spFree (K : PySem.W.Frag) : Sp := spI K 1 (fun rs : List Rw => [rowsL rs]) (fun rs => rs.length ≤ 100) (fun rs d => d = .lst ((free rs).map fun j => .int ((j : Nat) : Int)))
theorem above_len (rs : List Rw) (k : Nat) : (above rs k).length ≤ k := by
  unfold above aboveR
  rw [List.length_reverse]
  have := abFold_len rs (List.range k).reverse ([], deepAt rs k)
  rw [List.length_reverse, List.length_range] at this
  simpa using this
theorem ok__law_free (D : Df K mg "_law_free" s__law_free ["_law_rows_here"]) (T : Tx K w mg) {k : Nat} (C__law_above : Cal P w K mg base k "_law_above" (spAbove K)) : Cal P w K mg base (k + 1) "_law_free" (spFree K) := by
  refine D.cal sc__law_free rfl fun f cdv A outer s H E hr => ?_
  have sc := sc__law_free
  have hr__law_above := hr
  refine ⟨_, ((pss_cons (ps_set (i := 1) sc.nd rfl (.inl rfl) (pe_lst pa_nil)) (pss_cons (ps_for PassesOwn.never rfl (pi_range1 rfl T.range (pa_cons (pe_callB (lenK K rfl) (by rfl) T.len (by decide +kernel) (pa_cons (pv 0) pa_nil)) pa_nil)) (pg_name (i := 2) sc.nd rfl (.inl rfl))
      (pss_one (ps_if (pt_val (pe_callB (allK K rfl rfl) (by rfl) T.all (by decide +kernel) (pa_cons (pe_lc (own := [("_law_j", 3)]) (g := (gName 3)) rfl sc.nd (piL K rfl (pe_op op_cat (pe_cal C__law_above hr__law_above (pa_cons (pv 0) (pa_cons (pv 2) pa_nil))) (pe_lst (pa_cons (pv 2) pa_nil)))) (blkOk_by (N := n__law_free) (sc := defScope s__law_free) (by decide +kernel)) (fun _ _ _ _ _ => (pg_name (i := 3) sc.nd rfl (.inl rfl))) (fun _ _ _ _ _ => pts_nil) (fun _ _ _ _ _ => (pe_cmpR op_eq (pe_ix (ixL K rfl) (pe_ix (ixL K rfl) (pv 0) (pv 3) (fun _ _ => rfl)) pe_int (fun _ _ => rfl)) pe_str (nomark _)))) pa_nil)))
      (pss_one (ps_expr (pbm K rfl PySem.F.plainAttrs_list PySem.F.slot_list_append PySem.F.type_list_append mt_append (pv 1) (pa_cons (pv 2) pa_nil))))
      pss_nil))) (pss_one (ps_ret (pv 1)))))), ?_⟩
  rintro B H' rs hl
  have hl : rs.length ≤ 100 := hl
  refine rn_seq (rn_asgL (el_lst ea_nil) ?_)
  refine rn_seq (rn_fold (List.range rs.length) (fun j => .int ((j : Nat) : Int)) (fun b : List Nat => [.fz (rowsL rs), .ow (b.map fun j => .int ((j : Nat) : Int)), .un, .un]) (fun b j => if freeAt rs j = true then b ++ [j] else b) [] _ _ (is_range1 (n := rs.length) ((ev_lenL (rd_var rfl)).is (by rw [List.length_map])) (by omega)) (Wk.refl _) (fun j _ => tg_name 2 _) 4 (fun _ => rfl) (by decide) ?_ ?_)
  · intro pre j post b hx hb
    have hj : j < rs.length := by
      have : j ∈ List.range rs.length := by rw [hx]; simp
      exact List.mem_range.mp this
    have hbl : b.length ≤ 200 := by
      have e1 : ∀ (ys : List Nat) (c : List Nat), (ys.foldl (fun b j => if freeAt rs j = true then b ++ [j] else b) c).length ≤ c.length + ys.length := fun ys => by
        induction ys with
        | nil => intro c; exact Nat.le_refl _
        | cons y ys ih =>
          intro c
          rw [List.foldl_cons, List.length_cons]
          refine Nat.le_trans (ih _) ?_
          split <;> simp <;> omega
      have h2 := congrArg List.length hx
      rw [List.length_range, List.length_append] at h2
      have h3 := e1 pre []
      rw [hb]
      simp only [List.length_nil] at h3
      omega
    have hal := above_len rs j
    refine rn_if (b := freeAt rs j) ?_ (fun hc => ?_) (fun hc => rn_next ?_)
    · refine (et_B (ev_all (bs := (above rs j ++ [j]).map fun i => decide (wordAt rs i = "free")) (rd_l ((el_lc0 (above rs j ++ [j]) (fun i => .int ((i : Nat) : Int)) (fun i => .bl (decide (wordAt rs i = "free"))) _ (is_list ((el_cat (rd_d (ev_call (rs, j) (ea_cons (ev_var rfl) (ea_cons (ev_var rfl) ea_nil)) ⟨hj, hl⟩)) (rd_l (el_lst (ea_cons (ev_var rfl) ea_nil))) ?_).fz.is ?_)) ?_ (un1 rfl) (fun _ h => h) (fun n _ => tg_name 3 _) (fun i hi => ?_)).is ?_)))).is ?_
      · show ((above rs j).map fun j => Dt.int ((j : Nat) : Int)).length + 1 ≤ 100000
        rw [List.length_map]; omega
      · rw [List.map_append]; rfl
      · simp; omega
      · have hil : i < rs.length := by
          rcases List.mem_append.mp hi with h | h
          · have := above_lt h; omega
          · rw [List.mem_singleton.mp h]; exact hj
        exact (ev_eqS (ev_ixL (d := .str rs[i].p.word) (rd_d (ev_ixL (rd_var rfl) (ev_var rfl) (row_at hil))) ev_int rfl) ev_str).is (by rw [wordAt_get hil])
      · rw [List.map_map]; rfl
      · unfold freeAt
        rw [List.all_map]
        rfl
    · refine rn_app rfl (ev_var rfl) (by rw [List.length_map]; omega) ?_
      rw [if_pos hc]
      exact wk_eq (wk_ow (by rw [List.map_append]; rfl) (wk_un (wk_un wk_nil)))
    · rw [if_neg (by rw [hc]; decide)]
      exact wk_eq (wk_eq (wk_un (wk_un wk_nil)))
  · have e : ∀ (ys : List Nat) (c : List Nat), ys.foldl (fun b j => if freeAt rs j = true then b ++ [j] else b) c = c ++ ys.filter (freeAt rs) := fun ys => by
      induction ys with
      | nil => intro c; simp
      | cons y ys ih =>
        intro c
        rw [List.foldl_cons, ih]
        cases h : freeAt rs y with
        | true => rw [List.filter_cons_of_pos h, if_pos rfl]; simp
        | false => rw [List.filter_cons_of_neg (by rw [h]; decide), if_neg (by decide)]
    refine rn_freeze (i := 1) (fun _ z => z) rfl ?_
    refine rn_ret (ev_var rfl) ?_
    rw [e, List.nil_append]
    rfl
/-! _law_ways: slots  -/
abbrev s__law_ways : Stmt := topS 69
abbrev n__law_ways : List Str := []
theorem sc__law_ways : FnScope n__law_ways [] (defScope s__law_ways) := ⟨rfl, rfl, rfl, by decide +kernel, rfl, by decide +kernel, by decide +kernel⟩
abbrev spWays (K : PySem.W.Frag) : Sp := spI K 0 (fun _ : Unit => []) (fun _ => True) (fun _ d => d = strsD ways6)
theorem ok__law_ways (D : Df K mg "_law_ways" s__law_ways []) {k : Nat} : Cal P w K mg base (k + 1) "_law_ways" (spWays K) := by
  refine D.cal sc__law_ways rfl fun f cdv A outer s H E hr => ?_
  have sc := sc__law_ways
  refine ⟨_, ((pss_one (ps_ret (pe_lst (pa_cons pe_str (pa_cons pe_str (pa_cons pe_str (pa_cons pe_str (pa_cons pe_str (pa_cons pe_str pa_nil)))))))))), ?_⟩
  rintro B H' u -
  exact rn_ret (el_lst (ea_cons ev_str (ea_cons ev_str (ea_cons ev_str (ea_cons ev_str (ea_cons ev_str (ea_cons ev_str ea_nil))))))).fz rfl
/-! _law_spot: slots 0 _law_found, 1 _law_name, 2 _law_at, 3 _law_layer; cells ['_law_name'] -/
abbrev s__law_spot : Stmt := topS 71
abbrev n__law_spot : List Str := ["_law_found", "_law_name", "_law_at", "_law_layer"]
theorem sc__law_spot : FnScope n__law_spot ["_law_found", "_law_name"] (defScope s__law_spot) := ⟨rfl, rfl, rfl, by decide +kernel, rfl, by decide +kernel, by decide +kernel⟩
def spotL (ls : List (List Str)) (m : Str) : List Nat := (ls.zipIdx.filter fun p => decide (m ∈ p.1)).map fun p => p.2
abbrev spSpot (K : PySem.W.Frag) : Sp := spI K 2 (fun i : List (List Str) × Str => [.lst (i.1.map strsD), .str i.2]) (fun i => i.1.length ≤ 1000) (fun i d => d = .lst ((spotL i.1 i.2).map fun j => .int ((j : Nat) : Int)))
theorem ok__law_spot (D : Df K mg "_law_spot" s__law_spot ["_law_found", "_law_name"]) (T : Tx K w mg) {k : Nat} : Cal P w K mg base (k + 1) "_law_spot" (spSpot K) := by
  refine D.cal sc__law_spot rfl fun f cdv A outer s H E hr => ?_
  have sc := sc__law_spot
  refine ⟨_, ((pss_one (ps_ret (pe_lc (own := [("_law_at", 2), ("_law_layer", 3)]) (g := (gTup K 2 (gCons (gName 2) (gCons (gName 3) gNil)))) rfl sc.nd (piEn K rfl (by rfl) T.enumerate (pa_cons (pv 0) pa_nil)) (blkOk_by (N := n__law_spot) (sc := defScope s__law_spot) (by decide +kernel)) (fun _ _ _ _ _ => (pgT K (n := 2) rfl rfl (pgs_cons (pg_name (i := 2) sc.nd rfl (.inl rfl)) (pgs_cons (pg_name (i := 3) sc.nd rfl (.inl rfl)) pgs_nil)))) (fun _ _ _ _ _ => pts_one (pt_cmpR (inS K rfl) (pv 1) (pv 3) (by rfl))) (fun _ _ _ _ _ => (pv 2)))))), ?_⟩
  rintro B H' ⟨ls, m⟩ hl
  have hl : ls.length ≤ 1000 := hl
  refine rn_ret (el_lc (ls.zipIdx) (fun p => .tup [.int ((p.2 : Nat) : Int), strsD p.1]) (fun p => decide (m ∈ p.1)) (fun p => .int ((p.2 : Nat) : Int)) _ ((is_enum (ev_var rfl)).is ?_) (by rw [List.length_zipIdx]; omega) (un2 rfl rfl) (fun _ h => h) (fun p _ => tg_tup2 2 3 _ _) (fun p _ => et_test (ev_inS (ev_var rfl) (rd_var rfl))) (fun p _ _ => ev_var rfl)).fz ?_
  · unfold enumD
    rw [List.zipIdx_map, List.map_map]
    rfl
  · show Dt.lst _ = Dt.lst _
    unfold spotL
    rw [List.map_map]
    rfl
end
end FW
set_option maxHeartbeats 4000000
/-! the law's sheet -/
namespace FW
open PySem PySem.Spec PyProof.Rows L2 FZ
theorem hung_fuel : ∀ (n m d : Nat) (rs : List Rw), rs.length ≤ n → rs.length ≤ m → hung n d rs = hung m d rs
  | 0, 0, _, _, _, _ => rfl
  | 0, m + 1, d, [], _, _ => rfl
  | 0, m + 1, d, r :: rs, h, _ => by simp at h
  | n + 1, 0, d, [], _, _ => rfl
  | n + 1, 0, d, r :: rs, _, h => by simp at h
  | n + 1, m + 1, d, [], _, _ => rfl
  | n + 1, m + 1, d, r :: rs, h1, h2 => by
    have hs := congrArg List.length (List.takeWhile_append_dropWhile (p := fun x : Rw => decide (d < x.deep)) (l := rs))
    rw [List.length_append] at hs
    rw [List.length_cons] at h1 h2
    rw [hung, hung, hung_fuel n m (d + 1) _ (by omega) (by omega), hung_fuel n m d _ (by omega) (by omega)]
abbrev hungL (d : Nat) (rs : List Rw) : Fo := hung rs.length d rs
theorem hungL_cons (d : Nat) (r : Rw) (rs : List Rw) : hungL d (r :: rs) = .cons r.p (hungL (d + 1) (rs.takeWhile fun x => decide (d < x.deep))) (hungL d (rs.dropWhile fun x => decide (d < x.deep))) := by
  have hs := congrArg List.length (List.takeWhile_append_dropWhile (p := fun x : Rw => decide (d < x.deep)) (l := rs))
  rw [List.length_append] at hs
  show hung (rs.length + 1) d (r :: rs) = _
  rw [hung, hung_fuel rs.length _ (d + 1) _ (by omega) (Nat.le_refl _), hung_fuel rs.length _ d _ (by omega) (Nat.le_refl _)]
theorem tw_split {p : Rw → Bool} : ∀ {l : List Rw} {m : Nat}, m ≤ l.length → (∀ x ∈ l.take m, p x = true) → (∀ x, l[m]? = some x → p x = false) → l.takeWhile p = l.take m ∧ l.dropWhile p = l.drop m
  | [], m, _, _, _ => by simp
  | x :: l, 0, _, _, h => by
    have := h x rfl
    simp [this]
  | x :: l, m + 1, hm, h1, h2 => by
    have hx := h1 x (by simp)
    obtain ⟨a, b⟩ := tw_split (p := p) (l := l) (m := m) (by simpa using hm) (fun y hy => h1 y (by simp [hy])) (fun y hy => h2 y (by simpa using hy))
    simp [hx, a, b]
section
variable {P : Program} {w : World} {K : PySem.W.Frag} {mg : Str → Option Value} {base : Heap}
/-! _law_hung: slots 0 _law_rows_here, 1 _law_deep, 2 _law_parts, 3 _law_k, 4 _law_end -/
abbrev s__law_hung : Stmt := topS 66
abbrev n__law_hung : List Str := ["_law_rows_here", "_law_deep", "_law_parts", "_law_k", "_law_end"]
theorem sc__law_hung : FnScope n__law_hung ["_law_rows_here", "_law_deep"] (defScope s__law_hung) := ⟨rfl, rfl, rfl, by decide +kernel, rfl, by decide +kernel, by decide +kernel⟩
abbrev spHung (K : PySem.W.Frag) (n : Nat) : Sp := spI K 2 (fun i : List Rw × Nat => [rowsL i.1, .int (i.2 : Nat)]) (fun i => i.1.length < n ∧ i.1.length ≤ 100) (fun i d => d = shD (hungL i.2 i.1))
theorem ok__law_hung (D : Df K mg "_law_hung" s__law_hung ["_law_rows_here", "_law_deep"]) (T : Tx K w mg) (k0 : Nat) : ∀ n, Cal P w K mg base (k0 + n) "_law_hung" (spHung K n)
  | 0 => D.never fun vs H Q E h => by
    obtain ⟨_, i, _, _, _, hp, _⟩ := h
    exact absurd hp.1 (Nat.not_lt_zero _)
  | n + 1 => by
    have C__law_hung := ok__law_hung D T k0 n
    refine D.cal sc__law_hung rfl fun f cdv A outer s H E hr => ?_
    have sc := sc__law_hung
    have hr__law_hung := hr
    refine ⟨_, ((pss_cons (ps_set (i := 2) sc.nd rfl (.inl rfl) (pe_lst pa_nil)) (pss_cons (ps_set (i := 3) sc.nd rfl (.inl rfl) pe_int) (pss_cons (ps_while PassesOwn.never (pt_cmpR op_lt (pv 3) (pe_callB (lenK K rfl) (by rfl) T.len (by decide +kernel) (pa_cons (pv 0) pa_nil)) (nomark _))
      (pss_cons (ps_set (i := 4) sc.nd rfl (.inl rfl) (pe_op op_add (pv 3) pe_int)) (pss_cons (ps_while PassesOwn.never (PW.pt (pw_and (pt_cmpR op_lt (pv 4) (pe_callB (lenK K rfl) (by rfl) T.len (by decide +kernel) (pa_cons (pv 0) pa_nil)) (nomark _)) (pw_and1 (pt_cmpR op_gt (pe_ix (ixL K rfl) (pe_ix (ixL K rfl) (pv 0) (pv 4) (fun _ _ => rfl)) pe_int (fun _ _ => rfl)) (pv 1) (nomark _)))))
      (pss_one (ps_set (i := 4) sc.nd rfl (.inl rfl) (pe_op op_add (pv 4) pe_int)))) (pss_cons (ps_expr (pbm K rfl PySem.F.plainAttrs_list PySem.F.slot_list_append PySem.F.type_list_append mt_append (pv 2) (pa_cons (pe_op (catA K rfl) (pe_callTy (tupK K rfl) (by rfl) T.tuple (by decide +kernel) (pa_cons (pe_slice (slL K rfl) (pe_ix (ixL K rfl) (pv 0) (pv 3) (fun _ _ => rfl)) (po_some pe_int) po_none) pa_nil)) (pe_tup (pa_cons (pe_cal C__law_hung hr__law_hung (pa_cons (pe_slice (slL K rfl) (pv 0) (po_some (pe_op op_add (pv 3) pe_int)) (po_some (pv 4))) (pa_cons (pe_op op_add (pv 1) pe_int) pa_nil))) pa_nil))) pa_nil))) (pss_one (ps_set (i := 3) sc.nd rfl (.inl rfl) (pv 4))))))) (pss_one (ps_ret (pe_callTy (tupK K rfl) (by rfl) T.tuple (by decide +kernel) (pa_cons (pv 2) pa_nil)))))))), ?_⟩
    rintro B H' ⟨rs, d⟩ ⟨hn, hl⟩
    dsimp only at hn hl
    have hml : (rs.map encR).length = rs.length := by rw [List.length_map]
    refine rn_seq (rn_asgL (el_lst ea_nil) ?_)
    refine rn_seq (rn_asg ev_int ?_)
    refine rn_seq (rn_while (fun m sl => ∃ (k : Nat) (parts : List Dt), m = rs.length - k ∧ k ≤ rs.length ∧ parts.length ≤ k ∧ encF (hungL d rs) = parts ++ encF (hungL d (rs.drop k)) ∧ Wk sl [.fz (rowsL rs), .fz (.int (d : Nat)), .ow parts, .fz (.int (k : Nat)), .un]) rs.length ⟨0, [], rfl, Nat.zero_le _, Nat.le_refl _, rfl, Wk.refl _⟩ ?_)
    rintro m sl ⟨k, parts, rfl, hk, hp, he, wk⟩
    refine ⟨decide (((k : Nat) : Int) < ((rs.map encR).length : Int)), et_weak wk (et_test (ev_lt (ev_var rfl) (ev_lenL (rd_var rfl)))), fun hb => ?_, fun hb => ?_⟩
    · have hk : k < rs.length := by
        have := of_decide_eq_true hb
        rw [hml] at this
        omega
      refine rn_weak wk ?_
      refine rn_seq (rn_asg ((ev_add (ev_var rfl) ev_int).is (e := .int ((k + 1 : Nat) : Int)) (congrArg Dt.int (by omega))) ?_)
      refine rn_via (X := { e : Nat // k + 1 ≤ e ∧ e ≤ rs.length ∧ (∀ x ∈ (rs.drop (k + 1)).take (e - (k + 1)), d < x.deep) ∧ ∀ x, rs[e]? = some x → ¬ d < x.deep }) (fun e => [.fz (rowsL rs), .fz (.int (d : Nat)), .ow parts, .fz (.int (k : Nat)), .fz (.int (e.1 : Nat))]) (rn_while (fun m sl => ∃ e : Nat, m = rs.length - e ∧ k + 1 ≤ e ∧ e ≤ rs.length ∧ (∀ x ∈ (rs.drop (k + 1)).take (e - (k + 1)), d < x.deep) ∧ Wk sl [.fz (rowsL rs), .fz (.int (d : Nat)), .ow parts, .fz (.int (k : Nat)), .fz (.int (e : Nat))]) _ ⟨k + 1, rfl, Nat.le_refl _, hk, (fun x hx => by rw [Nat.sub_self, List.take_zero] at hx; cases hx), Wk.refl _⟩ ?wh) ?tl
      case tl =>
        rintro ⟨e, he1, he2, hall, hend⟩
        dsimp only
        have hrk : rs.drop k = rs[k] :: rs.drop (k + 1) := List.drop_eq_getElem_cons hk
        obtain ⟨tw, dw⟩ := tw_split (p := fun x : Rw => decide (d < x.deep)) (l := rs.drop (k + 1)) (m := e - (k + 1)) (by rw [List.length_drop]; omega) (fun x hx => decide_eq_true (hall x hx)) (fun x hx => decide_eq_false (hend x (by rw [List.getElem?_drop, show k + 1 + (e - (k + 1)) = e by omega] at hx; exact hx)))
        rw [List.drop_drop, show k + 1 + (e - (k + 1)) = e by omega] at dw
        have hstep : encF (hungL d (rs.drop k)) = encP rs[k].p (hungL (d + 1) ((rs.drop (k + 1)).take (e - (k + 1)))) :: encF (hungL d (rs.drop e)) := by
          rw [hrk, hungL_cons, tw, dw]
          rfl
        have hil : ((rs.drop (k + 1)).take (e - (k + 1))).length ≤ e - (k + 1) := by rw [List.length_take]; exact Nat.min_le_left _ _
        have hcut : cutD (rs.map encR) (some (((k : Nat) : Int) + 1)) (some ((e : Nat) : Int)) = ((rs.drop (k + 1)).take (e - (k + 1))).map encR := by
          rw [show ((k : Nat) : Int) + 1 = ((k + 1 : Nat) : Int) by omega, cutD_mid _ _ _ (by rw [hml]; exact he2) he1, List.map_take, List.map_drop]
        refine rn_seq (rn_app (d := encP rs[k].p (hungL (d + 1) ((rs.drop (k + 1)).take (e - (k + 1))))) rfl ((ev_catT (ev_tupL (rd_l (el_slL (rd_d (ev_ixL (rd_var rfl) (ev_var rfl) (row_at hk))) (eo_some ev_int) eo_none))) (ev_tup (ea_cons (d := shD (hungL (d + 1) ((rs.drop (k + 1)).take (e - (k + 1))))) ?_ ea_nil)) ?_).is ?_) (by omega) ?_)
        · exact ev_call ((rs.drop (k + 1)).take (e - (k + 1)), d + 1) (ea_cons ((el_slL (rd_var rfl) (eo_some (ev_add (ev_var rfl) ev_int)) (eo_some (ev_var rfl))).fz.is (by rw [hcut])) (ea_cons ((ev_add (ev_var rfl) ev_int).is (congrArg Dt.int (by omega))) ea_nil)) ⟨by dsimp only; omega, by dsimp only; omega⟩
        · show (cutD _ (some ((1 : Nat) : Int)) none).length + 1 ≤ 100000
          rw [cutD_from _ 1 (by show 1 ≤ 6; decide)]
          show 5 + 1 ≤ 100000
          decide
        · show Dt.tup (cutD _ (some ((1 : Nat) : Int)) none ++ _) = _
          rw [cutD_from _ 1 (by show 1 ≤ 6; decide)]
          rfl
        · refine rn_asg (ev_var rfl) ⟨rs.length - e, by omega, e, parts ++ [encP rs[k].p (hungL (d + 1) ((rs.drop (k + 1)).take (e - (k + 1))))], rfl, he2, by rw [List.length_append]; show parts.length + 1 ≤ e; omega, ?_, wk_eq (wk_eq (wk_eq (wk_eq (wk_un wk_nil))))⟩
          rw [he, hstep, List.append_assoc]
          rfl
      case wh =>
      rintro m2 sl2 ⟨e, rfl, he1, he2, hall, wk2⟩
      by_cases hel : e < rs.length
      · refine ⟨true && decide (d < deepAt rs e), et_weak wk2 (et_and (a := true) ((et_test (ev_lt (ev_var rfl) (ev_lenL (rd_var rfl)))).is (by rw [hml]; exact decide_eq_true (by omega))) (fun _ => (et_test (ev_gt (ev_deep (rd_var rfl) (ev_var rfl) ev_int hel) (ev_var rfl))).is (decide_eq_decide.mpr (by omega)))), fun h2 => ?_, fun h2 => ?_⟩
        · rw [Bool.true_and] at h2
          have h2 := of_decide_eq_true h2
          refine rn_weak wk2 ?_
          refine rn_asg ((ev_add (ev_var rfl) ev_int).is (e := .int ((e + 1 : Nat) : Int)) (congrArg Dt.int (by omega))) ⟨rs.length - (e + 1), by omega, e + 1, rfl, by omega, hel, fun x hx => ?_, Wk.refl _⟩
          have hx' : (rs.drop (k + 1))[e - (k + 1)]? = some rs[e] := by
            rw [List.getElem?_drop, show k + 1 + (e - (k + 1)) = e by omega]
            exact List.getElem?_eq_getElem hel
          rw [show e + 1 - (k + 1) = (e - (k + 1)) + 1 by omega, List.take_add_one, hx'] at hx
          rcases List.mem_append.mp hx with hx | hx
          · exact hall x hx
          · have : x = rs[e] := by simpa using hx
            rw [this, ← deepAt_get hel]; exact h2
        · rw [Bool.true_and] at h2
          have h2 := of_decide_eq_false h2
          refine ⟨⟨e, he1, he2, hall, fun x hx => ?_⟩, wk2⟩
          have : x = rs[e] := by
            rw [List.getElem?_eq_getElem hel] at hx
            exact (Option.some.inj hx).symm
          rw [this, ← deepAt_get hel]; exact h2
      · refine ⟨false, et_weak wk2 (et_and0 ((et_test (ev_lt (ev_var rfl) (ev_lenL (rd_var rfl)))).is (by rw [hml]; exact decide_eq_false (by omega)))), (fun h2 => by cases h2), fun _ => ?_⟩
        refine ⟨⟨e, he1, he2, hall, fun x hx => ?_⟩, wk2⟩
        rw [List.getElem?_eq_none (by omega)] at hx
        cases hx
    · have hk : k = rs.length := by
        have := of_decide_eq_false hb
        rw [hml] at this
        omega
      refine rn_weak wk ?_
      subst hk
      rw [List.drop_length] at he
      have he : encF (hungL d rs) = parts := by rw [he]; exact List.append_nil _
      exact rn_ret (ev_tupL (rd_own rfl)) (by rw [← he])
end
end FW
set_option maxHeartbeats 4000000
/-! the law's judgement of a row -/
namespace FW
open PySem PySem.Spec PyProof.Rows L2 FZ
section
variable {P : Program} {w : World} {K : PySem.W.Frag} {mg : Str → Option Value} {base : Heap}
def leadsK (s : Fo) : List (Str × Dt) := (opens s).map fun n => (n, .lst ((leads s n).map optD))
abbrev leadsD (s : Fo) : Dt := .dct (leadsK s)
theorem leads_look {s : Fo} (ok : Okf s) {n : Str} (h : n ∈ opens s) : (leadsK s).lookup n = some (.lst ((leads s n).map optD)) :=
  lookup_map (fun n : Str => n) (fun n => Dt.lst ((leads s n).map optD)) (opens s) (by rw [List.map_id']; exact opens_nd ok) n h
theorem goRow_app (s : Fo) : ∀ (xs ys : List Str) (n : Str), goRow s n (xs ++ ys) = (goRow s n xs).bind fun m => goRow s m ys
  | [], ys, n => rfl
  | x :: xs, ys, n => by
    show (stepTo s n x).bind _ = ((stepTo s n x).bind _).bind _
    rw [Option.bind_assoc]
    congr 1
    funext m
    exact goRow_app s xs ys m
theorem goRow_open {s : Fo} (ok : Okf s) : ∀ (ws : List Str) {n m : Str}, n ∈ opens s → goRow s n ws = some m → m ∈ opens s
  | [], n, m, hn, h => by cases h; exact hn
  | w :: ws, n, m, hn, h => by
    have h : (stepTo s n w).bind (fun q => goRow s q ws) = some m := h
    cases q : stepTo s n w with
    | none => rw [q] at h; cases h
    | some x =>
      rw [q] at h
      exact goRow_open ok ws (nbr_open ok (step_nbr q)) h
/-! _law_leads: slots 0 _law_leads_here, 1 _law_one, 2 _law_other, 3 _law_ways_here, 4 _law_here, 5 _law_way -/
abbrev s__law_leads : Stmt := topS 72
abbrev n__law_leads : List Str := ["_law_leads_here", "_law_one", "_law_other", "_law_ways_here", "_law_here", "_law_way"]
theorem sc__law_leads : FnScope n__law_leads ["_law_leads_here", "_law_one", "_law_other", "_law_ways_here"] (defScope s__law_leads) := ⟨rfl, rfl, rfl, by decide +kernel, rfl, by decide +kernel, by decide +kernel⟩
abbrev spLeads (K : PySem.W.Frag) : Sp := spI K 4 (fun i : Fo × Str × Str × List Str => [leadsD i.1, .str i.2.1, .str i.2.2.1, strsD i.2.2.2]) (fun i => Okf i.1 ∧ i.2.1 ∈ opens i.1 ∧ goRow i.1 i.2.1 i.2.2.2 = some i.2.2.1) (fun _ d => d = .bl true)
theorem ok__law_leads (D : Df K mg "_law_leads" s__law_leads ["_law_leads_here", "_law_one", "_law_other", "_law_ways_here"]) (T : Tx K w mg) {k : Nat} (C__law_ways : Cal P w K mg base k "_law_ways" (spWays K)) : Cal P w K mg base (k + 1) "_law_leads" (spLeads K) := by
  refine D.cal sc__law_leads rfl fun f cdv A outer s H E hr => ?_
  have sc := sc__law_leads
  have hr__law_ways := hr
  have hu := hu_of hr
  refine ⟨_, ((pss_cons (ps_set (i := 4) sc.nd rfl (.inl rfl) (pv 1)) (pss_cons (ps_for PassesOwn.never rfl (piL K rfl (pv 3)) (pg_name (i := 5) sc.nd rfl (.inl rfl))
      (pss_cons (ps_if (PW.pt (pw_or (pt_cmpR (niS K rfl) (pv 5) (pe_cal0 C__law_ways hr__law_ways) (by rfl)) (pw_or1 (pt_cmp (pc_isN (pv 4)) rfl))))
      (pss_one (ps_ret pe_bl))
      pss_nil) (pss_one (ps_set (i := 4) sc.nd rfl (.inl rfl) (pe_ix (ixL K rfl) (pe_dget hu (pv 0) (pv 4) (fun _ _ => rfl)) (pbm K rfl PySem.F.plainAttrs_list PySem.F.slot_list_index PySem.F.type_list_index (indexK K rfl) (pe_cal0 C__law_ways hr__law_ways) (pa_cons (pv 5) pa_nil)) (fun _ _ => rfl)))))) (pss_one (ps_ret (pe_cmpR op_eq (pv 4) (pv 2) (nomark _))))))), ?_⟩
  rintro B H' ⟨sh, one, other, row⟩ ⟨ok, ho, hg⟩
  dsimp only at ok ho hg
  have ways : ∀ {F : Fr} {sl : List FZ.Slot}, EvD K F sl (tCall (spWays K) [] E0 tNil) (strsD ways6) := fun {F sl} => ev_call () ea_nil trivial
  refine rn_seq (rn_asg (ev_var rfl) ?_)
  refine rn_seq (rn_for (is_list (ev_var rfl)) (fun i s => ∃ h, goRow sh one (row.take i) = some h ∧ Wk s [.fz (leadsD sh), .fz (.str one), .fz (.str other), .fz (strsD row), .fz (.str h), .un]) ⟨one, rfl, Wk.refl _⟩ (fun i d s hd hv => ?_) (fun s hv => ?_))
  · obtain ⟨h, hh, wk⟩ := hv
    rw [List.getElem?_map] at hd
    cases hx : row[i]? with
    | none => rw [hx] at hd; cases hd
    | some wy =>
      rw [hx] at hd
      have ed : d = .str wy := (Option.some.inj hd).symm
      subst ed
      have hop := goRow_open ok _ ho hh
      have hlt : i < row.length := (List.getElem?_eq_some_iff.mp hx).1
      have hsp : row = row.take i ++ wy :: row.drop (i + 1) := by
        have h1 := (List.take_append_drop i row).symm
        rw [List.drop_eq_getElem_cons hlt] at h1
        rw [List.getElem?_eq_getElem hlt] at hx
        cases hx
        exact h1
      have hst : ∃ nx, stepTo sh h wy = some nx := by
        rw [hsp, goRow_app, hh] at hg
        have hg : (stepTo sh h wy).bind (fun q => goRow sh q (row.drop (i + 1))) = some other := hg
        cases q : stepTo sh h wy with
        | none => rw [q] at hg; cases hg
        | some x => exact ⟨x, rfl⟩
      obtain ⟨nx, hnx⟩ := hst
      have hnx' := hnx
      unfold stepTo at hnx'
      by_cases hw : wy ∈ ways6
      · rw [if_pos hw] at hnx'
        obtain ⟨i1, i2⟩ := idx_spec hw
        have il : ways6.idxOf wy < 6 := (List.getElem?_eq_some_iff.mp i1).1
        have h6 := leads_len ok hop
        refine ⟨_, _, _, wk, tg_name 5 _, by simp, ?_⟩
        refine rn_seq (rn_if (b := false) ((et_or (a := false) (b := false) ((et_test (ev_niS (ev_var rfl) (rd_d ways))).is (by rw [decide_eq_true hw]; rfl)) (fun _ => (et_B (ev_isN (ev_var rfl))).is rfl)).is rfl) (fun z => by cases z) (fun _ => rn_next ?_))
        refine rn_asg (ev_ixL (rd_d (ev_dget (rk_var rfl) (ev_var rfl) (leads_look ok hop))) (ev_indexS (rd_d ways) (ev_var rfl) i1 i2) ((atI_map (dflt := none) (by omega)).trans (by rw [hnx']; rfl))) ⟨nx, ?_, wk_eq (wk_eq (wk_eq (wk_eq (wk_eq (wk_un wk_nil)))))⟩
        rw [take_succ' hx, goRow_snoc, hh]
        exact hnx
      · rw [if_neg hw] at hnx'
        cases hnx'
  · obtain ⟨h, hh, wk⟩ := hv
    rw [List.length_map, List.take_length, hg] at hh
    cases hh
    exact ⟨_, wk, rn_ret (ev_eqS (ev_var rfl) (ev_var rfl)) (by simp)⟩
/-! _law_shut_out: slots 0 _law_leads_here, 1 _law_names_here, 2 _law_one, 3 _law_other, 4 _law_name, 5 _law_to; cells ['_law_names_here'] -/
abbrev s__law_shut_out : Stmt := topS 73
abbrev n__law_shut_out : List Str := ["_law_leads_here", "_law_names_here", "_law_one", "_law_other", "_law_name", "_law_to"]
theorem sc__law_shut_out : FnScope n__law_shut_out ["_law_leads_here", "_law_names_here", "_law_one", "_law_other"] (defScope s__law_shut_out) := ⟨rfl, rfl, rfl, by decide +kernel, rfl, by decide +kernel, by decide +kernel⟩
abbrev spShut (K : PySem.W.Frag) : Sp := spI K 4 (fun i : Fo × List Str × Str × Str => [leadsD i.1, strsD i.2.1, .str i.2.2.1, .str i.2.2.2]) (fun i => Okf i.1 ∧ i.2.2.1 ∈ i.2.1 ∧ i.2.2.2 ∉ i.2.1 ∧ ∀ n ∈ i.2.1, n ∈ opens i.1 ∧ ∀ m ∈ nbr i.1 n, m ∈ i.2.1) (fun _ d => d = .bl true)
theorem ok__law_shut_out (D : Df K mg "_law_shut_out" s__law_shut_out ["_law_leads_here", "_law_names_here", "_law_one", "_law_other"]) (T : Tx K w mg) {k : Nat} : Cal P w K mg base (k + 1) "_law_shut_out" (spShut K) := by
  refine D.cal sc__law_shut_out rfl fun f cdv A outer s H E hr => ?_
  have sc := sc__law_shut_out
  have hu := hu_of hr
  refine ⟨_, ((pss_cons (ps_if (PW.pt (pw_or (pt_cmpR (niS K rfl) (pv 2) (pv 1) (by rfl)) (pw_or1 (pt_cmpR (inS K rfl) (pv 3) (pv 1) (by rfl)))))
      (pss_one (ps_ret pe_bl))
      pss_nil) (pss_cons (ps_for PassesOwn.never rfl (piL K rfl (pv 1)) (pg_name (i := 4) sc.nd rfl (.inl rfl))
      (pss_cons (ps_if (pt_cmp (pc_dnotin hu (pv 4) (pv 0)) rfl)
      (pss_one (ps_ret pe_bl))
      pss_nil) (pss_one (ps_if (pt_cmpR (nePK K rfl hr.units) (pe_lc (own := [("_law_to", 5)]) (g := (gName 5)) rfl sc.nd (piL K rfl (pe_dget hu (pv 0) (pv 4) (fun _ _ => rfl))) (blkOk_by (N := n__law_shut_out) (sc := defScope s__law_shut_out) (by decide +kernel)) (fun _ _ _ _ _ => (pg_name (i := 5) sc.nd rfl (.inl rfl))) (fun _ _ _ _ _ => pts_one (PW.pt (pw_and (pt_cmp (pc_notN (pv 5)) rfl) (pw_and1 (pt_cmpR (niS K rfl) (pv 5) (pv 1) (by rfl)))))) (fun _ _ _ _ _ => (pv 5))) (pe_lst pa_nil) (nomark _))
      (pss_one (ps_ret pe_bl))
      pss_nil)))) (pss_one (ps_ret pe_bl))))), ?_⟩
  rintro B H' ⟨sh, ns, one, other⟩ ⟨ok, h1, h2, h3⟩
  dsimp only at ok h1 h2 h3
  refine rn_seq (rn_if (b := false) ((et_or (a := false) (b := false) ((et_test (ev_niS (ev_var rfl) (rd_var rfl))).is (by rw [decide_eq_true h1]; rfl)) (fun _ => (et_test (ev_inS (ev_var rfl) (rd_var rfl))).is (decide_eq_false h2))).is rfl) (fun z => by cases z) (fun _ => rn_next ?_))
  refine rn_seq (rn_seek ns .str [.fz (leadsD sh), .fz (strsD ns), .fz (.str one), .fz (.str other), .un, .un] (fun _ => True) _ _ (is_list (ev_var rfl)) (Wk.refl _) (fun x _ => tg_name 4 _) 6 rfl (by decide) ?_ ?_)
  · intro pre n post hx _
    obtain ⟨hn, hc⟩ := h3 n (by rw [hx]; simp)
    have h6 := leads_len ok hn
    refine rn_seq (rn_if (b := false) ((et_B (ev_dni (k := n) (ev_var rfl) (rk_var rfl))).is (by rw [leads_look ok hn]; rfl)) (fun z => by cases z) (fun _ => rn_next ?_))
    have hnil : (leads sh n).filter (fun o => o.isSome && !decide (o.getD "" ∈ ns)) = [] := by
      rw [List.filter_eq_nil_iff]
      intro o ho
      cases o with
      | none => simp
      | some t =>
        have : t ∈ ns := hc t (List.mem_filterMap.mpr ⟨some t, ho, rfl⟩)
        simp [this]
    refine rn_if (b := false) ((et_test (ev_neU (a := ([] : List Str)) (b := ([] : List Str)) ((el_lc (leads sh n) optD (fun o => o.isSome && !decide (o.getD "" ∈ ns)) optD _ (is_list (ev_dget (rk_var rfl) (ev_var rfl) (leads_look ok hn))) (by omega) (un1 rfl) (fun _ h => h) (fun o _ => tg_name 5 _) (fun o _ => ?_) (fun o _ _ => ev_var rfl)).fz.is (by rw [hnil])) (el_lst ea_nil).fz rfl rfl)).is (by decide)) (fun z => by cases z) (fun _ => rn_next ⟨wk_eq (wk_eq (wk_eq (wk_eq (wk_un (wk_un wk_nil))))), trivial⟩)
    cases o with
    | none => exact et_and0 ((et_B (ev_notN (ev_var rfl))).is rfl)
    | some t => exact et_and (a := true) ((et_B (ev_notN (ev_var rfl))).is rfl) (fun _ => et_test (ev_niS (x := t) (ev_var rfl) (rd_var rfl)))
  · intro _
    exact rn_ret ev_bl rfl
/-! _law_right: slots 0 _law_told_here, 1 _law_leads_here, 2 _law_found, 3 _law_one, 4 _law_other, 5 _law_spots -/
abbrev s__law_right : Stmt := topS 74
abbrev n__law_right : List Str := ["_law_told_here", "_law_leads_here", "_law_found", "_law_one", "_law_other", "_law_spots"]
theorem sc__law_right : FnScope n__law_right ["_law_told_here", "_law_leads_here", "_law_found", "_law_one", "_law_other"] (defScope s__law_right) := ⟨rfl, rfl, rfl, by decide +kernel, rfl, by decide +kernel, by decide +kernel⟩
abbrev RtI := Fo × Str × Str × Nat × BS × Option (List Str)
def toldR (i : RtI) : Dt := match i.2.2.2.2.2 with
  | some row => .tup [.str "row", strsD row]
  | none => .tup [.str "none", strsD ((opens i.1).filter fun n => decide (n ∈ keys i.2.2.2.2.1))]
structure RtOk (i : RtI) : Prop where
  ok : Okf i.1
  one : i.2.1 ∈ opens i.1
  other : i.2.2.1 ∈ opens i.1
  lay : LOk i.1 i.2.1 i.2.2.2.1
  k41 : i.2.2.2.1 ≤ 41
  rows : ROk i.1 i.2.1 i.2.2.2.2.1
  row : ∀ row, i.2.2.2.2.2 = some row → (i.2.2.1, row) ∈ i.2.2.2.2.1
  out : i.2.2.2.2.2 = none → i.2.2.1 ∉ keys i.2.2.2.2.1
abbrev layersL (s : Fo) (one : Str) (k : Nat) : List (List Str) := (List.range k).map (layer s one)
theorem spot_range (s : Fo) (one : Str) (k : Nat) (m : Str) : spotL (layersL s one k) m = (List.range k).filter fun i => decide (m ∈ layer s one i) := by
  have e : ∀ n st, ((List.range' st n).map (layer s one)).zipIdx st = (List.range' st n).map fun i => (layer s one i, i) := by
    intro n
    induction n with
    | zero => intro st; rfl
    | succ n ih =>
      intro st
      rw [List.range'_succ, List.map_cons, List.zipIdx_cons, ih]
      rfl
  unfold spotL layersL
  rw [List.range_eq_range', e, List.filter_map, List.map_map]
  show List.map (fun i => i) _ = _
  rw [List.map_id']
  rfl
theorem filter_one {k d : Nat} (h : d < k) : (List.range k).filter (fun i => decide (i = d)) = [d] := by
  have e : ∀ n, (List.range n).filter (fun i => decide (i = d)) = if d < n then [d] else [] := by
    intro n
    induction n with
    | zero => rfl
    | succ n ih =>
      rw [List.range_succ, List.filter_append, ih]
      by_cases q : n = d
      · subst q
        simp
      · by_cases g : d < n
        · rw [if_pos g, if_pos (by omega)]; simp [q]
        · rw [if_neg g, if_neg (by omega)]; simp [q]
  rw [e, if_pos h]
theorem spots_row {i : RtI} (h : RtOk i) {row : List Str} (hr : i.2.2.2.2.2 = some row) : spotL (layersL i.1 i.2.1 i.2.2.2.1) i.2.2.1 = [row.length] := by
  have hm := h.row row hr
  have sp : ∀ j, i.2.2.1 ∈ layer i.1 i.2.1 j ↔ j = row.length := fun j => spot_in h.ok h.one h.rows hm j
  rw [spot_range]
  have : (fun j => decide (i.2.2.1 ∈ layer i.1 i.2.1 j)) = fun j => decide (j = row.length) := funext fun j => decide_eq_decide.mpr (sp j)
  rw [this]
  exact filter_one (h.lay.lt ((sp row.length).mpr rfl))
theorem spots_none {i : RtI} (h : RtOk i) (hr : i.2.2.2.2.2 = none) : spotL (layersL i.1 i.2.1 i.2.2.2.1) i.2.2.1 = [] := by
  rw [spot_range, List.filter_eq_nil_iff]
  intro j _ q
  exact spot_out h.ok h.one h.rows (h.out hr) j (of_decide_eq_true q)
theorem toP_nats (ns : List Nat) : toP (.lst (ns.map fun j => .int ((j : Nat) : Int))) = PySem.W.Datum.toD (ns.map fun j => ((j : Nat) : Int)) := by
  have := toP_intsL (ns.map fun j => ((j : Nat) : Int))
  rw [List.map_map] at this
  exact this
abbrev spRight (K : PySem.W.Frag) : Sp := spI K 5 (fun i : RtI => [toldR i, leadsD i.1, .lst ((layersL i.1 i.2.1 i.2.2.2.1).map strsD), .str i.2.1, .str i.2.2.1]) RtOk (fun _ d => d = .bl true)
theorem ok__law_right (D : Df K mg "_law_right" s__law_right ["_law_told_here", "_law_leads_here", "_law_found", "_law_one", "_law_other"]) (T : Tx K w mg) {k : Nat} (C__law_spot : Cal P w K mg base k "_law_spot" (spSpot K)) (C__law_leads : Cal P w K mg base k "_law_leads" (spLeads K)) (C__law_shut_out : Cal P w K mg base k "_law_shut_out" (spShut K)) : Cal P w K mg base (k + 1) "_law_right" (spRight K) := by
  refine D.cal sc__law_right rfl fun f cdv A outer s H E hr => ?_
  have sc := sc__law_right
  have hr__law_spot := hr
  have hr__law_leads := hr
  have hr__law_shut_out := hr
  refine ⟨_, ((pss_cons (ps_set (i := 5) sc.nd rfl (.inl rfl) (pe_cal C__law_spot hr__law_spot (pa_cons (pv 2) (pa_cons (pv 4) pa_nil)))) (pss_cons (ps_if (pt_cmpR op_eq (pe_ix (ixT K rfl) (pv 0) pe_int (fun _ _ => rfl)) pe_str (nomark _))
      (pss_one (ps_ret (pe_and (pe_cmpR (eqPK K rfl hr.units) (pv 5) (pe_lst (pa_cons (pe_callB (lenK K rfl) (by rfl) T.len (by decide +kernel) (pa_cons (pe_ix (ixT K rfl) (pv 0) pe_int (fun _ _ => rfl)) pa_nil)) pa_nil)) (nomark _)) (pe_one (pe_cal C__law_leads hr__law_leads (pa_cons (pv 1) (pa_cons (pv 3) (pa_cons (pv 4) (pa_cons (pe_ix (ixT K rfl) (pv 0) pe_int (fun _ _ => rfl)) pa_nil)))))))))
      pss_nil) (pss_one (ps_ret (pe_and (pe_cmpR (eqPK K rfl hr.units) (pv 5) (pe_lst pa_nil) (nomark _)) (pe_one (pe_cal C__law_shut_out hr__law_shut_out (pa_cons (pv 1) (pa_cons (pe_ix (ixT K rfl) (pv 0) pe_int (fun _ _ => rfl)) (pa_cons (pv 3) (pa_cons (pv 4) pa_nil)))))))))))), ?_⟩
  rintro B H' i h
  have hk : (layersL i.1 i.2.1 i.2.2.2.1).length ≤ 1000 := by
    have := h.k41
    rw [List.length_map, List.length_range]
    omega
  refine rn_seq (rn_asg (ev_call (layersL i.1 i.2.1 i.2.2.2.1, i.2.2.1) (ea_cons (ev_var rfl) (ea_cons (ev_var rfl) ea_nil)) hk) ?_)
  cases hr2 : i.2.2.2.2.2 with
  | some row =>
    have et : toldR i = .tup [.str "row", strsD row] := by unfold toldR; rw [hr2]
    have hm := h.row row hr2
    have hg := (h.rows.go _ hm).1
    dsimp only
    rw [spots_row h hr2, et]
    refine rn_seq (rn_if (b := true) ((et_test (ev_eqS (ev_ixT (ev_var rfl) ev_int rfl) ev_str)).is (by simp)) (fun _ => ?_) (fun z => by cases z))
    refine rn_ret ((ev_and (a := true) (b := true) ((ev_eqU (a := [((row.length : Nat) : Int)]) (b := [((row.length : Nat) : Int)]) (ev_var rfl) (el_lst (ea_cons (d := .int ((row.length : Nat) : Int)) ((ev_lenL (rd_d (ev_ixT (d := strsD row) (ev_var rfl) ev_int rfl))).is (by rw [List.length_map])) ea_nil)).fz (toP_nats [row.length]) (toP_nats [row.length])).is (by simp)) (fun _ => ev_call (i.1, i.2.1, i.2.2.1, row) (ea_cons (ev_var rfl) (ea_cons (ev_var rfl) (ea_cons (ev_var rfl) (ea_cons (ev_ixT (ev_var rfl) ev_int rfl) ea_nil)))) ⟨h.ok, h.one, hg⟩)).is rfl) rfl
  | none =>
    have et : toldR i = .tup [.str "none", strsD ((opens i.1).filter fun n => decide (n ∈ keys i.2.2.2.2.1))] := by unfold toldR; rw [hr2]
    have hout := h.out hr2
    dsimp only
    rw [spots_none h hr2, et]
    refine rn_seq (rn_if (b := false) ((et_test (ev_eqS (ev_ixT (ev_var rfl) ev_int rfl) ev_str)).is (by decide +kernel)) (fun z => by cases z) (fun _ => rn_next ?_))
    refine rn_ret ((ev_and (a := true) (b := true) ((ev_eqU (a := ([] : List Str)) (b := ([] : List Str)) (ev_var rfl) (el_lst ea_nil).fz rfl rfl).is (by simp)) (fun _ => ev_call (i.1, (opens i.1).filter (fun n => decide (n ∈ keys i.2.2.2.2.1)), i.2.1, i.2.2.1) (ea_cons (ev_var rfl) (ea_cons (ev_ixT (ev_var rfl) ev_int rfl) (ea_cons (ev_var rfl) (ea_cons (ev_var rfl) ea_nil)))) ⟨h.ok, ?_, ?_, ?_⟩)).is rfl) rfl
    · have : i.2.1 ∈ keys i.2.2.2.2.1 := by
        obtain ⟨q, h1, h2, _⟩ := h.rows.all 0 i.2.1 rfl
        exact List.mem_map.mpr ⟨q, h1, h2⟩
      exact List.mem_filter.mpr ⟨h.one, decide_eq_true this⟩
    · intro hmem
      exact hout (of_decide_eq_true (List.mem_filter.mp hmem).2)
    · intro n hn
      obtain ⟨h1, h2⟩ := List.mem_filter.mp hn
      refine ⟨h1, fun m hm => List.mem_filter.mpr ⟨nbr_open h.ok hm, decide_eq_true (keys_closed h.ok h.rows (of_decide_eq_true h2) hm)⟩⟩
end
end FW
set_option maxHeartbeats 4000000
/-! a row or a refusal, caught -/
namespace FW
open PySem PySem.Spec PyProof.Rows L2 FZ
section
variable {P : Program} {w : World} {K : PySem.W.Frag} {mg : Str → Option Value} {base : Heap} {C : Addr}
structure ToldOk (i : Fo × Str × Str) (b : BS) (ro : Option (List Str)) : Prop where
  rows : ROk i.1 i.2.1 b
  row : ∀ row, ro = some row → (i.2.2, row) ∈ b
  out : ro = none → i.2.2 ∉ keys b
abbrev toldV (i : Fo × Str × Str) (b : BS) (ro : Option (List Str)) : Dt := toldR (i.1, i.2.1, i.2.2, 0, b, ro)
def tSuite (C : Addr) : Addr → Value → Option Addr → TS := fun a cls d => tAsg (tTup (tCons (tC (.str "none")) (tCons (tXf a cls d C "names" (tVar 4)) tNil))) (gName 3)
def tBody (K : PySem.W.Frag) (C : Addr) (tas : TA) : WX → TS := fun W => tAsg (tTup (tCons (tC (.str "row")) (tCons (tCallS (spRowTo K C) (WE W) tas) tNil))) (gName 3)
theorem rn_try (T : TxE K mg C) {F : Fr} {sl : List FZ.Slot} {tas : TA} {Po : FZ.Po} (i : Fo × Str × Str) (ha : EvAs K F sl tas (toI i)) (hp : toPre i) (h4 : sl[4]? = some .un) (h3 : ∃ s, sl[3]? = some s) (k : ∀ b ro, ToldOk i b ro → Po.nx (sl.set 3 (.fz (toldV i b ro)))) :
    Rn K F sl (fun D σ H => tBody K C tas (wAs K (.ref C) 4 (tSuite C) (fun _ _ _ _ => False) D) D σ H) Po := fun σ B H Y a t => by
  have hl3 : 3 < sl.length := ix_lt h3
  have h4' : ∀ s, (sl.set 3 s)[4]? = some .un := fun s => by rw [List.getElem?_set_ne (by decide)]; exact h4
  refine ha σ B H a _ fun vs B1 H1 a1 e1 x1 => ⟨B1, i, a1.bh, x1, hp, fun b row v B' H' R hr st b' dv => ?_, fun b B' H' dd y R ho st b' hx dy => ?_⟩
  · refine ⟨by show 2 ≤ sizeLine; decide, fun p hp => ?_⟩
    obtain ⟨a3, e3⟩ := (a1.to st b').new' (o := .tup [.str "row", v]) hp
    have a4 := a3.set (i := 3) (v := .ref p) (d := toldV i b (some row)) hl3 (.tup (SqT.of upd_same) (.cons (.str _) (.cons (dv.up e3.e) .nil)))
    exact t.nx _ _ _ _ (k b (some row) ⟨R, (fun r e => by cases e; exact hr), fun e => by cases e⟩) a4 (e1.e.trans (st.e.trans e3.e))
  · refine ⟨true, T.te, fun _ a0 ha0 => ?_, fun z => by cases z⟩
    have hl4 : 4 < σ.length := by rw [a.len]; exact (List.getElem?_eq_some_iff.mp h4).1
    refine ⟨.ref a0, List.getElem?_set_self hl4, rfl, rfl, dd, [("names", y)], y, rfl, hx, by simp [List.lookup], by show 2 ≤ sizeLine; decide, fun p hp => ?_⟩
    obtain ⟨a3, e3⟩ := (a1.to st b').new' (o := .tup [.str "none", y]) hp
    have a4 := a3.set (i := 3) (v := .ref p) (d := toldV i b none) hl3 (.tup (SqT.of upd_same) (.cons (.str _) (.cons (dy.up e3.e) .nil)))
    have a5 : SA K F (sl.set 3 (.fz (toldV i b none))) (((σ.set 4 (some (.ref a0))).set 3 (some (.ref p))).set 4 none) _ _ := a4.reun (j := 4) (h4' _) (by simp) (fun j hj => by
      rw [List.set_comm _ _ (show 4 ≠ 3 by decide), List.set_set, List.getElem?_set_ne (Ne.symm hj)])
    exact t.nx _ _ _ _ (k b none ⟨R, (fun r e => by cases e), fun _ => ho⟩) a5 (e1.e.trans (st.e.trans e3.e))
/-! _law_told: slots 0 _law_sheet, 1 _law_one, 2 _law_other, 3 _law_told_here, 4 e -/
abbrev s__law_told : Stmt := topS 70
abbrev n__law_told : List Str := ["_law_sheet", "_law_one", "_law_other", "_law_told_here", "e"]
theorem sc__law_told : FnScope n__law_told ["_law_sheet", "_law_one", "_law_other"] (defScope s__law_told) := ⟨rfl, rfl, rfl, by decide +kernel, rfl, by decide +kernel, by decide +kernel⟩
abbrev spTold (K : PySem.W.Frag) : Sp := spI K 3 toI toPre (fun i d => ∃ b ro, ToldOk i b ro ∧ d = toldV i b ro)
theorem ok__law_told (D : Df K mg "_law_told" s__law_told ["_law_sheet", "_law_one", "_law_other"]) (T : TxE K mg C) {k : Nat} (C_row_to : CalX P w K mg base k "row_to" (spRowTo K C)) : Cal P w K mg base (k + 1) "_law_told" (spTold K) := by
  obtain ⟨fR, fdR, psR, GR, hmR, kpR, bR⟩ := C_row_to.ex
  refine D.cal sc__law_told rfl fun f cdv A outer s H E hr => ?_
  have sc := sc__law_told
  refine ⟨_, pss_cons (ps_set (i := 3) sc.nd rfl (.inl rfl) pe_non) (pss_cons (ps_try_as (i := 4) (tb := tBody K C (tCons (tVar 0) (tCons (tVar 1) (tCons (tVar 2) tNil)))) (ts := tSuite C) (Wout := fun _ _ _ _ => False) rfl rfl sc.nd rfl rfl ⟨rfl, by decide, Or.inl T.gC⟩ takes0
    (fun W pn xe tk _ => pss_one (ps_set (i := 3) sc.nd rfl (.inl rfl) (by exact (pe_tup (pa_cons pe_str (pa_cons (pe_callS GR hr rfl hmR kpR bR (fun σ => passAt tk σ) (by exact (pa_cons (pv 0) (pa_cons (pv 1) (pa_cons (pv 2) pa_nil))))) pa_nil))))))
    (fun a oe cls d pn hz hf => pss_one (ps_set (i := 3) sc.nd rfl (.inl rfl) (by exact (pe_tup (pa_cons pe_str (pa_cons (pe_xf T.xf T.nb hz hf (pv 4)) pa_nil))))))) (pss_one (ps_ret (pv 3)))), ?_⟩
  rintro B H' i hp
  refine rn_seq (rn_asg ev_non ?_)
  refine rn_seq (rn_try T i (ea_cons (ev_var rfl) (ea_cons (ev_var rfl) (ea_cons (ev_var rfl) ea_nil))) hp rfl ⟨_, rfl⟩ fun b ro h => ?_)
  exact rn_ret (ev_var rfl) ⟨b, ro, h, rfl⟩
end
end FW
set_option maxHeartbeats 4000000
/-! a row is made, told, and may get its head: the list stands open between -/
namespace FW
open PySem PySem.Spec PyProof.Rows L2 FZ
def encRl (r : Rw) : List Dt := [.int (r.deep : Nat), .str r.p.name, boxD r.p.box, .str r.p.word, .int r.p.rank, r.p.head]
section
variable {K : PySem.W.Frag} {F : Fr} {sl : List FZ.Slot}
abbrev t_window (K : PySem.W.Frag) (tas : TA) (t3 : TE) : TS :=
  tSeq (tDrop (tBM K "list" rAppend (tVar 7) (tCons (tLst tas) tNil)))
    (tSeq (tAsg (tCall (spDraw K) [] E0 (tCons (tVar 0) (tCons t3 tNil))) (gName 12))
      (tIfS (tAnd (tTest (tOp (rI0 fun i j => .bl (decide (i < j))) (tVar 12) (tVar 9))) (tTest (tOp (rIn K true) (tVar 12) (tCall (spAbove K) [] E0 (tCons (tVar 7) (tCons (tVar 9) tNil))))))
        (tAsg (tOp (rIxL K) (tVar 3) (tVar 12)) (gSub (tOp (rIxL K) (tVar 7) (tVar 9)) (tC (.int 5)) rSetL)) tNext))
theorem rn_window {a : Addr} {n n1 : Nat} {rs : List Rw} {ns : List Str} {dN : Nat} {nm : Str} {tas : TA} {t3 : TE} {i3 : Int} {Po : FZ.Po} (hW : ∀ x, F.W x → x = a) (h0 : sl[0]? = some (.fd a n)) (h7 : sl[7]? = some (.ow (rs.map encR))) (h3 : sl[3]? = some (.fz (strsD ns))) (h9 : sl[9]? = some (.fz (.int (rs.length : Nat)))) (h12 : ∃ s, sl[12]? = some s ∧ s.own = false)
    (hn : rs.length ≤ 90) (hns : rs.length ≤ ns.length) (hA : EvFL K F sl (tLst tas) (sl.set 0 (.fd a n1)) a (fun ds => ∃ rw : Rw, rw.deep = dN ∧ rw.p.name = nm ∧ encRl rw = ds)) (h3e : ∀ s, EvD K F (((sl.set 0 (.fd a n1)).set 7 s)) t3 (.int i3)) (hi1 : 1 ≤ i3) (hi2 : i3 < 1073741824) (hm : n1 + 1 ≤ 100000)
    (kk : ∀ (hd : Int) (rw : Rw), rw.deep = dN → rw.p.name = nm → Po.nx (((((sl.set 0 (.fd a n1)).set 7 .un).set 0 (.fd a (n1 + 1))).set 12 (.fz (.int hd))).set 7 (.ow ((rs ++ [rw]).map encR)))) :
    Rn K F sl (t_window K tas t3) Po := fun σ B H Y s t => by
  obtain ⟨s12, h12, ho12⟩ := h12
  have i12 : 12 < sl.length := (List.getElem?_eq_some_iff.mp h12).1
  obtain ⟨o, eo7, l, xs, rfl, hl, hx⟩ := s.ok 7 _ h7
  obtain ⟨o0, eo0, a', ks0, rfl, ha0, _, rfl⟩ := s.ok 0 _ h0
  have la : l ≠ a' := fun z => by rw [z, ha0] at hl; cases hl
  have hw7 := s.ow 7 _ l h7 rfl eo7
  have h0l : F.H0 l = none := hw7.2.resolve_right fun w => la (hW l w)
  refine ⟨.ref l, eo7, .inl ⟨rfl, xs, SqL.of hl⟩, ?_⟩
  refine hA σ B H s _ fun ds r ys B1 H1 p1 s1 e1 hr yr br hr0 hno => ?_
  obtain ⟨rw0, rd, rn, rfl⟩ := p1
  have rl : r ≠ l := fun z => by rw [z, hl] at hr0; cases hr0
  have ra : r ≠ a' := fun z => by rw [z, ha0] at hr0; cases hr0
  have h0r : F.H0 r = none := s.h0free hr0
  have hl1 : H1 l = some (.lst xs) := e1.g l _ la hl
  have bl0 : B l = none := hw7.1
  have bl1 : B1 l = none := e1.n l (by rw [hl]; exact fun z => nomatch z) bl0
  have hx1 := hx.up e1.e
  have hxl : xs.length = rs.length := by rw [hx.len, List.length_map]
  have s7 : (sl.set 0 (.fd a' n1))[7]? = some (.ow (rs.map encR)) := by rw [List.getElem?_set_ne (by decide)]; exact h7
  refine ⟨l, xs, .ref r, rfl, rfl, hl1, ?_, ?_⟩
  · rw [hxl]; exact Nat.lt_of_le_of_lt hn (by decide)
  -- the list told; its slot is given up for a while
  have s1w : SA K F ((sl.set 0 (.fd a' n1)).set 7 .un) σ B1 H1 := s1.weak ⟨by simp only [List.length_set], fun j q hq => by
    by_cases z : 7 = j
    · subst z
      rw [List.getElem?_set_self (by rw [List.length_set]; exact (List.getElem?_eq_some_iff.mp h7).1)] at hq
      cases hq
      exact .inl rfl
    · rw [List.getElem?_set_ne z] at hq
      exact .inr hq⟩
  have noL : ∀ (j : Nat) (q : FZ.Slot), ((sl.set 0 (.fd a' n1)).set 7 .un)[j]? = some q → q.own = true → σ[j]? ≠ some (some (.ref l)) := fun j q hq ho e => by
    by_cases z : 7 = j
    · subst z
      rw [List.getElem?_set_self (by rw [List.length_set]; exact (List.getElem?_eq_some_iff.mp h7).1)] at hq
      cases hq
      cases ho
    · rw [List.getElem?_set_ne z] at hq
      exact z (s1.dis 7 j _ q l s7 hq rfl ho eo7 e)
  have noR : ∀ (j : Nat) (q : FZ.Slot), ((sl.set 0 (.fd a' n1)).set 7 .un)[j]? = some q → q.own = true → σ[j]? ≠ some (some (.ref r)) := fun j q hq ho => by
    by_cases z : 7 = j
    · subst z
      rw [List.getElem?_set_self (by rw [List.length_set]; exact (List.getElem?_eq_some_iff.mp h7).1)] at hq
      cases hq
      cases ho
    · rw [List.getElem?_set_ne z] at hq
      exact hno j q hq ho
  have s2 : SA K F ((sl.set 0 (.fd a' n1)).set 7 .un) σ B1 (upd H1 l (.lst (xs ++ [.ref r]))) := s1w.mutOut bl1 h0l noL
  have f0 : ((sl.set 0 (.fd a' n1)).set 7 .un)[0]? = some (.fd a' n1) := by
    rw [List.getElem?_set_ne (by decide)]
    exact List.getElem?_set_self (List.getElem?_eq_some_iff.mp h0).1
  refine ef_draw (j := 0) f0 (h3e .un) hi1 hi2 hm σ B1 _ s2 _ fun d v B3 H3 p3 s3 e3 dv => ?_
  obtain ⟨hd, rfl, hd0, hd1⟩ := p3
  cases dv
  have s4 := s3.set (i := 12) (v := .int hd) (d := .int hd) (by simp only [List.length_set]; exact i12) (.int _)
  have hl3 : H3 l = some (.lst (xs ++ [.ref r])) := e3.g l _ la upd_same
  have hr3 : H3 r = some (.lst ys) := e3.g r _ ra (by rw [upd_ne rl]; exact hr)
  have bl3 : B3 l = none := e3.n l (by rw [upd_same]; exact fun z => nomatch z) bl1
  have br3 : B3 r = none := e3.n r (by rw [upd_ne rl, hr]; exact fun z => nomatch z) br
  have hx3 := hx1.up e3.e
  have yr3 := yr.up e3.e
  generalize hs4 : ((((sl.set 0 (.fd a' n1)).set 7 .un).set 0 (.fd a' (n1 + 1))).set 12 (.fz (.int hd))) = sl4 at s4
  have hg : ∀ Q : L2.St → Hp → Prop, gName 12 (V.int hd) σ H3 Q = Q (σ.set 12 (some (V.int hd))) H3 := fun _ => rfl
  rw [hg]
  dsimp only
  generalize hσ4 : σ.set 12 (some (V.int hd)) = σ4 at s4 ⊢
  have g : ∀ j, j ≠ 0 → j ≠ 7 → j ≠ 12 → sl4[j]? = sl[j]? := fun j h1 h2 h3 => by
    rw [← hs4, List.getElem?_set_ne (Ne.symm h3), List.getElem?_set_ne (Ne.symm h1), List.getElem?_set_ne (Ne.symm h2), List.getElem?_set_ne (Ne.symm h1)]
  have own4 : ∀ (j : Nat) (q : FZ.Slot), sl4[j]? = some q → q.own = true → σ4[j]? = σ[j]? ∧ ∃ q', ((sl.set 0 (.fd a' n1)).set 7 .un)[j]? = some q' ∧ q'.own = true := fun j q hq ho => by
    by_cases z : 12 = j
    · subst z
      rw [← hs4, List.getElem?_set_self (by simp only [List.length_set]; exact i12)] at hq
      cases hq
      cases ho
    · rw [← hs4, List.getElem?_set_ne z] at hq
      refine ⟨by rw [← hσ4, List.getElem?_set_ne z], ?_⟩
      by_cases z0 : 0 = j
      · subst z0
        exact ⟨_, f0, rfl⟩
      · rw [List.getElem?_set_ne z0] at hq
        exact ⟨q, hq, ho⟩
  have noL4 : ∀ (j : Nat) (q : FZ.Slot), sl4[j]? = some q → q.own = true → σ4[j]? ≠ some (some (.ref l)) := fun j q hq ho => by
    obtain ⟨e, q', hq', ho'⟩ := own4 j q hq ho
    rw [e]; exact noL j q' hq' ho'
  have noR4 : ∀ (j : Nat) (q : FZ.Slot), sl4[j]? = some q → q.own = true → σ4[j]? ≠ some (some (.ref r)) := fun j q hq ho => by
    obtain ⟨e, q', hq', ho'⟩ := own4 j q hq ho
    rw [e]; exact noR j q' hq' ho'
  have h412 : sl4[12]? = some (.fz (.int hd)) := by rw [← hs4]; exact List.getElem?_set_self (by simp only [List.length_set]; exact i12)
  have h49 : sl4[9]? = some (.fz (.int (rs.length : Nat))) := by rw [g 9 (by decide) (by decide) (by decide)]; exact h9
  have h43 : sl4[3]? = some (.fz (strsD ns)) := by rw [g 3 (by decide) (by decide) (by decide)]; exact h3
  have σ47 : σ4[7]? = some (some (.ref l)) := by rw [← hσ4, List.getElem?_set_ne (by decide)]; exact eo7
  have i47 : 7 < sl4.length := by rw [← hs4]; simp only [List.length_set]; exact (List.getElem?_eq_some_iff.mp h7).1
  have val : ∀ {B' H' : Hp} {j : Nat} {i : Int}, SA K F sl4 σ4 B' H' → sl4[j]? = some (.fz (.int i)) → σ4[j]? = some (some (.int i)) := fun {B' H' j i} q h => by
    obtain ⟨o, e, v, ev, dv⟩ := q.ok j _ h
    cases dv
    rw [e, ev]
  -- the end
  have fin : ∀ {B5 H5 : Hp} {zs : List V} (rw' : Rw), rw'.deep = dN → rw'.p.name = nm → SA K F sl4 σ4 B5 H5 → Same B B5 → H5 l = some (.lst (xs ++ [.ref r])) → B5 l = none → H5 r = some (.lst zs) → B5 r = none → Ds K B5 zs (encRl rw') → Ds K B5 xs (rs.map encR) → Y.nx σ4 H5 := fun {B5 H5 zs} rw' k1 k2 q sb q1 q2 q3 q4 q5 q6 => by
    have e6 : Same B5 (upd B5 r (.lst zs)) := Same.new q4
    have s' := q.seal q4 q3 h0r noR4
    have dd : Ds K (upd B5 r (.lst zs)) (xs ++ [.ref r]) ((rs ++ [rw']).map encR) := by
      rw [List.map_append]
      exact (q6.up e6).app (.cons (.lst upd_same (q5.up e6)) .nil)
    have s'' := s'.setO (i := 7) (l := l) (s := .ow ((rs ++ [rw']).map encR)) i47 ⟨l, _, rfl, q1, dd⟩ (by rw [upd_ne (Ne.symm rl)]; exact q2) (.inl h0l) noL4
    have eσ : σ4.set 7 (some (.ref l)) = σ4 := by
      apply List.ext_getElem?
      intro j
      by_cases z : 7 = j
      · subst z
        rw [List.getElem?_set_self (by rw [q.len]; exact i47), σ47]
      · rw [List.getElem?_set_ne z]
    rw [eσ] at s''
    refine t.nx _ _ _ _ ?_ s'' (sb.trans e6)
    rw [← hs4]
    exact kk hd rw' k1 k2
  have sb3 : Same B B3 := e1.e.trans e3.e
  -- the test
  refine et_test (ev_lt (ev_var h412) (ev_var h49)) σ4 B3 H3 s4 _ fun B4 H4 s5 e5 => ?_
  have hl4 := e5.g _ _ hl3
  have hr4 := e5.g _ _ hr3
  have bl4 : B4 l = none := e5.n l (by rw [hl3]; exact fun z => nomatch z) bl3
  have br4 : B4 r = none := e5.n r (by rw [hr3]; exact fun z => nomatch z) br3
  have hx4 := hx3.up e5.e
  have yr4 := yr3.up e5.e
  have sb4 := sb3.trans e5.e
  by_cases hlt : hd < ((rs.length : Nat) : Int)
  · rw [decide_eq_true hlt, if_pos rfl]
    refine ⟨.int hd, val s5 h412, ⟨.ref l, σ47, ⟨.int (rs.length : Nat), val s5 h49, ?_⟩⟩⟩
    have eb1 : Same B4 (upd B4 r (.lst ys)) := Same.new br4
    have eb2 : Same (upd B4 r (.lst ys)) (upd (upd B4 r (.lst ys)) l (.lst (xs ++ [.ref r]))) := Same.new (by rw [upd_ne (Ne.symm rl)]; exact bl4)
    have eb := eb1.trans eb2
    have bsame : Same (upd (upd B4 r (.lst ys)) l (.lst (xs ++ [.ref r]))) H4 := fun x u q => by
      by_cases z : x = l
      · subst z; rw [upd_same] at q; cases q; exact hl4
      · rw [upd_ne z] at q
        by_cases z2 : x = r
        · subst z2; rw [upd_same] at q; cases q; exact hr4
        · rw [upd_ne z2] at q; exact s5.bh x u q
    refine ⟨_, (rs ++ [rw0], rs.length), bsame, .cons (.lst upd_same ?_) (.cons (.int _) .nil), rfl, ⟨by simp, by simp; omega⟩, fun v d B' H' st b' dv po => ?_⟩
    · rw [List.map_append]
      refine (hx4.up eb).app (.cons (.lst (a := r) (xs := ys) ?_ (yr4.up eb)) .nil)
      rw [upd_ne rl]; exact upd_same
    · subst po
      cases dv with
      | @lst q zs _ hq hz =>
        have ez : zs = (((above (rs ++ [rw0]) rs.length).map fun j => ((j : Nat) : Int))).map V.int := Ds.ints (ns := (above (rs ++ [rw0]) rs.length).map fun j => ((j : Nat) : Int)) (by rw [List.map_map]; exact hz)
        subst ez
        refine ⟨q, _, rfl, .inl (SqL.of (b' _ _ hq)), rfl, flat_ints _, _, rfl, ?_⟩
        have s6 : SA K F sl4 σ4 B4 H' := s5.to ⟨Same.refl B4, st.g, fun _ _ b => b⟩ (s5.bh.trans st.g)
        have hl6 := st.g _ _ hl4
        have hr6 := st.g _ _ hr4
        generalize (if true = true then !inV (V.int hd) _ else _ : Bool) = bb
        cases bb with
        | false =>
          dsimp only
          rw [if_neg Bool.false_ne_true]
          exact fin rw0 rd rn s6 sb4 hl6 bl4 hr6 br4 yr4 hx4
        | true =>
          dsimp only
          rw [if_pos rfl]
          obtain ⟨hn', rfl⟩ : ∃ hn' : Nat, hd = (hn' : Int) := ⟨hd.toNat, by omega⟩
          have hnl : hn' < ns.length := by omega
          refine ev_ixL (d := .str ns[hn']) (rd_var h43) (ev_var h412) (FZ.atI_nat (by rw [List.getElem?_map, List.getElem?_eq_getElem hnl]; rfl)) σ4 B4 H' s6 _ fun v7 B7 H7 s7' e7 dv7 => ?_
          have hl7 := e7.g _ _ hl6
          have hr7 := e7.g _ _ hr6
          have bl7 : B7 l = none := e7.n l (by rw [hl6]; exact fun z => nomatch z) bl4
          have br7 : B7 r = none := e7.n r (by rw [hr6]; exact fun z => nomatch z) br4
          have hyl : ys.length = 6 := yr.len
          refine ⟨.ref l, σ47, .int (rs.length : Nat), val s7' h49, l, _, _, .ref r, rfl, rfl, SqL.of hl7, FZ.atI_nat (by rw [← hxl, List.getElem?_append_right (Nat.le_refl _), Nat.sub_self]; rfl), r, ys, 5, 5, rfl, rfl, hr7, by rw [hyl]; rfl, ?_⟩
          have s8 := s7'.mutOut (o := .lst (ys.set 5 v7)) br7 h0r noR4
          exact fin { rw0 with p := { rw0.p with head := .str ns[hn'] } } rd rn s8 (sb4.trans e7.e) (by rw [upd_ne (Ne.symm rl)]; exact hl7) bl7 upd_same br7 ((yr4.up e7.e).set dv7 5) (hx4.up e7.e)
  · rw [decide_eq_false hlt, if_neg Bool.false_ne_true]
    dsimp only
    rw [if_neg Bool.false_ne_true]
    exact fin rw0 rd rn s5 sb4 hl4 bl4 hr4 br4 yr4 hx4
end
end FW
set_option maxHeartbeats 8000000
/-! the law's rows -/
namespace FW
open PySem PySem.Spec PyProof.Rows L2 FZ
def dInv (rs : List Rw) (deep : Int) : Prop := (rs = [] ∧ deep = -1) ∨ ∃ pre x, rs = pre ++ [x] ∧ deep = ((x.deep : Nat) : Int)
theorem dInv.ge {rs : List Rw} {deep : Int} (h : dInv rs deep) : -1 ≤ deep := by
  rcases h with ⟨_, h⟩ | ⟨_, x, _, h⟩ <;> omega
theorem wf_nil : Wf 0 [] := by
  refine ⟨fun r h => ?_, fun r rest e => ?_, fun pre a b post e => ?_⟩
  · cases h
  · cases e
  · simp at e
theorem wf_snoc {rs : List Rw} {deep : Int} {r : Rw} (h : Wf 0 rs) (d : dInv rs deep) (hr : ((r.deep : Nat) : Int) ≤ deep + 1) : Wf 0 (rs ++ [r]) := by
  refine ⟨fun x _ => Nat.zero_le _, fun x rest e => ?_, fun pre a b post e => ?_⟩
  · cases rs with
    | nil =>
      simp only [List.nil_append, List.cons.injEq] at e
      rcases d with ⟨_, d⟩ | ⟨pre, y, e2, _⟩
      · rw [← e.1]; omega
      · simp at e2
    | cons y rs =>
      simp only [List.cons_append, List.cons.injEq] at e
      rw [← e.1]
      exact h.hd y rs rfl
  · rcases List.eq_nil_or_concat post with q | ⟨p', z, q⟩
    · subst q
      have e : rs ++ [r] = (pre ++ [a]) ++ [b] := by rw [e]; simp
      obtain ⟨e1, e2⟩ := List.append_inj' e rfl
      have e2 : r = b := by simpa using e2
      subst e2
      rcases d with ⟨d, _⟩ | ⟨p2, y, e3, e4⟩
      · rw [d] at e1; simp at e1
      · rw [e3] at e1
        obtain ⟨_, e5⟩ := List.append_inj' e1 rfl
        have e5 : y = a := by simpa using e5
        subst e5
        omega
    · subst q
      have e : rs ++ [r] = (pre ++ a :: b :: p') ++ [z] := by rw [e]; simp
      obtain ⟨e1, _⟩ := List.append_inj' e rfl
      exact h.step pre a b p' e1
section
variable {P : Program} {w : World} {K : PySem.W.Frag} {mg : Str → Option Value} {base : Heap}
/-! _law_rows: slots 0 _law_feed_here, 1 _law_most, 2 _law_many, 3 _law_names_here, 4 _law_style, 5 _law_scale_here, 6 _law_flat, 7 _law_rows_here, 8 _law_deep, 9 _law_k, 10 _law_word, 11 _law_rank, 12 _law_head -/
abbrev s__law_rows : Stmt := topS 65
abbrev n__law_rows : List Str := ["_law_feed_here", "_law_most", "_law_many", "_law_names_here", "_law_style", "_law_scale_here", "_law_flat", "_law_rows_here", "_law_deep", "_law_k", "_law_word", "_law_rank", "_law_head"]
theorem sc__law_rows : FnScope n__law_rows ["_law_feed_here", "_law_most"] (defScope s__law_rows) := ⟨rfl, rfl, rfl, by decide +kernel, rfl, by decide +kernel, by decide +kernel⟩
def isRows (d : Dt) : Prop := ∃ rs : List Rw, rs.length ≤ 5 ∧ Wf 0 rs ∧ (rs.map (·.p.name)).Nodup ∧ d = rowsL rs
abbrev spRowsL (K : PySem.W.Frag) : Sp := spF K 1 (fun _ : Unit => [.int 5]) (fun _ => True) (fun _ => 300) (fun _ d => isRows d)
theorem ok__law_rows (D : Df K mg "_law_rows" s__law_rows ["_law_feed_here", "_law_most"]) (T : Tx K w mg) {k : Nat} (C__law_draw : Cal P w K mg base k "_law_draw" (spDraw K)) (C__law_names : Cal P w K mg base k "_law_names" (spNames K)) (C__law_scale : Cal P w K mg base k "_law_scale" (spScale K)) (C__law_scaled : Cal P w K mg base k "_law_scaled" (spScaled K)) (C__law_box : Cal P w K mg base k "_law_box" (spBox K)) (C__law_above : Cal P w K mg base k "_law_above" (spAbove K)) : Cal P w K mg base (k + 1) "_law_rows" (spRowsL K) := by
  refine D.calF sc__law_rows rfl fun f cdv A outer s H E hr => ?_
  have sc := sc__law_rows
  have hr__law_draw := hr
  have hr__law_names := hr
  have hr__law_scale := hr
  have hr__law_scaled := hr
  have hr__law_box := hr
  have hr__law_above := hr
  refine ⟨_, ((pss_cons (ps_set (i := 2) sc.nd rfl (.inl rfl) (pe_cal C__law_draw hr__law_draw (pa_cons (pv 0) (pa_cons (pe_op op_add (pv 1) pe_int) pa_nil)))) (pss_cons (ps_set (i := 3) sc.nd rfl (.inl rfl) (pe_cal C__law_names hr__law_names (pa_cons (pv 0) (pa_cons (pv 2) pa_nil)))) (pss_cons (ps_set (i := 4) sc.nd rfl (.inl rfl) (pe_cal C__law_draw hr__law_draw (pa_cons (pv 0) (pa_cons pe_int pa_nil)))) (pss_cons (ps_set (i := 5) sc.nd rfl (.inl rfl) (pe_cal C__law_scale hr__law_scale (pa_cons (pv 0) pa_nil))) (pss_cons (ps_set (i := 6) sc.nd rfl (.inl rfl) (pe_cal C__law_draw hr__law_draw (pa_cons (pv 0) (pa_cons pe_int pa_nil)))) (pss_cons (ps_set (i := 7) sc.nd rfl (.inl rfl) (pe_lst pa_nil)) (pss_cons (ps_set (i := 8) sc.nd rfl (.inl rfl) (pe_un un_neg pe_int)) (pss_cons (ps_for PassesOwn.never rfl (pi_range1 rfl T.range (pa_cons (pv 2) pa_nil)) (pg_name (i := 9) sc.nd rfl (.inl rfl))
      (pss_cons (ps_set (i := 8) sc.nd rfl (.inl rfl) (pe_op op_mul (pe_cal C__law_draw hr__law_draw (pa_cons (pv 0) (pa_cons (pe_callB (call_min2 rfl) (by rfl) T.min (by decide +kernel) (pa_cons (pe_op op_add (pv 8) pe_int) (pa_cons pe_int pa_nil))) pa_nil))) (pe_callTy call_int1 (by rfl) T.int (by decide +kernel) (pa_cons (pe_cmpR op_gt (pv 6) pe_int (nomark _)) pa_nil)))) (pss_cons (ps_set (i := 10) sc.nd rfl (.inl rfl) (pe_ix (ixL K rfl) (pe_lst (pa_cons pe_str (pa_cons pe_str (pa_cons pe_str (pa_cons pe_str (pa_cons pe_str (pa_cons pe_str (pa_cons pe_str (pa_cons pe_str pa_nil))))))))) (pe_cal C__law_draw hr__law_draw (pa_cons (pv 0) (pa_cons pe_int pa_nil))) (fun _ _ => rfl))) (pss_cons (ps_set (i := 11) sc.nd rfl (.inl rfl) (pe_ix (ixL K rfl) (pe_lst (pa_cons pe_int (pa_cons pe_int (pa_cons pe_int (pa_cons pe_int (pa_cons (pe_cal C__law_draw hr__law_draw (pa_cons (pv 0) (pa_cons pe_int pa_nil))) (pa_cons (pe_op op_add (pe_op op_pow pe_int pe_int) (pe_cal C__law_draw hr__law_draw (pa_cons (pv 0) (pa_cons pe_int pa_nil)))) pa_nil))))))) (pe_cal C__law_draw hr__law_draw (pa_cons (pv 0) (pa_cons pe_int pa_nil))) (fun _ _ => rfl))) (pss_cons (ps_expr (pbm K rfl PySem.F.plainAttrs_list PySem.F.slot_list_append PySem.F.type_list_append mt_append (pv 7) (pa_cons (pe_lst (pa_cons (pv 8) (pa_cons (pe_ix (ixL K rfl) (pv 3) (pv 9) (fun _ _ => rfl)) (pa_cons (pe_cal C__law_scaled hr__law_scaled (pa_cons (pe_cal C__law_box hr__law_box (pa_cons (pv 0) (pa_cons (pv 4) pa_nil))) (pa_cons (pv 5) pa_nil))) (pa_cons (pv 10) (pa_cons (pv 11) (pa_cons pe_non pa_nil))))))) pa_nil))) (pss_cons (ps_set (i := 12) sc.nd rfl (.inl rfl) (pe_cal C__law_draw hr__law_draw (pa_cons (pv 0) (pa_cons (pe_op op_add (pe_op op_mul pe_int (pv 9)) pe_int) pa_nil)))) (pss_one (ps_if (PW.pt (pw_and (pt_cmpR op_lt (pv 12) (pv 9) (nomark _)) (pw_and1 (pt_cmpR (niS K rfl) (pv 12) (pe_cal C__law_above hr__law_above (pa_cons (pv 7) (pa_cons (pv 9) pa_nil))) (by rfl)))))
      (pss_one (ps_asg (pe_ix (ixL K rfl) (pv 3) (pv 12) (fun _ _ => rfl)) (pg_sub (pe_ix (ixL K rfl) (pv 7) (pv 9) (fun _ _ => rfl)) pe_int set_list)))
      pss_nil)))))))) (pss_one (ps_ret (pv 7)))))))))))), ?_⟩
  rintro B H' l m u hp hm
  have hm : m + 300 ≤ 100000 := hm
  refine rn_seq (rn_asgF (ef_draw (j := 0) rfl (ev_add (ev_var rfl) ev_int) (by decide) (by decide) (by omega)) ?_)
  rintro _ ⟨many, rfl, m0, m1⟩
  obtain ⟨n, rfl⟩ : ∃ n : Nat, many = (n : Int) := ⟨many.toNat, by omega⟩
  have hn : n ≤ 5 := by omega
  refine rn_seq (rn_asgF (ef_callF (args := fun n : Nat => [.int (n : Nat)]) (pre := fun n => n ≤ 5) (c := fun _ => 20) (post := fun n d => ∃ ns : List Str, ns.length = n ∧ ns.Nodup ∧ d = strsD ns) (m := m + 1) n rfl (ea_cons (ev_var rfl) ea_nil) hn (show m + 1 + 20 ≤ 100000 by omega)) ?_)
  rintro _ ⟨ns, hnl, hnd, rfl⟩
  refine rn_seq (rn_asgF (ef_draw (j := 0) (m := m + 1 + 20) rfl ev_int (by decide) (by decide) (by omega)) ?_)
  rintro _ ⟨style, rfl, _, _⟩
  refine rn_seq (rn_asgF (ef_callF (args := fun _ : Unit => []) (pre := fun _ => True) (c := fun _ => 60) (post := fun _ d => isT3 d) (m := m + 1 + 20 + 1) () rfl ea_nil trivial (show m + 1 + 20 + 1 + 60 ≤ 100000 by omega)) ?_)
  rintro _ ⟨s1, s2, s3, rfl⟩
  refine rn_seq (rn_asgF (ef_draw (j := 0) (m := m + 1 + 20 + 1 + 60) rfl ev_int (by decide) (by decide) (by omega)) ?_)
  rintro _ ⟨flat, rfl, _, _⟩
  refine rn_seq (rn_asgL (el_lst ea_nil) ?_)
  refine rn_seq (rn_asg (ev_neg ev_int) ?_)
  refine rn_seq (rn_for (is_range1 (n := n) (ev_var rfl) (by omega)) (fun i s => ∃ (rs : List Rw) (deep : Int), rs.length = i ∧ Wf 0 rs ∧ rs.map (·.p.name) = ns.take i ∧ dInv rs deep ∧ Wk s [.fd l (m + 1 + 20 + 1 + 60 + 1 + i * 10), .fz (.int 5), .fz (.int (n : Nat)), .fz (strsD ns), .fz (.int style), .fz (.tup [.int s1, .int s2, .int s3]), .fz (.int flat), .ow (rs.map encR), .fz (.int deep), .un, .un, .un, .un]) ⟨[], -1, rfl, wf_nil, rfl, .inl ⟨rfl, rfl⟩, Wk.refl _⟩ (fun i d s hd hv => ?_) (fun s hv => ?_))
  · obtain ⟨rs, deep, hi0, wf, hnames, dI, wk⟩ := hv
    obtain ⟨hi, rfl⟩ := rangeD_get hd
    have dge := dI.ge
    subst hi0
    have hil : rs.length < ns.length := by omega
    refine ⟨_, _, _, wk, tg_name 9 _, by simp, ?_⟩
    -- deep
    refine rn_seq (rn_asgF (ef_op (S := fun z => 0 ≤ z ∧ z ≤ deep + 1) (ef_draw (j := 0) (m := m + 1 + 20 + 1 + 60 + 1 + rs.length * 10) rfl (ev_min (ev_add (ev_var rfl) ev_int) ev_int) (by split <;> omega) (by split <;> omega) (by omega)) (ef_i (ev_intB (ev_gt (ev_var rfl) ev_int))) (fun z b hz hb => ?_)) ?_)
    · have hz2 : z < deep + 2 := by
        have := hz.2
        split at this <;> omega
      refine ⟨mul_r (by rw [hb]; split <;> omega), ?_⟩
      rw [hb]
      split
      · rw [Int.mul_one]; omega
      · rw [Int.mul_zero]; omega
    rintro _ ⟨deep', rfl, dp0, dp1⟩
    obtain ⟨dN, rfl⟩ : ∃ dN : Nat, deep' = (dN : Int) := ⟨deep'.toNat, by omega⟩
    -- word
    refine rn_seq (rn_asgF (ef_ixL (R := fun ds => ds = [.str "free", .str "shut", .str "free", .str "free", .str "hidden", .str "free", .str "free", .str "free"]) (S := fun d => ∃ x : Str, d = .str x) (ef_imp (ef_d (el_lst (ea_cons ev_str (ea_cons ev_str (ea_cons ev_str (ea_cons ev_str (ea_cons ev_str (ea_cons ev_str (ea_cons ev_str (ea_cons ev_str ea_nil))))))))).fz) fun d e => ⟨_, e, rfl⟩) (ef_draw (j := 0) (m := m + 1 + 20 + 1 + 60 + 1 + rs.length * 10 + 1) rfl ev_int (by decide) (by decide) (by omega)) (fun ds i hd hi => ?_)) ?_)
    · subst hd
      have : i = 0 ∨ i = 1 ∨ i = 2 ∨ i = 3 ∨ i = 4 ∨ i = 5 ∨ i = 6 ∨ i = 7 := by omega
      rcases this with rfl | rfl | rfl | rfl | rfl | rfl | rfl | rfl <;> exact ⟨_, rfl, _, rfl⟩
    rintro _ ⟨word, rfl⟩
    -- rank
    refine rn_seq (rn_asgF (ef_ixL (R := fun ds => ∃ a b : Int, ds = [.int 0, .int 0, .int 1, .int 2, .int a, .int b]) (S := fun d => ∃ z : Int, d = .int z) (efl_lst (efa_d ev_int (efa_d ev_int (efa_d ev_int (efa_d ev_int (efa_cons (ef_draw (j := 0) (m := m + 1 + 20 + 1 + 60 + 1 + rs.length * 10 + 1 + 1) rfl ev_int (by decide) (by decide) (by omega)) fun _ ⟨a, ea, _⟩ => efa_cons (ef_op0 (S := fun _ => True) (ef_i (ev_pow ev_int ev_int ⟨by decide, by decide, by decide⟩)) (ef_draw (j := 0) (m := m + 1 + 20 + 1 + 60 + 1 + rs.length * 10 + 1 + 1 + 1) rfl ev_int (by decide) (by decide) (by omega)) (fun _ _ _ _ => trivial)) fun _ ⟨b, eb, _⟩ => efa_nil ⟨a, b, by rw [ea, eb]⟩))))) (fun ds ⟨a, b, e⟩ => by rw [e]; simp)).fz (ef_draw (j := 0) (m := m + 1 + 20 + 1 + 60 + 1 + rs.length * 10 + 1 + 1 + 1 + 1) rfl ev_int (by decide) (by decide) (by omega)) (fun ds i hd hi => ?_)) ?_)
    · obtain ⟨a, b, rfl⟩ := hd
      have : i = 0 ∨ i = 1 ∨ i = 2 ∨ i = 3 ∨ i = 4 ∨ i = 5 := by omega
      rcases this with rfl | rfl | rfl | rfl | rfl | rfl <;> exact ⟨_, rfl, _, rfl⟩
    rintro _ ⟨rank, rfl⟩
    -- the row
    refine rn_window (n1 := m + 1 + 20 + 1 + 60 + 1 + rs.length * 10 + 1 + 1 + 1 + 1 + 1 + 4) (rs := rs) (ns := ns) (dN := dN) (nm := ns[rs.length]) (i3 := 3 * ((rs.length : Nat) : Int) + 1) (fun _ h => h) rfl rfl rfl rfl ⟨_, rfl, rfl⟩ (by omega) (by omega) ?_ (fun s => ev_add (ev_mul ev_int (ev_var rfl) (mul_l (by decide))) ev_int) (by omega) (by omega) (by omega) (fun hd rw' h1 h2 => ?_)
    · refine efl_lst (efa_d (ev_var rfl) (efa_d (ev_ixL (d := .str ns[rs.length]) (rd_var rfl) (ev_var rfl) (FZ.atI_nat (by rw [List.getElem?_map, List.getElem?_eq_getElem hil]; rfl))) (efa_cons (P := fun d => ∃ b : B4, d = boxD b) (ef_call (efa_cons (ef_callF (args := fun i : Int => [.int i]) (pre := fun _ => True) (c := fun _ => 4) (post := fun _ d => isB4 d) (m := m + 1 + 20 + 1 + 60 + 1 + rs.length * 10 + 1 + 1 + 1 + 1 + 1) style rfl (ea_cons (ev_var rfl) ea_nil) trivial (show m + 1 + 20 + 1 + 60 + 1 + rs.length * 10 + 1 + 1 + 1 + 1 + 1 + 4 ≤ 100000 by omega)) fun _ ⟨b1, b2, b3, b4, eb, q1, q2, q3, q4⟩ => efa_d (ev_var rfl) (efa_nil ⟨(⟨b1, b2, b3, b4⟩, s1, s2, s3), by rw [eb]; rfl, rfl, ⟨q1, q2, q3, q4⟩, fun d h => h⟩))) fun _ ⟨b, eb⟩ => efa_d (ev_var rfl) (efa_d (ev_var rfl) (efa_d ev_non (efa_nil ⟨⟨dN, ⟨ns[rs.length], b, word, rank, .non⟩⟩, rfl, rfl, by rw [eb]; rfl⟩)))))) (fun ds ⟨rw', _, _, e⟩ => by rw [← e]; show 6 ≤ 100000; decide)
    · refine ⟨rs ++ [rw'], ((dN : Nat) : Int), by simp, wf_snoc wf dI (by rw [h1]; exact dp1), ?_, .inr ⟨rs, rw', rfl, by rw [h1]⟩, ?_⟩
      · rw [List.map_append, hnames, List.take_add_one, List.getElem?_eq_getElem hil]
        show _ ++ [rw'.p.name] = _
        rw [h2]
        rfl
      · rw [show m + 1 + 20 + 1 + 60 + 1 + (rs.length + 1) * 10 = m + 1 + 20 + 1 + 60 + 1 + rs.length * 10 + 1 + 1 + 1 + 1 + 1 + 4 + 1 by omega]
        exact wk_eq (wk_eq (wk_eq (wk_eq (wk_eq (wk_eq (wk_eq (wk_eq (wk_eq (wk_un (wk_un (wk_un (wk_un wk_nil))))))))))))
  · obtain ⟨rs, deep, hi0, wf, hnames, dI, wk⟩ := hv
    rw [rangeD_len] at hi0 hnames wk
    refine ⟨_, wk, ?_⟩
    refine rn_freezeF (i := 7) (j := 0) (fun _ h => h) rfl rfl ?_
    refine rn_ret (ev_var rfl) ⟨fd_at rfl (by omega), rs, by omega, wf, ?_, rfl⟩
    rw [hnames, List.take_of_length_le (by omega)]
    exact hnd
end
end FW
set_option maxHeartbeats 8000000
/-! the law -/
namespace FW
open PySem PySem.Spec PyProof.Rows L2 FZ
section
variable {P : Program} {w : World} {K : PySem.W.Frag} {mg : Str → Option Value} {base : Heap} {C : Addr}
def spFeed (K : PySem.W.Frag) : Sp := fun vs H Q _ => ∃ (B : Hp) (a : Addr) (ns : List Int), vs = [.ref a] ∧ Same B H ∧ SqL K H a (ns.map V.int) ∧ ns.length ≤ 63 ∧
  ∀ p ks kvs B' H', Stp B H B' H' → Same B' H' → H' p = some (.dK ks) → Dk K B' ks kvs → FeedOk 0 kvs → B' p = none → H p = none → Q (.ref p) H'
theorem fkv_put (c : Dt) : ([("cells", c), ("at", Dt.int 0), ("left", Dt.int 0)] : List (Str × Dt)).foldl (fun acc p => dput acc p.1 p.2) [] = fkv c 0 0 := by
  have h1 : dput ([] : List (Str × Dt)) "cells" c = [(("cells" : Str), c)] := rfl
  have h2 : dput [(("cells" : Str), c)] "at" (.int 0) = [(("cells" : Str), c), (("at" : Str), .int 0)] := by
    unfold dput
    rw [show List.lookup ("at" : Str) [(("cells" : Str), c)] = none by simp [List.lookup, s_ac]]
    rfl
  have h3 : dput [(("cells" : Str), c), ("at", .int 0)] "left" (.int 0) = fkv c 0 0 := by
    unfold dput
    rw [show List.lookup ("left" : Str) [(("cells" : Str), c), ("at", .int 0)] = none by simp [List.lookup, s_lc, s_la]]
    rfl
  rw [List.foldl_cons, List.foldl_cons, List.foldl_cons, List.foldl_nil, h1, h2, h3]
/-! _law_feed: slots 0 _law_script -/
abbrev s__law_feed : Stmt := topS 57
abbrev n__law_feed : List Str := ["_law_script"]
theorem sc__law_feed : FnScope n__law_feed ["_law_script"] (defScope s__law_feed) := ⟨rfl, rfl, rfl, by decide +kernel, rfl, by decide +kernel, by decide +kernel⟩
theorem ok__law_feed (D : Df K mg "_law_feed" s__law_feed ["_law_script"]) (T : Tx K w mg) {k : Nat} : Cal P w K mg base (k + 1) "_law_feed" (spFeed K) := by
  obtain ⟨f, fd, F, hm, b⟩ := D.ex
  refine ⟨f, fd, _, ?_, hm, F.kp, b⟩
  refine F.ok sc__law_feed (fun vs H Q E h => ?_) (fun cdv A outer s H vs Q E hr h => ?_)
  · obtain ⟨_, _, _, rfl, _⟩ := h
    rfl
  have sc := sc__law_feed
  refine ⟨_, ((pss_one (ps_ret (pe_disp (pps_cons pe_str (pe_callTy (listK K rfl) (by rfl) T.list (by decide +kernel) (pa_cons (pe_slice (slL K rfl) (pv 0) po_none (po_some pe_int)) pa_nil)) (pps_cons pe_str pe_int (pps_cons pe_str pe_int pps_nil))) (by rfl) (by rfl) (fun z => by cases z) (by decide))))), ?_⟩
  obtain ⟨B, a, ns, rfl, hB, hs, hl, kk⟩ := h
  -- the new dict at p, the cut list at q, the list at r
  refine fun p hp => ?_
  refine ⟨.ref a, rfl, 63, rfl, a, ns.map V.int, rfl, same_l (Same.new hp) hs, fun q hq => ?_⟩
  refine ⟨q, _, rfl, .inl (SqL.of upd_same), fun r hr => ?_⟩
  have hqp : q ≠ p := fun z => by rw [z, upd_same] at hq; cases hq
  have hrq : r ≠ q := fun z => by rw [z, upd_same] at hr; cases hr
  rw [upd_ne hrq] at hr
  have hrp : r ≠ p := fun z => by rw [z, upd_same] at hr; cases hr
  have hr0 := hr
  rw [upd_ne hrp] at hr0
  have hq0 := hq
  rw [upd_ne hqp] at hq0
  have hcut : cutV (ns.map V.int) none (some 63) = (ns.take 63).map V.int := by
    unfold cutV
    rw [show (63 : Int) = ((63 : Nat) : Int) from rfl, HT.sIx_nat, HT.sIx_none, List.drop_zero, Nat.sub_zero, List.length_map, Nat.min_eq_right hl, List.map_take]
    rw [List.take_of_length_le (by rw [List.length_map]; exact Nat.le_refl _), List.take_of_length_le (by rw [List.length_map]; exact hl)]
  refine ⟨?_, [(Sum.inr "cells", .ref r), (Sum.inr "at", .int 0), (Sum.inr "left", .int 0)], rfl, (by simp), ?_⟩
  · rw [upd_ne (Ne.symm hrp), upd_ne (Ne.symm hqp)]
    exact upd_same
  have br : B r = none := hB.free hr0
  have bp : B p = none := hB.free hp
  have e1 : Same B (upd B r (.lst (cutV (ns.map V.int) none (some 63)))) := Same.new br
  have sH : Same H (upd (upd (upd (upd H p (.dK [])) q (.lst (cutV (ns.map V.int) none (some 63)))) r (.lst (cutV (ns.map V.int) none (some 63)))) p (.dK (mergeK [] [(Sum.inr "cells", V.ref r), (Sum.inr "at", .int 0), (Sum.inr "left", .int 0)]))) := fun x u h => by
    have n1 : x ≠ p := fun z => by rw [z, hp] at h; cases h
    have n2 : x ≠ q := fun z => by rw [z, hq0] at h; cases h
    have n3 : x ≠ r := fun z => by rw [z, hr0] at h; cases h
    rw [upd_ne n1, upd_ne n3, upd_ne n2, upd_ne n1]
    exact h
  refine kk p _ _ (upd B r (.lst (cutV (ns.map V.int) none (some 63)))) _ ⟨e1, sH, fun x hx b => ?_⟩ (fun x u h => ?_) upd_same (Dk.merge [("cells", .lst ((ns.take 63).map .int)), ("at", .int 0), ("left", .int 0)] _ _ _ (.cons (.lst upd_same ?_) (.cons (.int 0) (.cons (.int 0) .nil))) .nil) ?_ ?_ hp
  · rw [upd_ne (fun z => hx (by rw [z]; exact hr0))]; exact b
  · by_cases z : x = r
    · subst z
      rw [upd_same] at h
      cases h
      rw [upd_ne hrp]; exact upd_same
    · rw [upd_ne z] at h
      exact sH x u (hB x u h)
  · rw [hcut]; exact Ds.ofInts _
  · rw [fkv_put]
    exact ⟨ns.take 63, 0, 0, rfl, by decide, by decide, by decide, by rw [List.length_take]; omega⟩
  · rw [upd_ne (Ne.symm hrp)]; exact bp
end
end FW
set_option maxHeartbeats 8000000
/-! the law, whole -/
namespace FW
open PySem PySem.Spec PyProof.Rows L2 FZ
section
variable {K : PySem.W.Frag} {F : Fr} {sl : List FZ.Slot} {ta tb : TE}
theorem evp_isN {R : Dt → Prop} (ha : EvP K F sl ta R) : EvP K F sl (tIsN ta) (fun d => ∃ e, R e ∧ d = .bl e.isNon) := fun σ B H s Q q => ha σ B H s _ fun d x B1 H1 r a1 e1 x1 => by
  have := q (.bl d.isNon) (.bl (decide (x = .non))) B1 H1 ⟨d, r, rfl⟩ a1 e1 (by rw [x1.isNon]; exact .bl _)
  exact this
theorem evp_eqB {R : Dt → Prop} {c : Bool} (ha : EvP K F sl ta R) (hR : ∀ d, R d → ∃ a, d = .bl a) (hb : EvD K F sl tb (.bl c)) : EvP K F sl (tOp rEq ta tb) (fun d => ∃ a, R (.bl a) ∧ d = .bl (decide (a = c))) := fun σ B H s Q q => ha σ B H s _ fun d x B1 H1 r a1 e1 x1 => hb σ B1 H1 a1 _ fun y B2 H2 a2 e2 y2 => by
  obtain ⟨a, rfl⟩ := hR d r
  cases x1; cases y2
  exact ⟨rfl, by rw [dec_blV]; exact q _ _ B2 H2 ⟨a, r, rfl⟩ a2 (e1.trans e2) (.bl _)⟩
end
/-- the empty frozen part -/
def noB : Hp := fun _ => none
theorem sa_start (K : PySem.W.Frag) (H : Hp) (σ : L2.St) : SA K (F0 noB H) (List.replicate σ.length .un) σ noB H := by
  have un : ∀ {i : Nat} {s : FZ.Slot}, (List.replicate σ.length FZ.Slot.un)[i]? = some s → s = .un := fun {i s} h => (List.mem_replicate.mp (List.mem_of_getElem? h)).2
  refine ⟨by simp, fun i s hs => ?_, fun i s l hs ho => ?_, fun i j s t l h1 h2 o1 => ?_, Same.refl _, fun a u e => (nomatch e), fun a _ b => b, fun a o q _ => q, fun a q => q⟩
  · have := un hs
    subst this
    have hi : i < σ.length := by
      have := (List.getElem?_eq_some_iff.mp hs).1
      simpa using this
    exact ⟨σ[i], List.getElem?_eq_getElem hi, trivial⟩
  · rw [un hs] at ho; cases ho
  · rw [un h1] at o1; cases o1
section
variable {P : Program} {w : World} {K : PySem.W.Frag} {mg : Str → Option Value} {base : Heap} {C : Addr}
theorem feed_start {N : List Str} {rest : TS} {Y : Ends} {a : Addr} {ns : List Int} {H : Hp} (hs : SqL K H a (ns.map V.int)) (hl : ns.length ≤ 63)
    (h : ∀ p B' H', SA K (F0 noB H) ((List.replicate (L2.start N [.ref a]).length FZ.Slot.un).set 1 (.fd p 0)) ((L2.start N [.ref a]).set 1 (some (.ref p))) B' H' → rest Y ((L2.start N [.ref a]).set 1 (some (.ref p))) H') (hN : 1 < (L2.start N [.ref a]).length) :
    (tSeq (tAsg (tCall (spFeed K) [] E0 (tCons (tVar 0) tNil)) (gName 1)) rest) Y (L2.start N [.ref a]) H := by
  have a0 := sa_start K H (L2.start N [.ref a])
  refine ⟨.ref a, rfl, noB, a, ns, rfl, a0.bh, hs, hl, fun p ks kvs B' H' st b' hp dk fo bp hp0 => ?_⟩
  exact h p B' H' ((a0.to st b').setO (i := 1) (l := p) (s := .fd p 0) (by simpa using hN) ⟨p, ks, rfl, hp, ⟨kvs, dk, fo⟩, rfl⟩ bp (.inl hp0) (a0.notOwn hp0))
theorem Rn.go {F : Fr} {sl : List FZ.Slot} {ts : TS} {Po : FZ.Po} {σ : L2.St} {B H : Hp} {E : Ends} (R : Rn K F sl ts Po) (a : SA K F sl σ B H) (t : Sat K F B Po E) : ts E σ H := R σ B H E a t
theorem range_getD (l : List (Option Str)) : (List.range l.length).map (fun j => l.getD j none) = l := by
  apply List.ext_getElem?
  intro i
  rw [List.getElem?_map]
  by_cases h : i < l.length
  · rw [List.getElem?_range h, List.getElem?_eq_getElem h]
    show some (l.getD i none) = _
    rw [List.getD_eq_getElem?_getD, List.getElem?_eq_getElem h]
    rfl
  · rw [List.getElem?_eq_none (by rw [List.length_range]; omega), List.getElem?_eq_none (by omega)]
    rfl
theorem ways6_range : strsD ways6 = .lst ((List.range 6).map fun j => .str (ways6.getD j "")) := rfl
/-! law: slots 0 _law_script, 1 _law_feed_here, 2 _law_rows_here, 3 _law_sheet, 4 _law_some, 5 _law_leads_here, 6 _law_name, 7 _law_whole, 8 _law_one, 9 _law_found, 10 _law_other, 11 _law_told_here, 12 _law_k, 13 _law_way; cells ['_law_name', '_law_rows_here', '_law_sheet'] -/
abbrev s_law : Stmt := topS 75
abbrev n_law : List Str := ["_law_script", "_law_feed_here", "_law_rows_here", "_law_sheet", "_law_some", "_law_leads_here", "_law_name", "_law_whole", "_law_one", "_law_found", "_law_other", "_law_told_here", "_law_k", "_law_way"]
theorem sc_law : FnScope n_law ["_law_script"] (defScope s_law) := ⟨rfl, rfl, rfl, by decide +kernel, rfl, by decide +kernel, by decide +kernel⟩
theorem ok_law {f : Addr} {fd : FuncData} (F : Fun K "law" "law" s_law f fd) (T : Tx K w mg) {k : Nat} (C__law_feed : Cal P w K mg base k "_law_feed" (spFeed K)) (C__law_rows : Cal P w K mg base k "_law_rows" (spRowsL K)) (C__law_hung : Cal P w K mg base k "_law_hung" (spHung K 6)) (C_open_parts : Cal P w K mg base k "open_parts" (spOpens K)) (C__law_free : Cal P w K mg base k "_law_free" (spFree K)) (C__law_ways : Cal P w K mg base k "_law_ways" (spWays K)) (C_goes : Cal P w K mg base k "goes" (spGoes K)) (C_layers : Cal P w K mg base k "layers" (spLayers K)) (C__law_told : Cal P w K mg base k "_law_told" (spTold K)) (C__law_right : Cal P w K mg base k "_law_right" (spRight K)) (C__law_spot : Cal P w K mg base k "_law_spot" (spSpot K)) (C_parted : Cal P w K mg base k "parted" (spParted K)) :
    FnOk P w K mg base CX0 (k + 1) f fd ["_law_script"] (fun vs H Q _ => ∃ (a : Addr) (ns : List Int), vs = [.ref a] ∧ SqL K H a (ns.map V.int) ∧ ns.length ≤ 63 ∧ ∀ H', Q (.bl true) H') := by
  refine F.ok sc_law (fun vs H Q E h => ?_) (fun cdv A outer s H vs Q E hr h => ?_)
  · obtain ⟨_, _, rfl, _⟩ := h
    rfl
  have sc := sc_law
  have hu := hu_of hr
  have hr__law_feed := hr
  have hr__law_rows := hr
  have hr__law_hung := hr
  have hr_open_parts := hr
  have hr__law_free := hr
  have hr__law_ways := hr
  have hr_goes := hr
  have hr_layers := hr
  have hr__law_told := hr
  have hr__law_right := hr
  have hr__law_spot := hr
  have hr_parted := hr
  refine ⟨_, ((pss_cons (ps_set (i := 1) sc.nd rfl (.inl rfl) (pe_cal C__law_feed hr__law_feed (pa_cons (pv 0) pa_nil))) (pss_cons (ps_set (i := 2) sc.nd rfl (.inr rfl) (pe_cal C__law_rows hr__law_rows (pa_cons (pv 1) (pa_cons pe_int pa_nil)))) (pss_cons (ps_set (i := 3) sc.nd rfl (.inr rfl) (pe_cal C__law_hung hr__law_hung (pa_cons (pv 2) (pa_cons pe_int pa_nil)))) (pss_cons (ps_set (i := 4) sc.nd rfl (.inl rfl) (pe_cal C_open_parts hr_open_parts (pa_cons (pv 3) pa_nil))) (pss_cons (ps_if (pt_cmpR (nePK K rfl hr.units) (pv 4) (pe_lc (own := [("_law_k", 12)]) (g := (gName 12)) rfl sc.nd (piL K rfl (pe_cal C__law_free hr__law_free (pa_cons (pv 2) pa_nil))) (blkOk_by (N := n_law) (sc := defScope s_law) (by decide +kernel)) (fun _ _ _ _ _ => (pg_name (i := 12) sc.nd rfl (.inl rfl))) (fun _ _ _ _ _ => pts_nil) (fun _ _ _ _ _ => (pe_ix (ixL K rfl) (pe_ix (ixL K rfl) (pv 2) (pv 12) (fun _ _ => rfl)) pe_int (fun _ _ => rfl)))) (nomark _))
      (pss_one (ps_ret pe_bl))
      pss_nil) (pss_cons (ps_set (i := 5) sc.nd rfl (.inl rfl) pe_dnewK) (pss_cons (ps_for PassesOwn.never rfl (piL K rfl (pv 4)) (pg_name (i := 6) sc.nd rfl (.inr rfl))
      (pss_one (ps_dput hu (pv 5) (pv 6) (pe_lc (own := [("_law_way", 13)]) (g := (gName 13)) rfl sc.nd (piL K rfl (pe_cal0 C__law_ways hr__law_ways)) (blkOk_by (N := n_law) (sc := defScope s_law) (by decide +kernel)) (fun _ _ _ _ _ => (pg_name (i := 13) sc.nd rfl (.inl rfl))) (fun _ _ _ _ _ => pts_nil) (fun _ _ _ _ _ => (pe_cal C_goes hr_goes (pa_cons (pv 3) (pa_cons (pv 6) (pa_cons (pv 13) pa_nil)))))) rfl))) (pss_cons (ps_set (i := 7) sc.nd rfl (.inl rfl) pe_bl) (pss_cons (ps_for PassesOwn.never rfl (piL K rfl (pv 4)) (pg_name (i := 8) sc.nd rfl (.inl rfl))
      (pss_cons (ps_set (i := 9) sc.nd rfl (.inl rfl) (pe_cal C_layers hr_layers (pa_cons (pv 3) (pa_cons (pv 8) pa_nil)))) (pss_cons (ps_if (pt_cmpR (nePK K rfl hr.units) (pe_slice (slL K rfl) (pv 9) po_none (po_some pe_int)) (pe_lst (pa_cons (pe_lst (pa_cons (pv 8) pa_nil)) pa_nil)) (nomark _))
      (pss_one (ps_ret pe_bl))
      pss_nil) (pss_one (ps_for PassesOwn.never rfl (piL K rfl (pv 4)) (pg_name (i := 10) sc.nd rfl (.inl rfl))
      (pss_cons (ps_set (i := 11) sc.nd rfl (.inl rfl) (pe_cal C__law_told hr__law_told (pa_cons (pv 3) (pa_cons (pv 8) (pa_cons (pv 10) pa_nil))))) (pss_cons (ps_if (pt_not (pt_val (pe_cal C__law_right hr__law_right (pa_cons (pv 11) (pa_cons (pv 5) (pa_cons (pv 9) (pa_cons (pv 8) (pa_cons (pv 10) pa_nil))))))))
      (pss_one (ps_ret pe_bl))
      pss_nil) (pss_one (ps_set (i := 7) sc.nd rfl (.inl rfl) (pe_and (pv 7) (pe_one (pe_cmpR (nePK K rfl hr.units) (pe_cal C__law_spot hr__law_spot (pa_cons (pv 9) (pa_cons (pv 10) pa_nil))) (pe_lst pa_nil) (nomark _))))))))))))) (pss_one (ps_ret (pe_cmpR op_eq (pe_cmp (pc_isN (pe_cal C_parted hr_parted (pa_cons (pv 3) pa_nil))) rfl) (pv 7) (nomark _)))))))))))))), ?_⟩
  obtain ⟨a, ns, rfl, hs, hl, kQ⟩ := h
  -- the feed
  refine feed_start (K := K) hs hl (fun p B' H' a1 => ?_) (by show 1 < 14; decide)
  refine Rn.go (Po := { rt := fun d _ => d = .bl true }) (sl := .un :: .fd p 0 :: List.replicate 12 .un) ?_ a1 ⟨fun s σ B' H' z => z.elim, fun d s v σ B' H' z _ _ dv => by
    subst z
    cases dv
    exact kQ H', fun s σ B' H' z => z.elim, fun s σ B' H' z => z.elim⟩
  refine rn_seq (rn_asgF (ef_callF (args := fun _ : Unit => [.int 5]) (pre := fun _ => True) (c := fun _ => 300) (post := fun _ d => isRows d) (j := 1) (m := 0) () rfl (ea_cons ev_int ea_nil) trivial (by decide)) ?_)
  rintro _ ⟨rs, h5, wf, nd, rfl⟩
  have ok := okf_sheet wf nd (by omega)
  have hos := opens_sheet wf nd (by omega)
  refine rn_seq (rn_asg (ev_call (rs, 0) (ea_cons (ev_var rfl) (ea_cons ev_int ea_nil)) ⟨by dsimp only; omega, by dsimp only; omega⟩) ?_)
  refine rn_seq (rn_asg (ev_call (sheet rs) (ea_cons (ev_var rfl) ea_nil) ok) ?_)
  generalize hsh : sheet rs = sh at *
  have hsh' : hungL 0 rs = sh := hsh
  have hfl : (free rs).length ≤ rs.length := by
    unfold free
    refine Nat.le_trans (List.length_filter_le _ _) ?_
    rw [List.length_range]
    exact Nat.le_refl _
  have hsz := ok.sz
  have hol := opens_len (s := sh)
  refine rn_seq (rn_if (b := false) ((et_test (ev_neU (a := opens sh) (b := (free rs).map (nameAt rs)) (ev_var rfl) (el_lc0 (free rs) (fun j => .int ((j : Nat) : Int)) (fun j => .str (nameAt rs j)) _ (is_list (ev_call rs (ea_cons (ev_var rfl) ea_nil) (show rs.length ≤ 100 by omega))) (by omega) (un1 rfl) (fun _ h => h) (fun j _ => tg_name 12 _) (fun j hj => ?_)).fz (toP_strsL _) ((congrArg toP (congrArg Dt.lst (by rw [List.map_map]; rfl))).trans (toP_strsL _)))).is (by rw [decide_eq_true hos]; rfl)) (fun z => by cases z) (fun _ => rn_next ?_))
  · have hjl : j < rs.length := List.mem_range.mp (List.mem_filter.mp hj).1
    exact (ev_ixL (d := .str rs[j].p.name) (rd_d (ev_ixL (rd_var rfl) (ev_var rfl) (row_at hjl))) ev_int rfl).is (by rw [nameAt_get hjl])
  -- where the ways lead
  refine rn_seq (rn_asgK ek_new ?_)
  refine rn_seq (rn_fold (opens sh) .str (fun b : List (Str × Dt) => [.un, .fd p (0 + 300), .fz (rowsL rs), .fz (shD (hungL 0 rs)), .fz (strsD (opens sh)), .od b, .un, .un, .un, .un, .un, .un, .un, .un]) (fun b n => dput b n (.lst ((leads sh n).map optD))) [] _ _ (is_list (ev_var rfl)) (wk_eq (wk_eq (wk_eq (wk_eq (wk_eq (wk_eq (wk_un (wk_un (wk_un (wk_un (wk_un (wk_un (wk_un (wk_un wk_nil)))))))))))))) (fun n _ => tg_name 6 _) 14 (fun _ => rfl) (by decide) ?_ ?_)
  · intro pre n post b hx hb
    have hn : n ∈ opens sh := by rw [hx]; simp
    obtain ⟨e, he, rfl⟩ := opens_entry ok hn
    have hz : b.length < 100000 := by
      have h1 := dfold_len (fun n : Str => n) (fun n => Dt.lst ((leads sh n).map optD)) pre []
      have h2 := congrArg List.length hx
      rw [List.length_append] at h2
      rw [hb]
      simp only [List.length_nil] at h1
      omega
    have h6 := lead6_len sh e
    refine rn_dput rfl (el_lc0 (List.range 6) (fun j => .str (ways6.getD j "")) (fun j => optD ((lead6 sh e).getD j none)) _ (is_list (ev_call () ea_nil trivial)) (by decide) (un1 rfl) (fun _ h => h) (fun j _ => tg_name 13 _) (fun j hj => ev_call (sh, e, j) (ea_cons ((ev_var rfl).is (by rw [hsh'])) (ea_cons (ev_var rfl) (ea_cons (ev_var rfl) ea_nil))) ⟨openE_of ok he, List.mem_range.mp hj⟩)).fz (ev_var rfl) hz ?_
    refine wk_eq (wk_eq (wk_eq (wk_eq (wk_eq (wk_od ?_ (wk_un (wk_un (wk_un (wk_un (wk_un (wk_un (wk_un (wk_un wk_nil)))))))))))))
    congr 2
    rw [leads_ent ok he, ← h6]
    have := congrArg (List.map optD) (range_getD (lead6 sh e))
    rw [List.map_map] at this
    exact this
  rw [dput_fold (fun n : Str => n) (fun n => Dt.lst ((leads sh n).map optD)) (opens sh) [] (fun _ _ => rfl) (by rw [List.map_id']; exact opens_nd ok), List.nil_append]
  refine rn_freezeD (i := 5) (fun _ z => z) rfl ?_
  refine rn_seq (rn_asg ev_bl ?_)
  -- one and other
  refine rn_seq (rn_for (is_list (ev_var rfl)) (fun i s => ∃ b : Bool, (b = true ↔ ∀ one ∈ (opens sh).take i, ∀ other ∈ opens sh, ∃ j, other ∈ layer sh one j) ∧ Wk s [.un, .un, .un, .fz (shD (hungL 0 rs)), .fz (strsD (opens sh)), .fz (leadsD sh), .un, .fz (.bl b), .un, .un, .un, .un, .un, .un]) ⟨true, ⟨fun _ one h => (by rw [List.take_zero] at h; cases h), fun _ => rfl⟩, wk_un (wk_un (wk_un (wk_eq (wk_eq (wk_eq (wk_un (wk_eq (wk_un (wk_un (wk_un (wk_un (wk_un (wk_un wk_nil)))))))))))))⟩ (fun i d s hd hv => ?_) (fun s hv => ?_))
  · obtain ⟨b, hb, wk⟩ := hv
    rw [List.getElem?_map] at hd
    cases hx : (opens sh)[i]? with
    | none => rw [hx] at hd; cases hd
    | some one =>
      rw [hx] at hd
      have ed : d = .str one := (Option.some.inj hd).symm
      subst ed
      have ho := List.mem_of_getElem? hx
      obtain ⟨kL, k41, hk⟩ := lok_ex ok one
      have hk0 : 0 < kL := by
        rcases Nat.eq_zero_or_pos kL with z | z
        · subst z; exact absurd hk.stop (by show [one] ≠ []; simp)
        · exact z
      refine ⟨_, _, _, wk, tg_name 8 _, by simp, ?_⟩
      refine rn_seq (rn_asg ((ev_layers (ea_cons ((ev_var rfl).is (by rw [hsh'])) (ea_cons (ev_var rfl) ea_nil)) ok ho hk).is (e := .lst ((layersL sh one kL).map strsD)) (by show Dt.lst _ = Dt.lst _; rw [List.map_map]; rfl)) ?_)
      have hcut : cutD ((layersL sh one kL).map strsD) none (some 1) = [strsD [one]] := by
        rw [show (1 : Int) = ((1 : Nat) : Int) from rfl, cutD_to]
        obtain ⟨k', rfl⟩ : ∃ k', kL = k' + 1 := ⟨kL - 1, by omega⟩
        show List.take 1 (((List.range (k' + 1)).map (layer sh one)).map strsD) = _
        rw [List.range_succ_eq_map]
        rfl
      refine rn_seq (rn_if (b := false) ((et_test (ev_neU (a := [[one]]) (b := [[one]]) (el_slL (rd_var rfl) eo_none (eo_some ev_int)).fz (el_lst (ea_cons (el_lst (ea_cons (ev_var rfl) ea_nil)).fz ea_nil)).fz (by rw [hcut]; exact toP_strsLL [[one]]) (toP_strsLL [[one]]))).is (by simp)) (fun z => by cases z) (fun _ => rn_next ?_))
      refine rn_for (is_list (ev_var rfl)) (fun i' s => ∃ b : Bool, (b = true ↔ (∀ one ∈ (opens sh).take i, ∀ other ∈ opens sh, ∃ j, other ∈ layer sh one j) ∧ ∀ other ∈ (opens sh).take i', ∃ j, other ∈ layer sh one j) ∧ Wk s [.un, .un, .un, .fz (shD (hungL 0 rs)), .fz (strsD (opens sh)), .fz (leadsD sh), .un, .fz (.bl b), .fz (.str one), .fz (.lst ((layersL sh one kL).map strsD)), .un, .un, .un, .un]) ⟨b, ⟨fun h => ⟨hb.mp h, fun o ho => (by rw [List.take_zero] at ho; cases ho)⟩, fun h => hb.mpr h.1⟩, wk_un (wk_un (wk_un (wk_eq (wk_eq (wk_eq (wk_un (wk_eq (wk_eq (wk_eq (wk_un (wk_un (wk_un (wk_un wk_nil)))))))))))))⟩ (fun i' d s hd hv => ?_) (fun s hv => ?_)
      · obtain ⟨b', hb', wk'⟩ := hv
        rw [List.getElem?_map] at hd
        cases hx' : (opens sh)[i']? with
        | none => rw [hx'] at hd; cases hd
        | some other =>
          rw [hx'] at hd
          have ed : d = .str other := (Option.some.inj hd).symm
          subst ed
          have ho' := List.mem_of_getElem? hx'
          refine ⟨_, _, _, wk', tg_name 10 _, by simp, ?_⟩
          refine rn_seq (rn_asgP (ev_callP (sh, one, other) (ea_cons ((ev_var rfl).is (by rw [hsh'])) (ea_cons (ev_var rfl) (ea_cons (ev_var rfl) ea_nil))) ⟨ok, ho, ho'⟩) ?_)
          rintro _ ⟨bs, ro, tok, rfl⟩
          refine rn_seq (rn_if (b := false) ((et_not (et_B (ev_call (f := fun _ => Dt.bl true) (sh, one, other, kL, bs, ro) (ea_cons (ev_var rfl) (ea_cons (ev_var rfl) (ea_cons (ev_var rfl) (ea_cons (ev_var rfl) (ea_cons (ev_var rfl) ea_nil))))) ⟨ok, ho, ho', hk, k41, tok.rows, tok.row, tok.out⟩))).is rfl) (fun z => by cases z) (fun _ => rn_next ?_))
          have hsp : (!decide ((spotL (layersL sh one kL) other).map (fun j => ((j : Nat) : Int)) = ([] : List Int))) = true ↔ ∃ j, other ∈ layer sh one j := by
            rw [Bool.not_eq_true', decide_eq_false_iff_not, List.map_eq_nil_iff, spot_range, List.filter_eq_nil_iff]
            constructor
            · intro h
              refine Classical.byContradiction fun c => h fun j _ q => c ⟨j, of_decide_eq_true q⟩
            · rintro ⟨j, hj⟩ h
              exact h j (List.mem_range.mpr (hk.lt hj)) (decide_eq_true hj)
          refine rn_asg (ev_and (ev_var rfl) (fun _ => ev_neU (a := (spotL (layersL sh one kL) other).map fun j => ((j : Nat) : Int)) (b := ([] : List Int)) (ev_call (layersL sh one kL, other) (ea_cons (ev_var rfl) (ea_cons (ev_var rfl) ea_nil)) (by show (layersL sh one kL).length ≤ 1000; rw [List.length_map, List.length_range]; omega)) (el_lst ea_nil).fz (toP_nats _) rfl)) ⟨_, ?_, wk_un (wk_un (wk_un (wk_eq (wk_eq (wk_eq (wk_un (wk_eq (wk_eq (wk_eq (wk_un (wk_un (wk_un (wk_un wk_nil)))))))))))))⟩
          rw [Bool.and_eq_true, hb', hsp, and_assoc]
          refine and_congr_right fun _ => ?_
          rw [take_succ' hx']
          constructor
          · rintro ⟨h1, h2⟩ o ho
            rcases List.mem_append.mp ho with ho | ho
            · exact h1 o ho
            · rw [List.mem_singleton.mp ho]; exact h2
          · intro h
            exact ⟨fun o ho => h o (List.mem_append_left _ ho), h other (by simp)⟩
      · obtain ⟨b', hb', wk'⟩ := hv
        rw [List.length_map, List.take_length] at hb'
        refine ⟨_, wk', b', ?_, wk_un (wk_un (wk_un (wk_eq (wk_eq (wk_eq (wk_un (wk_eq (wk_un (wk_un (wk_un (wk_un (wk_un (wk_un wk_nil)))))))))))))⟩
        rw [hb', take_succ' hx]
        constructor
        · rintro ⟨h1, h2⟩ o ho
          rcases List.mem_append.mp ho with ho | ho
          · exact h1 o ho
          · rw [List.mem_singleton.mp ho]; exact h2
        · intro h
          exact ⟨fun o ho => h o (List.mem_append_left _ ho), h one (by simp)⟩
  · obtain ⟨b, hb, wk⟩ := hv
    rw [List.length_map, List.take_length] at hb
    refine ⟨_, wk, ?_⟩
    refine rn_retP (evp_eqB (evp_isN (ev_callP sh (ea_cons ((ev_var rfl).is (by rw [hsh'])) ea_nil) ok)) (fun d ⟨e, _, h⟩ => ⟨_, h⟩) (ev_var rfl)) ?_
    rintro _ ⟨a, ⟨e, he, h1⟩, rfl⟩
    cases h1
    have : e.isNon = b := by
      rw [Bool.eq_iff_iff, he, hb]
      exact Iff.rfl
    show Dt.bl _ = Dt.bl true
    rw [this, decide_eq_true rfl]
end
end FW
set_option maxHeartbeats 8000000
/-! all defs together -/
namespace FW
open PySem PySem.Spec PyProof.Rows L2 FZ
theorem df_mk {K : PySem.W.Frag} {h : Heap} {mg : Str → Option Value} {x : Str} {st : Stmt} {ps : List Str} {f : Addr} {oc kV doc pm cdv ct : Value} {od an : Option Addr} {osl : Array (Option Value)} (X : K.In h) (G : h.Ns mainGlobals mg) (a : PySem.W.nsIn K mainGlobals x = some (some (.ref f)))
    (l : K.lookup f = some ⟨oc, od, .func (PySem.W.fnOf x x (defArgs st) (defBody st) (defScope st) .none kV doc pm an cdv ct), osl⟩) (c : PySem.W.codeIn K cdv x = true) (k : PySem.W.keepIn K (.ref f) = true)
    (b : ∀ (kV doc pm : Value) (an : Option Addr) (cdv ct : Value) (us : List Value), us.length = ps.length → bindArgs (PySem.W.fnOf x x (defArgs st) (defBody st) (defScope st) .none kV doc pm an cdv ct) ⟨us, []⟩ = pure (ps.zip us)) : Df K mg x st ps := by
  have F := fun_mk (st := st) l c k
  exact ⟨f, _, F, PySem.W.mg_of X G a, F.binds b⟩

theorem b_lay_out : ∀ (kV doc pm : Value) (an : Option Addr) (cdv ct : Value) (us : List Value), us.length = (["parts", "place", "names", "told"] : List Str).length → bindArgs (PySem.W.fnOf "lay_out" "lay_out" (defArgs s_lay_out) (defBody s_lay_out) (defScope s_lay_out) .none kV doc pm an cdv ct) ⟨us, []⟩ = pure ((["parts", "place", "names", "told"] : List Str).zip us) := fun _ _ _ _ _ _ us hl => match us, hl with | [_, _, _, _], _ => rfl
theorem b_entries : ∀ (kV doc pm : Value) (an : Option Addr) (cdv ct : Value) (us : List Value), us.length = (["sheet"] : List Str).length → bindArgs (PySem.W.fnOf "entries" "entries" (defArgs s_entries) (defBody s_entries) (defScope s_entries) .none kV doc pm an cdv ct) ⟨us, []⟩ = pure ((["sheet"] : List Str).zip us) := fun _ _ _ _ _ _ us hl => match us, hl with | [_], _ => rfl
theorem b_entry_of : ∀ (kV doc pm : Value) (an : Option Addr) (cdv ct : Value) (us : List Value), us.length = (["sheet", "name"] : List Str).length → bindArgs (PySem.W.fnOf "entry_of" "entry_of" (defArgs s_entry_of) (defBody s_entry_of) (defScope s_entry_of) .none kV doc pm an cdv ct) ⟨us, []⟩ = pure ((["sheet", "name"] : List Str).zip us) := fun _ _ _ _ _ _ us hl => match us, hl with | [_, _], _ => rfl
theorem b_part_of : ∀ (kV doc pm : Value) (an : Option Addr) (cdv ct : Value) (us : List Value), us.length = (["sheet", "name"] : List Str).length → bindArgs (PySem.W.fnOf "part_of" "part_of" (defArgs s_part_of) (defBody s_part_of) (defScope s_part_of) .none kV doc pm an cdv ct) ⟨us, []⟩ = pure ((["sheet", "name"] : List Str).zip us) := fun _ _ _ _ _ _ us hl => match us, hl with | [_, _], _ => rfl
theorem b_words_on : ∀ (kV doc pm : Value) (an : Option Addr) (cdv ct : Value) (us : List Value), us.length = (["told", "entry"] : List Str).length → bindArgs (PySem.W.fnOf "words_on" "words_on" (defArgs s_words_on) (defBody s_words_on) (defScope s_words_on) .none kV doc pm an cdv ct) ⟨us, []⟩ = pure ((["told", "entry"] : List Str).zip us) := fun _ _ _ _ _ _ us hl => match us, hl with | [_, _], _ => rfl
theorem b_first_with : ∀ (kV doc pm : Value) (an : Option Addr) (cdv ct : Value) (us : List Value), us.length = (["told", "entry", "word"] : List Str).length → bindArgs (PySem.W.fnOf "first_with" "first_with" (defArgs s_first_with) (defBody s_first_with) (defScope s_first_with) .none kV doc pm an cdv ct) ⟨us, []⟩ = pure ((["told", "entry", "word"] : List Str).zip us) := fun _ _ _ _ _ _ us hl => match us, hl with | [_, _, _], _ => rfl
theorem b_why_in : ∀ (kV doc pm : Value) (an : Option Addr) (cdv ct : Value) (us : List Value), us.length = (["told", "entry"] : List Str).length → bindArgs (PySem.W.fnOf "why_in" "why_in" (defArgs s_why_in) (defBody s_why_in) (defScope s_why_in) .none kV doc pm an cdv ct) ⟨us, []⟩ = pure ((["told", "entry"] : List Str).zip us) := fun _ _ _ _ _ _ us hl => match us, hl with | [_, _], _ => rfl
theorem b_why_not : ∀ (kV doc pm : Value) (an : Option Addr) (cdv ct : Value) (us : List Value), us.length = (["sheet", "name"] : List Str).length → bindArgs (PySem.W.fnOf "why_not" "why_not" (defArgs s_why_not) (defBody s_why_not) (defScope s_why_not) .none kV doc pm an cdv ct) ⟨us, []⟩ = pure ((["sheet", "name"] : List Str).zip us) := fun _ _ _ _ _ _ us hl => match us, hl with | [_, _], _ => rfl
theorem b_ask_open : ∀ (kV doc pm : Value) (an : Option Addr) (cdv ct : Value) (us : List Value), us.length = (["sheet", "name"] : List Str).length → bindArgs (PySem.W.fnOf "ask_open" "ask_open" (defArgs s_ask_open) (defBody s_ask_open) (defScope s_ask_open) .none kV doc pm an cdv ct) ⟨us, []⟩ = pure ((["sheet", "name"] : List Str).zip us) := fun _ _ _ _ _ _ us hl => match us, hl with | [_, _], _ => rfl
theorem b_seen_or_open : ∀ (kV doc pm : Value) (an : Option Addr) (cdv ct : Value) (us : List Value), us.length = (["sheet", "only"] : List Str).length → bindArgs (PySem.W.fnOf "seen_or_open" "seen_or_open" (defArgs s_seen_or_open) (defBody s_seen_or_open) (defScope s_seen_or_open) .none kV doc pm an cdv ct) ⟨us, []⟩ = pure ((["sheet", "only"] : List Str).zip us) := fun _ _ _ _ _ _ us hl => match us, hl with | [_, _], _ => rfl
theorem b_open_parts : ∀ (kV doc pm : Value) (an : Option Addr) (cdv ct : Value) (us : List Value), us.length = (["sheet"] : List Str).length → bindArgs (PySem.W.fnOf "open_parts" "open_parts" (defArgs s_open_parts) (defBody s_open_parts) (defScope s_open_parts) .none kV doc pm an cdv ct) ⟨us, []⟩ = pure ((["sheet"] : List Str).zip us) := fun _ _ _ _ _ _ us hl => match us, hl with | [_], _ => rfl
theorem b_across_of : ∀ (kV doc pm : Value) (an : Option Addr) (cdv ct : Value) (us : List Value), us.length = (["box"] : List Str).length → bindArgs (PySem.W.fnOf "across_of" "across_of" (defArgs s_across_of) (defBody s_across_of) (defScope s_across_of) .none kV doc pm an cdv ct) ⟨us, []⟩ = pure ((["box"] : List Str).zip us) := fun _ _ _ _ _ _ us hl => match us, hl with | [_], _ => rfl
theorem b_down_of : ∀ (kV doc pm : Value) (an : Option Addr) (cdv ct : Value) (us : List Value), us.length = (["box"] : List Str).length → bindArgs (PySem.W.fnOf "down_of" "down_of" (defArgs s_down_of) (defBody s_down_of) (defScope s_down_of) .none kV doc pm an cdv ct) ⟨us, []⟩ = pure ((["box"] : List Str).zip us) := fun _ _ _ _ _ _ us hl => match us, hl with | [_], _ => rfl
theorem b_have_common : ∀ (kV doc pm : Value) (an : Option Addr) (cdv ct : Value) (us : List Value), us.length = (["one", "other"] : List Str).length → bindArgs (PySem.W.fnOf "have_common" "have_common" (defArgs s_have_common) (defBody s_have_common) (defScope s_have_common) .none kV doc pm an cdv ct) ⟨us, []⟩ = pure ((["one", "other"] : List Str).zip us) := fun _ _ _ _ _ _ us hl => match us, hl with | [_, _], _ => rfl
theorem b_far_apart : ∀ (kV doc pm : Value) (an : Option Addr) (cdv ct : Value) (us : List Value), us.length = (["one", "other"] : List Str).length → bindArgs (PySem.W.fnOf "far_apart" "far_apart" (defArgs s_far_apart) (defBody s_far_apart) (defScope s_far_apart) .none kV doc pm an cdv ct) ⟨us, []⟩ = pure ((["one", "other"] : List Str).zip us) := fun _ _ _ _ _ _ us hl => match us, hl with | [_, _], _ => rfl
theorem b_near_by : ∀ (kV doc pm : Value) (an : Option Addr) (cdv ct : Value) (us : List Value), us.length = (["gap", "one", "other"] : List Str).length → bindArgs (PySem.W.fnOf "near_by" "near_by" (defArgs s_near_by) (defBody s_near_by) (defScope s_near_by) .none kV doc pm an cdv ct) ⟨us, []⟩ = pure ((["gap", "one", "other"] : List Str).zip us) := fun _ _ _ _ _ _ us hl => match us, hl with | [_, _, _], _ => rfl
theorem b_nears : ∀ (kV doc pm : Value) (an : Option Addr) (cdv ct : Value) (us : List Value), us.length = (["box", "other"] : List Str).length → bindArgs (PySem.W.fnOf "nears" "nears" (defArgs s_nears) (defBody s_nears) (defScope s_nears) .none kV doc pm an cdv ct) ⟨us, []⟩ = pure ((["box", "other"] : List Str).zip us) := fun _ _ _ _ _ _ us hl => match us, hl with | [_, _], _ => rfl
theorem b_walk : ∀ (kV doc pm : Value) (an : Option Addr) (cdv ct : Value) (us : List Value), us.length = (["sheet"] : List Str).length → bindArgs (PySem.W.fnOf "walk" "walk" (defArgs s_walk) (defBody s_walk) (defScope s_walk) .none kV doc pm an cdv ct) ⟨us, []⟩ = pure ((["sheet"] : List Str).zip us) := fun _ _ _ _ _ _ us hl => match us, hl with | [_], _ => rfl
theorem b_opposite : ∀ (kV doc pm : Value) (an : Option Addr) (cdv ct : Value) (us : List Value), us.length = (["way"] : List Str).length → bindArgs (PySem.W.fnOf "opposite" "opposite" (defArgs s_opposite) (defBody s_opposite) (defScope s_opposite) .none kV doc pm an cdv ct) ⟨us, []⟩ = pure ((["way"] : List Str).zip us) := fun _ _ _ _ _ _ us hl => match us, hl with | [_], _ => rfl
theorem b_open_entries : ∀ (kV doc pm : Value) (an : Option Addr) (cdv ct : Value) (us : List Value), us.length = (["sheet"] : List Str).length → bindArgs (PySem.W.fnOf "open_entries" "open_entries" (defArgs s_open_entries) (defBody s_open_entries) (defScope s_open_entries) .none kV doc pm an cdv ct) ⟨us, []⟩ = pure ((["sheet"] : List Str).zip us) := fun _ _ _ _ _ _ us hl => match us, hl with | [_], _ => rfl
theorem b_mates_in : ∀ (kV doc pm : Value) (an : Option Addr) (cdv ct : Value) (us : List Value), us.length = (["told", "place"] : List Str).length → bindArgs (PySem.W.fnOf "mates_in" "mates_in" (defArgs s_mates_in) (defBody s_mates_in) (defScope s_mates_in) .none kV doc pm an cdv ct) ⟨us, []⟩ = pure ((["told", "place"] : List Str).zip us) := fun _ _ _ _ _ _ us hl => match us, hl with | [_, _], _ => rfl
theorem b_nearest_four : ∀ (kV doc pm : Value) (an : Option Addr) (cdv ct : Value) (us : List Value), us.length = (["some", "box"] : List Str).length → bindArgs (PySem.W.fnOf "nearest_four" "nearest_four" (defArgs s_nearest_four) (defBody s_nearest_four) (defScope s_nearest_four) .none kV doc pm an cdv ct) ⟨us, []⟩ = pure ((["some", "box"] : List Str).zip us) := fun _ _ _ _ _ _ us hl => match us, hl with | [_, _], _ => rfl
theorem b_first_inner : ∀ (kV doc pm : Value) (an : Option Addr) (cdv ct : Value) (us : List Value), us.length = (["told", "place"] : List Str).length → bindArgs (PySem.W.fnOf "first_inner" "first_inner" (defArgs s_first_inner) (defBody s_first_inner) (defScope s_first_inner) .none kV doc pm an cdv ct) ⟨us, []⟩ = pure ((["told", "place"] : List Str).zip us) := fun _ _ _ _ _ _ us hl => match us, hl with | [_, _], _ => rfl
theorem b_nearest : ∀ (kV doc pm : Value) (an : Option Addr) (cdv ct : Value) (us : List Value), us.length = (["sheet", "name", "way"] : List Str).length → bindArgs (PySem.W.fnOf "nearest" "nearest" (defArgs s_nearest) (defBody s_nearest) (defScope s_nearest) .none kV doc pm an cdv ct) ⟨us, []⟩ = pure ((["sheet", "name", "way"] : List Str).zip us) := fun _ _ _ _ _ _ us hl => match us, hl with | [_, _, _], _ => rfl
theorem b_into : ∀ (kV doc pm : Value) (an : Option Addr) (cdv ct : Value) (us : List Value), us.length = (["sheet", "name"] : List Str).length → bindArgs (PySem.W.fnOf "into" "into" (defArgs s_into) (defBody s_into) (defScope s_into) .none kV doc pm an cdv ct) ⟨us, []⟩ = pure ((["sheet", "name"] : List Str).zip us) := fun _ _ _ _ _ _ us hl => match us, hl with | [_, _], _ => rfl
theorem b_out_of : ∀ (kV doc pm : Value) (an : Option Addr) (cdv ct : Value) (us : List Value), us.length = (["sheet", "name"] : List Str).length → bindArgs (PySem.W.fnOf "out_of" "out_of" (defArgs s_out_of) (defBody s_out_of) (defScope s_out_of) .none kV doc pm an cdv ct) ⟨us, []⟩ = pure ((["sheet", "name"] : List Str).zip us) := fun _ _ _ _ _ _ us hl => match us, hl with | [_, _], _ => rfl
theorem b_goes : ∀ (kV doc pm : Value) (an : Option Addr) (cdv ct : Value) (us : List Value), us.length = (["sheet", "name", "key"] : List Str).length → bindArgs (PySem.W.fnOf "goes" "goes" (defArgs s_goes) (defBody s_goes) (defScope s_goes) .none kV doc pm an cdv ct) ⟨us, []⟩ = pure ((["sheet", "name", "key"] : List Str).zip us) := fun _ _ _ _ _ _ us hl => match us, hl with | [_, _, _], _ => rfl
theorem b_table_of : ∀ (kV doc pm : Value) (an : Option Addr) (cdv ct : Value) (us : List Value), us.length = (["sheet"] : List Str).length → bindArgs (PySem.W.fnOf "table_of" "table_of" (defArgs s_table_of) (defBody s_table_of) (defScope s_table_of) .none kV doc pm an cdv ct) ⟨us, []⟩ = pure ((["sheet"] : List Str).zip us) := fun _ _ _ _ _ _ us hl => match us, hl with | [_], _ => rfl
theorem b_led_to : ∀ (kV doc pm : Value) (an : Option Addr) (cdv ct : Value) (us : List Value), us.length = (["table", "some", "first", "behind"] : List Str).length → bindArgs (PySem.W.fnOf "led_to" "led_to" (defArgs s_led_to) (defBody s_led_to) (defScope s_led_to) .none kV doc pm an cdv ct) ⟨us, []⟩ = pure ((["table", "some", "first", "behind"] : List Str).zip us) := fun _ _ _ _ _ _ us hl => match us, hl with | [_, _, _, _], _ => rfl
theorem b_layers : ∀ (kV doc pm : Value) (an : Option Addr) (cdv ct : Value) (us : List Value), us.length = (["sheet", "name"] : List Str).length → bindArgs (PySem.W.fnOf "layers" "layers" (defArgs s_layers) (defBody s_layers) (defScope s_layers) .none kV doc pm an cdv ct) ⟨us, []⟩ = pure ((["sheet", "name"] : List Str).zip us) := fun _ _ _ _ _ _ us hl => match us, hl with | [_, _], _ => rfl
theorem b_rows_from : ∀ (kV doc pm : Value) (an : Option Addr) (cdv ct : Value) (us : List Value), us.length = (["sheet", "one"] : List Str).length → bindArgs (PySem.W.fnOf "rows_from" "rows_from" (defArgs s_rows_from) (defBody s_rows_from) (defScope s_rows_from) .none kV doc pm an cdv ct) ⟨us, []⟩ = pure ((["sheet", "one"] : List Str).zip us) := fun _ _ _ _ _ _ us hl => match us, hl with | [_, _], _ => rfl
theorem b_row_to : ∀ (kV doc pm : Value) (an : Option Addr) (cdv ct : Value) (us : List Value), us.length = (["sheet", "one", "other"] : List Str).length → bindArgs (PySem.W.fnOf "row_to" "row_to" (defArgs s_row_to) (defBody s_row_to) (defScope s_row_to) .none kV doc pm an cdv ct) ⟨us, []⟩ = pure ((["sheet", "one", "other"] : List Str).zip us) := fun _ _ _ _ _ _ us hl => match us, hl with | [_, _, _], _ => rfl
theorem b_parted : ∀ (kV doc pm : Value) (an : Option Addr) (cdv ct : Value) (us : List Value), us.length = (["sheet"] : List Str).length → bindArgs (PySem.W.fnOf "parted" "parted" (defArgs s_parted) (defBody s_parted) (defScope s_parted) .none kV doc pm an cdv ct) ⟨us, []⟩ = pure ((["sheet"] : List Str).zip us) := fun _ _ _ _ _ _ us hl => match us, hl with | [_], _ => rfl
theorem b__law_feed : ∀ (kV doc pm : Value) (an : Option Addr) (cdv ct : Value) (us : List Value), us.length = (["_law_script"] : List Str).length → bindArgs (PySem.W.fnOf "_law_feed" "_law_feed" (defArgs s__law_feed) (defBody s__law_feed) (defScope s__law_feed) .none kV doc pm an cdv ct) ⟨us, []⟩ = pure ((["_law_script"] : List Str).zip us) := fun _ _ _ _ _ _ us hl => match us, hl with | [_], _ => rfl
theorem b__law_draw : ∀ (kV doc pm : Value) (an : Option Addr) (cdv ct : Value) (us : List Value), us.length = (["_law_feed_here", "_law_many"] : List Str).length → bindArgs (PySem.W.fnOf "_law_draw" "_law_draw" (defArgs s__law_draw) (defBody s__law_draw) (defScope s__law_draw) .none kV doc pm an cdv ct) ⟨us, []⟩ = pure ((["_law_feed_here", "_law_many"] : List Str).zip us) := fun _ _ _ _ _ _ us hl => match us, hl with | [_, _], _ => rfl
theorem b__law_great : ∀ (kV doc pm : Value) (an : Option Addr) (cdv ct : Value) (us : List Value), us.length = (["_law_feed_here", "_law_pieces"] : List Str).length → bindArgs (PySem.W.fnOf "_law_great" "_law_great" (defArgs s__law_great) (defBody s__law_great) (defScope s__law_great) .none kV doc pm an cdv ct) ⟨us, []⟩ = pure ((["_law_feed_here", "_law_pieces"] : List Str).zip us) := fun _ _ _ _ _ _ us hl => match us, hl with | [_, _], _ => rfl
theorem b__law_scale : ∀ (kV doc pm : Value) (an : Option Addr) (cdv ct : Value) (us : List Value), us.length = (["_law_feed_here"] : List Str).length → bindArgs (PySem.W.fnOf "_law_scale" "_law_scale" (defArgs s__law_scale) (defBody s__law_scale) (defScope s__law_scale) .none kV doc pm an cdv ct) ⟨us, []⟩ = pure ((["_law_feed_here"] : List Str).zip us) := fun _ _ _ _ _ _ us hl => match us, hl with | [_], _ => rfl
theorem b__law_box : ∀ (kV doc pm : Value) (an : Option Addr) (cdv ct : Value) (us : List Value), us.length = (["_law_feed_here", "_law_style"] : List Str).length → bindArgs (PySem.W.fnOf "_law_box" "_law_box" (defArgs s__law_box) (defBody s__law_box) (defScope s__law_box) .none kV doc pm an cdv ct) ⟨us, []⟩ = pure ((["_law_feed_here", "_law_style"] : List Str).zip us) := fun _ _ _ _ _ _ us hl => match us, hl with | [_, _], _ => rfl
theorem b__law_scaled : ∀ (kV doc pm : Value) (an : Option Addr) (cdv ct : Value) (us : List Value), us.length = (["_law_box_here", "_law_scale_here"] : List Str).length → bindArgs (PySem.W.fnOf "_law_scaled" "_law_scaled" (defArgs s__law_scaled) (defBody s__law_scaled) (defScope s__law_scaled) .none kV doc pm an cdv ct) ⟨us, []⟩ = pure ((["_law_box_here", "_law_scale_here"] : List Str).zip us) := fun _ _ _ _ _ _ us hl => match us, hl with | [_, _], _ => rfl
theorem b__law_names : ∀ (kV doc pm : Value) (an : Option Addr) (cdv ct : Value) (us : List Value), us.length = (["_law_feed_here", "_law_many"] : List Str).length → bindArgs (PySem.W.fnOf "_law_names" "_law_names" (defArgs s__law_names) (defBody s__law_names) (defScope s__law_names) .none kV doc pm an cdv ct) ⟨us, []⟩ = pure ((["_law_feed_here", "_law_many"] : List Str).zip us) := fun _ _ _ _ _ _ us hl => match us, hl with | [_, _], _ => rfl
theorem b__law_above : ∀ (kV doc pm : Value) (an : Option Addr) (cdv ct : Value) (us : List Value), us.length = (["_law_rows_here", "_law_k"] : List Str).length → bindArgs (PySem.W.fnOf "_law_above" "_law_above" (defArgs s__law_above) (defBody s__law_above) (defScope s__law_above) .none kV doc pm an cdv ct) ⟨us, []⟩ = pure ((["_law_rows_here", "_law_k"] : List Str).zip us) := fun _ _ _ _ _ _ us hl => match us, hl with | [_, _], _ => rfl
theorem b__law_rows : ∀ (kV doc pm : Value) (an : Option Addr) (cdv ct : Value) (us : List Value), us.length = (["_law_feed_here", "_law_most"] : List Str).length → bindArgs (PySem.W.fnOf "_law_rows" "_law_rows" (defArgs s__law_rows) (defBody s__law_rows) (defScope s__law_rows) .none kV doc pm an cdv ct) ⟨us, []⟩ = pure ((["_law_feed_here", "_law_most"] : List Str).zip us) := fun _ _ _ _ _ _ us hl => match us, hl with | [_, _], _ => rfl
theorem b__law_hung : ∀ (kV doc pm : Value) (an : Option Addr) (cdv ct : Value) (us : List Value), us.length = (["_law_rows_here", "_law_deep"] : List Str).length → bindArgs (PySem.W.fnOf "_law_hung" "_law_hung" (defArgs s__law_hung) (defBody s__law_hung) (defScope s__law_hung) .none kV doc pm an cdv ct) ⟨us, []⟩ = pure ((["_law_rows_here", "_law_deep"] : List Str).zip us) := fun _ _ _ _ _ _ us hl => match us, hl with | [_, _], _ => rfl
theorem b__law_free : ∀ (kV doc pm : Value) (an : Option Addr) (cdv ct : Value) (us : List Value), us.length = (["_law_rows_here"] : List Str).length → bindArgs (PySem.W.fnOf "_law_free" "_law_free" (defArgs s__law_free) (defBody s__law_free) (defScope s__law_free) .none kV doc pm an cdv ct) ⟨us, []⟩ = pure ((["_law_rows_here"] : List Str).zip us) := fun _ _ _ _ _ _ us hl => match us, hl with | [_], _ => rfl
theorem b__law_ways : ∀ (kV doc pm : Value) (an : Option Addr) (cdv ct : Value) (us : List Value), us.length = ([] : List Str).length → bindArgs (PySem.W.fnOf "_law_ways" "_law_ways" (defArgs s__law_ways) (defBody s__law_ways) (defScope s__law_ways) .none kV doc pm an cdv ct) ⟨us, []⟩ = pure (([] : List Str).zip us) := fun _ _ _ _ _ _ us hl => match us, hl with | [], _ => rfl
theorem b__law_told : ∀ (kV doc pm : Value) (an : Option Addr) (cdv ct : Value) (us : List Value), us.length = (["_law_sheet", "_law_one", "_law_other"] : List Str).length → bindArgs (PySem.W.fnOf "_law_told" "_law_told" (defArgs s__law_told) (defBody s__law_told) (defScope s__law_told) .none kV doc pm an cdv ct) ⟨us, []⟩ = pure ((["_law_sheet", "_law_one", "_law_other"] : List Str).zip us) := fun _ _ _ _ _ _ us hl => match us, hl with | [_, _, _], _ => rfl
theorem b__law_spot : ∀ (kV doc pm : Value) (an : Option Addr) (cdv ct : Value) (us : List Value), us.length = (["_law_found", "_law_name"] : List Str).length → bindArgs (PySem.W.fnOf "_law_spot" "_law_spot" (defArgs s__law_spot) (defBody s__law_spot) (defScope s__law_spot) .none kV doc pm an cdv ct) ⟨us, []⟩ = pure ((["_law_found", "_law_name"] : List Str).zip us) := fun _ _ _ _ _ _ us hl => match us, hl with | [_, _], _ => rfl
theorem b__law_leads : ∀ (kV doc pm : Value) (an : Option Addr) (cdv ct : Value) (us : List Value), us.length = (["_law_leads_here", "_law_one", "_law_other", "_law_ways_here"] : List Str).length → bindArgs (PySem.W.fnOf "_law_leads" "_law_leads" (defArgs s__law_leads) (defBody s__law_leads) (defScope s__law_leads) .none kV doc pm an cdv ct) ⟨us, []⟩ = pure ((["_law_leads_here", "_law_one", "_law_other", "_law_ways_here"] : List Str).zip us) := fun _ _ _ _ _ _ us hl => match us, hl with | [_, _, _, _], _ => rfl
theorem b__law_shut_out : ∀ (kV doc pm : Value) (an : Option Addr) (cdv ct : Value) (us : List Value), us.length = (["_law_leads_here", "_law_names_here", "_law_one", "_law_other"] : List Str).length → bindArgs (PySem.W.fnOf "_law_shut_out" "_law_shut_out" (defArgs s__law_shut_out) (defBody s__law_shut_out) (defScope s__law_shut_out) .none kV doc pm an cdv ct) ⟨us, []⟩ = pure ((["_law_leads_here", "_law_names_here", "_law_one", "_law_other"] : List Str).zip us) := fun _ _ _ _ _ _ us hl => match us, hl with | [_, _, _, _], _ => rfl
theorem b__law_right : ∀ (kV doc pm : Value) (an : Option Addr) (cdv ct : Value) (us : List Value), us.length = (["_law_told_here", "_law_leads_here", "_law_found", "_law_one", "_law_other"] : List Str).length → bindArgs (PySem.W.fnOf "_law_right" "_law_right" (defArgs s__law_right) (defBody s__law_right) (defScope s__law_right) .none kV doc pm an cdv ct) ⟨us, []⟩ = pure ((["_law_told_here", "_law_leads_here", "_law_found", "_law_one", "_law_other"] : List Str).zip us) := fun _ _ _ _ _ _ us hl => match us, hl with | [_, _, _, _, _], _ => rfl
theorem b_law : ∀ (kV doc pm : Value) (an : Option Addr) (cdv ct : Value) (us : List Value), us.length = (["_law_script"] : List Str).length → bindArgs (PySem.W.fnOf "law" "law" (defArgs s_law) (defBody s_law) (defScope s_law) .none kV doc pm an cdv ct) ⟨us, []⟩ = pure ((["_law_script"] : List Str).zip us) := fun _ _ _ _ _ _ us hl => match us, hl with | [_], _ => rfl
structure Defs (K : PySem.W.Frag) (mg : Str → Option Value) : Prop where
  d_lay_out : Df K mg "lay_out" s_lay_out ["parts", "place", "names", "told"]
  d_entries : Df K mg "entries" s_entries ["sheet"]
  d_entry_of : Df K mg "entry_of" s_entry_of ["sheet", "name"]
  d_part_of : Df K mg "part_of" s_part_of ["sheet", "name"]
  d_words_on : Df K mg "words_on" s_words_on ["told", "entry"]
  d_first_with : Df K mg "first_with" s_first_with ["told", "entry", "word"]
  d_why_in : Df K mg "why_in" s_why_in ["told", "entry"]
  d_why_not : Df K mg "why_not" s_why_not ["sheet", "name"]
  d_ask_open : Df K mg "ask_open" s_ask_open ["sheet", "name"]
  d_seen_or_open : Df K mg "seen_or_open" s_seen_or_open ["sheet", "only"]
  d_open_parts : Df K mg "open_parts" s_open_parts ["sheet"]
  d_across_of : Df K mg "across_of" s_across_of ["box"]
  d_down_of : Df K mg "down_of" s_down_of ["box"]
  d_have_common : Df K mg "have_common" s_have_common ["one", "other"]
  d_far_apart : Df K mg "far_apart" s_far_apart ["one", "other"]
  d_near_by : Df K mg "near_by" s_near_by ["gap", "one", "other"]
  d_nears : Df K mg "nears" s_nears ["box", "other"]
  d_walk : Df K mg "walk" s_walk ["sheet"]
  d_opposite : Df K mg "opposite" s_opposite ["way"]
  d_open_entries : Df K mg "open_entries" s_open_entries ["sheet"]
  d_mates_in : Df K mg "mates_in" s_mates_in ["told", "place"]
  d_nearest_four : Df K mg "nearest_four" s_nearest_four ["some", "box"]
  d_first_inner : Df K mg "first_inner" s_first_inner ["told", "place"]
  d_nearest : Df K mg "nearest" s_nearest ["sheet", "name", "way"]
  d_into : Df K mg "into" s_into ["sheet", "name"]
  d_out_of : Df K mg "out_of" s_out_of ["sheet", "name"]
  d_goes : Df K mg "goes" s_goes ["sheet", "name", "key"]
  d_table_of : Df K mg "table_of" s_table_of ["sheet"]
  d_led_to : Df K mg "led_to" s_led_to ["table", "some", "first", "behind"]
  d_layers : Df K mg "layers" s_layers ["sheet", "name"]
  d_rows_from : Df K mg "rows_from" s_rows_from ["sheet", "one"]
  d_row_to : Df K mg "row_to" s_row_to ["sheet", "one", "other"]
  d_parted : Df K mg "parted" s_parted ["sheet"]
  d__law_feed : Df K mg "_law_feed" s__law_feed ["_law_script"]
  d__law_draw : Df K mg "_law_draw" s__law_draw ["_law_feed_here", "_law_many"]
  d__law_great : Df K mg "_law_great" s__law_great ["_law_feed_here", "_law_pieces"]
  d__law_scale : Df K mg "_law_scale" s__law_scale ["_law_feed_here"]
  d__law_box : Df K mg "_law_box" s__law_box ["_law_feed_here", "_law_style"]
  d__law_scaled : Df K mg "_law_scaled" s__law_scaled ["_law_box_here", "_law_scale_here"]
  d__law_names : Df K mg "_law_names" s__law_names ["_law_feed_here", "_law_many"]
  d__law_above : Df K mg "_law_above" s__law_above ["_law_rows_here", "_law_k"]
  d__law_rows : Df K mg "_law_rows" s__law_rows ["_law_feed_here", "_law_most"]
  d__law_hung : Df K mg "_law_hung" s__law_hung ["_law_rows_here", "_law_deep"]
  d__law_free : Df K mg "_law_free" s__law_free ["_law_rows_here"]
  d__law_ways : Df K mg "_law_ways" s__law_ways []
  d__law_told : Df K mg "_law_told" s__law_told ["_law_sheet", "_law_one", "_law_other"]
  d__law_spot : Df K mg "_law_spot" s__law_spot ["_law_found", "_law_name"]
  d__law_leads : Df K mg "_law_leads" s__law_leads ["_law_leads_here", "_law_one", "_law_other", "_law_ways_here"]
  d__law_shut_out : Df K mg "_law_shut_out" s__law_shut_out ["_law_leads_here", "_law_names_here", "_law_one", "_law_other"]
  d__law_right : Df K mg "_law_right" s__law_right ["_law_told_here", "_law_leads_here", "_law_found", "_law_one", "_law_other"]
  d_law : Df K mg "law" s_law ["_law_script"]
theorem law_all {P : Program} {w : World} {K : PySem.W.Frag} {mg : Str → Option Value} {base : Heap} {C : Addr} (D : Defs K mg) (T : Tx K w mg) (TO : TxO K w mg) (TE : TxE K mg C) {f : Addr} {fd : FuncData} (FL : Fun K "law" "law" s_law f fd) :
    FnOk P w K mg base CX0 30 f fd ["_law_script"] (fun vs H Q _ => ∃ (a : Addr) (ns : List Int), vs = [.ref a] ∧ SqL K H a (ns.map V.int) ∧ ns.length ≤ 63 ∧ ∀ H', Q (.bl true) H') := by
  have C_lay_out : Cal P w K mg base 7 "lay_out" (spLay K 7) := (ok_lay_out D.d_lay_out T 0 7).mono (by decide)
  have C_entries : Cal P w K mg base 8 "entries" (spEntries K) := ok_entries D.d_entries C_lay_out
  have C_entry_of : Cal P w K mg base 9 "entry_of" (spEntryOf K) := ok_entry_of D.d_entry_of C_entries
  have C_part_of : Cal P w K mg base 10 "part_of" (spPartOf K) := ok_part_of D.d_part_of C_entry_of
  have C_seen_or_open : Cal P w K mg base 9 "seen_or_open" (spSeen K) := ok_seen_or_open D.d_seen_or_open T C_entries
  have C_words_on : Cal P w K mg base 8 "words_on" (spWords K) := ok_words_on D.d_words_on (k := 7)
  have C_first_with : Cal P w K mg base 9 "first_with" (spFirst K) := ok_first_with D.d_first_with C_words_on
  have C_why_in : Cal P w K mg base 10 "why_in" (spWhyIn K) := ok_why_in D.d_why_in T C_first_with
  have C_why_not : Cal P w K mg base 11 "why_not" (spWhyNot K) := ok_why_not D.d_why_not (C_entry_of.mono (by decide)) (C_entries.mono (by decide)) C_why_in
  have C_ask_open : Cal P w K mg base 12 "ask_open" (spAsk K) := ok_ask_open D.d_ask_open C_why_not
  have C_open_parts : Cal P w K mg base 10 "open_parts" (spOpens K) := ok_open_parts D.d_open_parts C_seen_or_open
  have C_across_of : Cal P w K mg base 3 "across_of" (spAcross K) := ok_across_of D.d_across_of (k := 2)
  have C_down_of : Cal P w K mg base 3 "down_of" (spDown K) := ok_down_of D.d_down_of (k := 2)
  have C_have_common : Cal P w K mg base 1 "have_common" (spCommon K) := ok_have_common D.d_have_common (k := 0)
  have C_far_apart : Cal P w K mg base 2 "far_apart" (spFar K) := ok_far_apart D.d_far_apart T C_have_common
  have C_near_by : Cal P w K mg base 3 "near_by" (spNear K) := ok_near_by D.d_near_by T (C_have_common.mono (by decide)) C_far_apart
  have C_nears : Cal P w K mg base 4 "nears" (spNears K) := ok_nears D.d_nears C_across_of C_down_of C_near_by
  have C_walk : Cal P w K mg base 11 "walk" (spWalk K) := ok_walk D.d_walk T (C_entries.mono (by decide)) C_open_parts
  have C_opposite : Cal P w K mg base 12 "opposite" (spOpp K) := ok_opposite D.d_opposite TO (k := 11)
  have C_open_entries : Cal P w K mg base 11 "open_entries" (spOents K) := ok_open_entries D.d_open_entries C_open_parts (C_entries.mono (by decide))
  have C_mates_in : Cal P w K mg base 11 "mates_in" (spMates K) := ok_mates_in D.d_mates_in (k := 10)
  have C_nearest_four : Cal P w K mg base 5 "nearest_four" (spFour K) := ok_nearest_four D.d_nearest_four T C_nears
  have C_first_inner : Cal P w K mg base 11 "first_inner" (spFirstIn K) := ok_first_inner D.d_first_inner (k := 10)
  have C_nearest : Cal P w K mg base 13 "nearest" (spNearest K) := ok_nearest D.d_nearest TO C_opposite C_ask_open (C_entry_of.mono (by decide)) (C_nearest_four.mono (by decide)) (C_mates_in.mono (by decide)) (C_open_entries.mono (by decide))
  have C_into : Cal P w K mg base 13 "into" (spInto K) := ok_into D.d_into C_ask_open (C_entry_of.mono (by decide)) (C_first_inner.mono (by decide)) (C_open_entries.mono (by decide))
  have C_out_of : Cal P w K mg base 13 "out_of" (spOut K) := ok_out_of D.d_out_of C_ask_open (C_entry_of.mono (by decide))
  have C_goes : Cal P w K mg base 14 "goes" (spGoes K) := ok_goes D.d_goes T C_into C_out_of C_nearest
  have C_table_of : Cal P w K mg base 12 "table_of" (spTable K) := ok_table_of D.d_table_of T C_open_entries C_walk (C_entries.mono (by decide)) (C_nearest_four.mono (by decide)) C_mates_in C_first_inner
  have C_led_to : Cal P w K mg base 12 "led_to" (spLed K) := ok_led_to D.d_led_to (k := 11)
  have C_layers : Cal P w K mg base 13 "layers" (spLayers K) := ok_layers D.d_layers C_ask_open C_table_of (C_open_parts.mono (by decide)) C_led_to
  have C_rows_from : Cal P w K mg base 13 "rows_from" (spRows K) := ok_rows_from D.d_rows_from T C_table_of
  have C_row_to : CalX P w K mg base 14 "row_to" (spRowTo K C) := ok_row_to (k := 11) D.d_row_to TE (C_part_of.mono (by decide)) (C_ask_open.mono (by decide)) C_rows_from (C_open_parts.mono (by decide))
  have C_parted : Cal P w K mg base 14 "parted" (spParted K) := ok_parted D.d_parted (C_open_parts.mono (by decide)) C_layers
  have C__law_feed : Cal P w K mg base 15 "_law_feed" (spFeed K) := ok__law_feed D.d__law_feed T (k := 14)
  have C__law_draw : Cal P w K mg base 1 "_law_draw" (spDraw K) := ok__law_draw D.d__law_draw T (k := 0)
  have C__law_great : Cal P w K mg base 2 "_law_great" (spGreat K) := ok__law_great D.d__law_great T C__law_draw
  have C__law_scale : Cal P w K mg base 3 "_law_scale" (spScale K) := ok__law_scale D.d__law_scale T (C__law_draw.mono (by decide)) C__law_great
  have C__law_box : Cal P w K mg base 2 "_law_box" (spBox K) := ok__law_box D.d__law_box T C__law_draw
  have C__law_scaled : Cal P w K mg base 3 "_law_scaled" (spScaled K) := ok__law_scaled D.d__law_scaled (k := 2)
  have C__law_names : Cal P w K mg base 2 "_law_names" (spNames K) := ok__law_names D.d__law_names T C__law_draw
  have C__law_above : Cal P w K mg base 3 "_law_above" (spAbove K) := ok__law_above D.d__law_above T (k := 2)
  have C__law_rows : Cal P w K mg base 4 "_law_rows" (spRowsL K) := ok__law_rows D.d__law_rows T (C__law_draw.mono (by decide)) (C__law_names.mono (by decide)) C__law_scale C__law_scaled (C__law_box.mono (by decide)) C__law_above
  have C__law_hung : Cal P w K mg base 15 "_law_hung" (spHung K 6) := (ok__law_hung D.d__law_hung T 9 6).mono (by decide)
  have C__law_free : Cal P w K mg base 4 "_law_free" (spFree K) := ok__law_free D.d__law_free T C__law_above
  have C__law_ways : Cal P w K mg base 1 "_law_ways" (spWays K) := ok__law_ways D.d__law_ways (k := 0)
  have C__law_told : Cal P w K mg base 15 "_law_told" (spTold K) := ok__law_told D.d__law_told TE C_row_to
  have C__law_spot : Cal P w K mg base 2 "_law_spot" (spSpot K) := ok__law_spot D.d__law_spot T (k := 1)
  have C__law_leads : Cal P w K mg base 2 "_law_leads" (spLeads K) := ok__law_leads D.d__law_leads T C__law_ways
  have C__law_shut_out : Cal P w K mg base 2 "_law_shut_out" (spShut K) := ok__law_shut_out D.d__law_shut_out T (k := 1)
  have C__law_right : Cal P w K mg base 3 "_law_right" (spRight K) := ok__law_right D.d__law_right T C__law_spot C__law_leads C__law_shut_out
  have G := ok_law (P := P) (base := base) FL T C__law_feed (C__law_rows.mono (by decide)) C__law_hung (C_open_parts.mono (by decide)) (C__law_free.mono (by decide)) (C__law_ways.mono (by decide)) (C_goes.mono (by decide)) (C_layers.mono (by decide)) C__law_told (C__law_right.mono (by decide)) (C__law_spot.mono (by decide)) (C_parted.mono (by decide))
  exact G.mono (by decide)
def strsAre : List Str → List Value → Prop
  | [], [] => True
  | x :: xs, v :: vs => (∃ t, v = .str x t) ∧ strsAre xs vs
  | _, _ => False
theorem strsAre_vals : ∀ {xs : List Str} {vs : List Value}, strsAre xs vs → Vals (xs.map V.str) vs
  | [], [], _ => .nil
  | x :: xs, v :: vs, h => .cons h.1 (strsAre_vals h.2)
  | [], _ :: _, h => h.elim
  | _ :: _, [], h => h.elim
theorem tup_mk {K : PySem.W.Frag} {a : Addr} {o : Obj} {its : Array Value} {n : Nat} {xs : List Str} (l : K.lookup a = some o) (c : o.cls = .type "tuple") (d : o.data = .seq its n) (z : its.size ≤ 100) (v : strsAre xs its.toList) : ∀ B, FZ.D K B (.ref a) (.tup (xs.map .str)) := fun B =>
  .tup (.inr ⟨o, its, n, l, c, d, Nat.le_trans z (by decide), strsAre_vals v⟩) (Ds.ofStrs xs)
theorem fin_mk {l : PySem.W.OpenLaw} {w : World} {K : PySem.W.Frag} {h : Heap} {mg : Str → Option Value} {fa f C : Addr} {oc kV doc pm cdv ct : Value} {od an : Option Addr} {osl : Array (Option Value)} (X : K.In h) (G : h.Ns mainGlobals mg) (hfa : mg "law" = some (.ref fa)) (a : PySem.W.nsIn K mainGlobals "law" = some (some (.ref f)))
    (lk : K.lookup f = some ⟨oc, od, .func (PySem.W.fnOf "law" "law" (defArgs s_law) (defBody s_law) (defScope s_law) .none kV doc pm an cdv ct), osl⟩) (c : PySem.W.codeIn K cdv "law" = true) (k : PySem.W.keepIn K (.ref f) = true) (D : Defs K mg) (T : Tx K w mg) (TO : TxO K w mg) (TE : TxE K mg C) :
    ∃ fd : FuncData, (∀ (s : Shared) (u : Value), BindsTo s fd ⟨[u], []⟩ [("_law_script", u)]) ∧ ∀ base : Heap, K.In base → base.Ns mainGlobals mg → FnOk l.prog w K mg base CX0 30 fa fd ["_law_script"] (fun vs H Q _ => ∃ (a : Addr) (ns : List Int), vs = [.ref a] ∧ SqL K H a (ns.map V.int) ∧ ns.length ≤ 63 ∧ ∀ H', Q (.bl true) H') := by
  have e := hfa.symm.trans (PySem.W.mg_of X G a)
  cases e
  have F := fun_mk (st := s_law) lk c k
  exact ⟨_, fun s u => .of_eq rfl, fun base _ _ => law_all D T TO TE F⟩
theorem walk {l : PySem.W.OpenLaw} {q : Program} {loose : List PySem.Str} {XP : (PySem.Str → Option Value) → Heap → Prop} {YP : World → Heap → Prop} {d : DefRec} {K : Params → PySem.W.Frag} (hn : l.most = some 63) (hdf : d.params.defaults = [])
    (hY : ∀ (w : World) (h : Heap), YP w h → (K w.params).In h)
    (F : ∀ (w : World) (mg : PySem.Str → Option Value) (fa : Addr) (h : Heap), (K w.params).In h → h.Ns mainGlobals mg → mg d.name = some (.ref fa) →
      ∃ fd : FuncData, (∀ (s : Shared) (u : Value), BindsTo s fd ⟨[u], []⟩ [("_law_script", u)]) ∧ ∀ base : Heap, (K w.params).In base → base.Ns mainGlobals mg → FnOk l.prog w (K w.params) mg base CX0 30 fa fd ["_law_script"] (fun vs H Q _ => ∃ (a : Addr) (ns : List Int), vs = [.ref a] ∧ SqL (K w.params) H a (ns.map V.int) ∧ ns.length ≤ 63 ∧ ∀ H', Q (.bl true) H')) :
    PySem.W.WalkO q loose XP YP l.row.toRowW d [] (fun f vs => PySem.call f vs) :=
  L2.walk_of (n := 63) (k := 30) (x := "_law_script") (CX := fun _ => CX0) (sp := fun w => fun vs H Q _ => ∃ (a : Addr) (ns : List Int), vs = [.ref a] ∧ SqL (K w.params) H a (ns.map V.int) ∧ ns.length ≤ 63 ∧ ∀ H', Q (.bl true) H') hn (by decide) hdf ⟨rfl, by decide, by decide⟩ hY F (fun _ _ a ns hl _ hS => ⟨a, ns, rfl, hS, hl, fun _ => rfl⟩) fun _ _ _ _ _ z => z
theorem txe_mk {K : PySem.W.Frag} {h : Heap} {mg : Str → Option Value} {C C0 fI : Addr} {nm q : Str} {N : Addr} {bs bm sub : List Value} {sn : List Str} {ab : Bool} {col : Option Bool} {dd : Option Addr} {m0 m1 m2 m3 m5 : Option Value} {oc kV doc pm cdv ct : Value} {od an : Option Addr} {osl : Array (Option Value)} (X : K.In h) (G : h.Ns mainGlobals mg)
    (aC : PySem.W.nsIn K mainGlobals "NoWay" = some (some (.ref C))) (aF : PySem.W.nsIn K mainGlobals "FocusError" = some (some (.ref C0)))
    (r1 : PySem.W.readsIn K C0 (.type "type") = true) (r2 : PySem.W.findCls K (.ref C0) (.type "type") "__init__" = some (.val (.builtin "ValueError.__init__"))) (r3 : PySem.W.specialIn K (.ref C0) "__getattribute__" = some (some (.builtin "type.__getattribute__")))
    (xL : K.lookup C = some (excClassObj nm q C N bs bm true sn sub ab col dd m0 m1 m2 m3 m5 "ValueError.__new__")) (hb : PySem.HandSPX.refsVE bm = true)
    (sa : PySem.W.findIn K (.ref C) "__setattr__" = some (some (.builtin "object.__setattr__"))) (ga : PySem.W.findIn K (.ref C) "__getattribute__" = some (some (.builtin "BaseException.__getattribute__"))) (gg : PySem.W.findIn K (.ref C) "__getattr__" = some none) (nb : PySem.W.findIn K (.ref C) "names" = some none)
    (exC : PySem.W.subIn K (.ref C) (.type "BaseException") = some true) (tyC : PySem.W.typeIn K (.ref C) = some (.type "type")) (kC : PySem.W.keepIn K (.ref C) = true) (hd : PySem.W.hasDictIn K C = true) (te : PySem.W.exmOne K (.ref C) (.ref C) = some true)
    (iC : PySem.W.findIn K (.ref C) "__init__" = some (some (.ref fI))) (tI : PySem.W.typeIn K (.ref fI) = some (.type "function"))
    (lI : K.lookup fI = some ⟨oc, od, .func (PySem.W.fnOf "__init__" "NoWay.__init__" (defArgs s_ninit) (defBody s_ninit) (defScope s_ninit) .none kV doc pm an cdv ct), osl⟩) (cI : PySem.W.codeIn K cdv "NoWay.__init__" = true) (kI : PySem.W.keepIn K (.ref fI) = true) : TxE K mg C := by
  have F := fun_mk (st := s_ninit) lI cI kI
  exact ⟨PySem.W.mg_of X G aC, ⟨C0, PySem.W.mg_of X G aF, r1, r2, r3⟩, ⟨⟨nm, q, N, bs, bm, sn, sub, ab, col, dd, m0, m1, m2, m3, m5, xL, hb⟩, sa, exC, tyC, kC⟩, nb, ⟨fI, _, iC, tI, F, F.binds fun _ _ _ _ _ _ us hl => match us, hl with | [_, _], _ => rfl⟩, ⟨ga, gg, exC, hd⟩, te⟩
end FW
open PySem PySem.W PyProof.Rows
set_option maxHeartbeats 0 in
open_top head for PySem.Challenge.rw_focuswalk_k47_whole_each_reached_or_shut
set_option maxHeartbeats 0 in
theorem PySem.Challenge.cw_focuswalk_k47_whole_each_reached_or_shut_holds : PySem.Challenge.rw_focuswalk_k47_whole_each_reached_or_shut.Holds := by
  refine head ?_
  k_fill
  refine FW.walk (l := PySem.Challenge.rw_focuswalk_k47_whole_each_reached_or_shut) rfl rfl (fun w h Y => PySem.W.kIn_of Y) ?F
  case F =>
    intro w mg fa h KX G hmg
    refine' FW.fin_mk KX G hmg ?aL ?lL ?cL ?kL ?D ?T ?TO ?TE
    (case aL => k_is)
    (case lL => k_is)
    (case cL => k_is)
    (case kL => k_is)
    case D =>
      refine' ⟨?d_lay_out, ?d_entries, ?d_entry_of, ?d_part_of, ?d_words_on, ?d_first_with, ?d_why_in, ?d_why_not, ?d_ask_open, ?d_seen_or_open, ?d_open_parts, ?d_across_of, ?d_down_of, ?d_have_common, ?d_far_apart, ?d_near_by, ?d_nears, ?d_walk, ?d_opposite, ?d_open_entries, ?d_mates_in, ?d_nearest_four, ?d_first_inner, ?d_nearest, ?d_into, ?d_out_of, ?d_goes, ?d_table_of, ?d_led_to, ?d_layers, ?d_rows_from, ?d_row_to, ?d_parted, ?d__law_feed, ?d__law_draw, ?d__law_great, ?d__law_scale, ?d__law_box, ?d__law_scaled, ?d__law_names, ?d__law_above, ?d__law_rows, ?d__law_hung, ?d__law_free, ?d__law_ways, ?d__law_told, ?d__law_spot, ?d__law_leads, ?d__law_shut_out, ?d__law_right, ?d_law⟩
      case d_lay_out =>
        refine' FW.df_mk KX G ?a ?l ?c ?k FW.b_lay_out
        (case a => k_is)
        (case l => k_is)
        (case c => k_is)
        (case k => k_is)
      case d_entries =>
        refine' FW.df_mk KX G ?a ?l ?c ?k FW.b_entries
        (case a => k_is)
        (case l => k_is)
        (case c => k_is)
        (case k => k_is)
      case d_entry_of =>
        refine' FW.df_mk KX G ?a ?l ?c ?k FW.b_entry_of
        (case a => k_is)
        (case l => k_is)
        (case c => k_is)
        (case k => k_is)
      case d_part_of =>
        refine' FW.df_mk KX G ?a ?l ?c ?k FW.b_part_of
        (case a => k_is)
        (case l => k_is)
        (case c => k_is)
        (case k => k_is)
      case d_words_on =>
        refine' FW.df_mk KX G ?a ?l ?c ?k FW.b_words_on
        (case a => k_is)
        (case l => k_is)
        (case c => k_is)
        (case k => k_is)
      case d_first_with =>
        refine' FW.df_mk KX G ?a ?l ?c ?k FW.b_first_with
        (case a => k_is)
        (case l => k_is)
        (case c => k_is)
        (case k => k_is)
      case d_why_in =>
        refine' FW.df_mk KX G ?a ?l ?c ?k FW.b_why_in
        (case a => k_is)
        (case l => k_is)
        (case c => k_is)
        (case k => k_is)
      case d_why_not =>
        refine' FW.df_mk KX G ?a ?l ?c ?k FW.b_why_not
        (case a => k_is)
        (case l => k_is)
        (case c => k_is)
        (case k => k_is)
      case d_ask_open =>
        refine' FW.df_mk KX G ?a ?l ?c ?k FW.b_ask_open
        (case a => k_is)
        (case l => k_is)
        (case c => k_is)
        (case k => k_is)
      case d_seen_or_open =>
        refine' FW.df_mk KX G ?a ?l ?c ?k FW.b_seen_or_open
        (case a => k_is)
        (case l => k_is)
        (case c => k_is)
        (case k => k_is)
      case d_open_parts =>
        refine' FW.df_mk KX G ?a ?l ?c ?k FW.b_open_parts
        (case a => k_is)
        (case l => k_is)
        (case c => k_is)
        (case k => k_is)
      case d_across_of =>
        refine' FW.df_mk KX G ?a ?l ?c ?k FW.b_across_of
        (case a => k_is)
        (case l => k_is)
        (case c => k_is)
        (case k => k_is)
      case d_down_of =>
        refine' FW.df_mk KX G ?a ?l ?c ?k FW.b_down_of
        (case a => k_is)
        (case l => k_is)
        (case c => k_is)
        (case k => k_is)
      case d_have_common =>
        refine' FW.df_mk KX G ?a ?l ?c ?k FW.b_have_common
        (case a => k_is)
        (case l => k_is)
        (case c => k_is)
        (case k => k_is)
      case d_far_apart =>
        refine' FW.df_mk KX G ?a ?l ?c ?k FW.b_far_apart
        (case a => k_is)
        (case l => k_is)
        (case c => k_is)
        (case k => k_is)
      case d_near_by =>
        refine' FW.df_mk KX G ?a ?l ?c ?k FW.b_near_by
        (case a => k_is)
        (case l => k_is)
        (case c => k_is)
        (case k => k_is)
      case d_nears =>
        refine' FW.df_mk KX G ?a ?l ?c ?k FW.b_nears
        (case a => k_is)
        (case l => k_is)
        (case c => k_is)
        (case k => k_is)
      case d_walk =>
        refine' FW.df_mk KX G ?a ?l ?c ?k FW.b_walk
        (case a => k_is)
        (case l => k_is)
        (case c => k_is)
        (case k => k_is)
      case d_opposite =>
        refine' FW.df_mk KX G ?a ?l ?c ?k FW.b_opposite
        (case a => k_is)
        (case l => k_is)
        (case c => k_is)
        (case k => k_is)
      case d_open_entries =>
        refine' FW.df_mk KX G ?a ?l ?c ?k FW.b_open_entries
        (case a => k_is)
        (case l => k_is)
        (case c => k_is)
        (case k => k_is)
      case d_mates_in =>
        refine' FW.df_mk KX G ?a ?l ?c ?k FW.b_mates_in
        (case a => k_is)
        (case l => k_is)
        (case c => k_is)
        (case k => k_is)
      case d_nearest_four =>
        refine' FW.df_mk KX G ?a ?l ?c ?k FW.b_nearest_four
        (case a => k_is)
        (case l => k_is)
        (case c => k_is)
        (case k => k_is)
      case d_first_inner =>
        refine' FW.df_mk KX G ?a ?l ?c ?k FW.b_first_inner
        (case a => k_is)
        (case l => k_is)
        (case c => k_is)
        (case k => k_is)
      case d_nearest =>
        refine' FW.df_mk KX G ?a ?l ?c ?k FW.b_nearest
        (case a => k_is)
        (case l => k_is)
        (case c => k_is)
        (case k => k_is)
      case d_into =>
        refine' FW.df_mk KX G ?a ?l ?c ?k FW.b_into
        (case a => k_is)
        (case l => k_is)
        (case c => k_is)
        (case k => k_is)
      case d_out_of =>
        refine' FW.df_mk KX G ?a ?l ?c ?k FW.b_out_of
        (case a => k_is)
        (case l => k_is)
        (case c => k_is)
        (case k => k_is)
      case d_goes =>
        refine' FW.df_mk KX G ?a ?l ?c ?k FW.b_goes
        (case a => k_is)
        (case l => k_is)
        (case c => k_is)
        (case k => k_is)
      case d_table_of =>
        refine' FW.df_mk KX G ?a ?l ?c ?k FW.b_table_of
        (case a => k_is)
        (case l => k_is)
        (case c => k_is)
        (case k => k_is)
      case d_led_to =>
        refine' FW.df_mk KX G ?a ?l ?c ?k FW.b_led_to
        (case a => k_is)
        (case l => k_is)
        (case c => k_is)
        (case k => k_is)
      case d_layers =>
        refine' FW.df_mk KX G ?a ?l ?c ?k FW.b_layers
        (case a => k_is)
        (case l => k_is)
        (case c => k_is)
        (case k => k_is)
      case d_rows_from =>
        refine' FW.df_mk KX G ?a ?l ?c ?k FW.b_rows_from
        (case a => k_is)
        (case l => k_is)
        (case c => k_is)
        (case k => k_is)
      case d_row_to =>
        refine' FW.df_mk KX G ?a ?l ?c ?k FW.b_row_to
        (case a => k_is)
        (case l => k_is)
        (case c => k_is)
        (case k => k_is)
      case d_parted =>
        refine' FW.df_mk KX G ?a ?l ?c ?k FW.b_parted
        (case a => k_is)
        (case l => k_is)
        (case c => k_is)
        (case k => k_is)
      case d__law_feed =>
        refine' FW.df_mk KX G ?a ?l ?c ?k FW.b__law_feed
        (case a => k_is)
        (case l => k_is)
        (case c => k_is)
        (case k => k_is)
      case d__law_draw =>
        refine' FW.df_mk KX G ?a ?l ?c ?k FW.b__law_draw
        (case a => k_is)
        (case l => k_is)
        (case c => k_is)
        (case k => k_is)
      case d__law_great =>
        refine' FW.df_mk KX G ?a ?l ?c ?k FW.b__law_great
        (case a => k_is)
        (case l => k_is)
        (case c => k_is)
        (case k => k_is)
      case d__law_scale =>
        refine' FW.df_mk KX G ?a ?l ?c ?k FW.b__law_scale
        (case a => k_is)
        (case l => k_is)
        (case c => k_is)
        (case k => k_is)
      case d__law_box =>
        refine' FW.df_mk KX G ?a ?l ?c ?k FW.b__law_box
        (case a => k_is)
        (case l => k_is)
        (case c => k_is)
        (case k => k_is)
      case d__law_scaled =>
        refine' FW.df_mk KX G ?a ?l ?c ?k FW.b__law_scaled
        (case a => k_is)
        (case l => k_is)
        (case c => k_is)
        (case k => k_is)
      case d__law_names =>
        refine' FW.df_mk KX G ?a ?l ?c ?k FW.b__law_names
        (case a => k_is)
        (case l => k_is)
        (case c => k_is)
        (case k => k_is)
      case d__law_above =>
        refine' FW.df_mk KX G ?a ?l ?c ?k FW.b__law_above
        (case a => k_is)
        (case l => k_is)
        (case c => k_is)
        (case k => k_is)
      case d__law_rows =>
        refine' FW.df_mk KX G ?a ?l ?c ?k FW.b__law_rows
        (case a => k_is)
        (case l => k_is)
        (case c => k_is)
        (case k => k_is)
      case d__law_hung =>
        refine' FW.df_mk KX G ?a ?l ?c ?k FW.b__law_hung
        (case a => k_is)
        (case l => k_is)
        (case c => k_is)
        (case k => k_is)
      case d__law_free =>
        refine' FW.df_mk KX G ?a ?l ?c ?k FW.b__law_free
        (case a => k_is)
        (case l => k_is)
        (case c => k_is)
        (case k => k_is)
      case d__law_ways =>
        refine' FW.df_mk KX G ?a ?l ?c ?k FW.b__law_ways
        (case a => k_is)
        (case l => k_is)
        (case c => k_is)
        (case k => k_is)
      case d__law_told =>
        refine' FW.df_mk KX G ?a ?l ?c ?k FW.b__law_told
        (case a => k_is)
        (case l => k_is)
        (case c => k_is)
        (case k => k_is)
      case d__law_spot =>
        refine' FW.df_mk KX G ?a ?l ?c ?k FW.b__law_spot
        (case a => k_is)
        (case l => k_is)
        (case c => k_is)
        (case k => k_is)
      case d__law_leads =>
        refine' FW.df_mk KX G ?a ?l ?c ?k FW.b__law_leads
        (case a => k_is)
        (case l => k_is)
        (case c => k_is)
        (case k => k_is)
      case d__law_shut_out =>
        refine' FW.df_mk KX G ?a ?l ?c ?k FW.b__law_shut_out
        (case a => k_is)
        (case l => k_is)
        (case c => k_is)
        (case k => k_is)
      case d__law_right =>
        refine' FW.df_mk KX G ?a ?l ?c ?k FW.b__law_right
        (case a => k_is)
        (case l => k_is)
        (case c => k_is)
        (case k => k_is)
      case d_law =>
        refine' FW.df_mk KX G ?a ?l ?c ?k FW.b_law
        (case a => k_is)
        (case l => k_is)
        (case c => k_is)
        (case k => k_is)
    case T =>
      refine' ⟨PySem.W.mg_none_of KX G ?z_len, PySem.W.mg_none_of KX G ?z_range, PySem.W.mg_none_of KX G ?z_enumerate, PySem.W.mg_none_of KX G ?z_zip, PySem.W.mg_none_of KX G ?z_reversed, PySem.W.mg_none_of KX G ?z_any, PySem.W.mg_none_of KX G ?z_all, PySem.W.mg_none_of KX G ?z_sorted, PySem.W.mg_none_of KX G ?z_max, PySem.W.mg_none_of KX G ?z_min, PySem.W.mg_none_of KX G ?z_int, PySem.W.mg_none_of KX G ?z_tuple, PySem.W.mg_none_of KX G ?z_list, ⟨_, (PySem.W.mg_of KX G ?z_FREE).trans ?e_FREE⟩, ⟨_, (PySem.W.mg_of KX G ?z_SHUT).trans ?e_SHUT⟩, ⟨_, (PySem.W.mg_of KX G ?z_HIDDEN).trans ?e_HIDDEN⟩, ⟨_, PySem.W.mg_of KX G ?z_SIDES, FW.tup_mk (xs := ["up", "down", "left", "right"]) ?l_SIDES ?c_SIDES ?d_SIDES ?s_SIDES ?v_SIDES⟩, ⟨_, PySem.W.mg_of KX G ?z_KEYS, FW.tup_mk (xs := ["on", "back", "up", "down", "left", "right", "into", "out"]) ?l_KEYS ?c_KEYS ?d_KEYS ?s_KEYS ?v_KEYS⟩, ⟨_, PySem.W.mg_of KX G ?z_WAYS, FW.tup_mk (xs := ["up", "down", "left", "right", "into", "out"]) ?l_WAYS ?c_WAYS ?d_WAYS ?s_WAYS ?v_WAYS⟩⟩
      (case z_len => k_is)
      (case z_range => k_is)
      (case z_enumerate => k_is)
      (case z_zip => k_is)
      (case z_reversed => k_is)
      (case z_any => k_is)
      (case z_all => k_is)
      (case z_sorted => k_is)
      (case z_max => k_is)
      (case z_min => k_is)
      (case z_int => k_is)
      (case z_tuple => k_is)
      (case z_list => k_is)
      (case z_FREE => k_is)
      (case e_FREE => rfl)
      (case z_SHUT => k_is)
      (case e_SHUT => rfl)
      (case z_HIDDEN => k_is)
      (case e_HIDDEN => rfl)
      (case z_SIDES => k_is)
      (case l_SIDES => k_is)
      (case c_SIDES => rfl)
      (case d_SIDES => rfl)
      (case s_SIDES => decide)
      (case v_SIDES => exact ⟨⟨_, rfl⟩, ⟨_, rfl⟩, ⟨_, rfl⟩, ⟨_, rfl⟩, trivial⟩)
      (case z_KEYS => k_is)
      (case l_KEYS => k_is)
      (case c_KEYS => rfl)
      (case d_KEYS => rfl)
      (case s_KEYS => decide)
      (case v_KEYS => exact ⟨⟨_, rfl⟩, ⟨_, rfl⟩, ⟨_, rfl⟩, ⟨_, rfl⟩, ⟨_, rfl⟩, ⟨_, rfl⟩, ⟨_, rfl⟩, ⟨_, rfl⟩, trivial⟩)
      (case z_WAYS => k_is)
      (case l_WAYS => k_is)
      (case c_WAYS => rfl)
      (case d_WAYS => rfl)
      (case s_WAYS => decide)
      (case v_WAYS => exact ⟨⟨_, rfl⟩, ⟨_, rfl⟩, ⟨_, rfl⟩, ⟨_, rfl⟩, ⟨_, rfl⟩, ⟨_, rfl⟩, trivial⟩)
    case TO =>
      refine' ⟨⟨_, _, _, PySem.W.mg_of KX G ?zO, ⟨?aO, ?lO, ?wO⟩, ?kO⟩, ⟨_, _, PySem.W.mg_of KX G ?zS, ?lS, ?cS, ?nS, FW.tup_mk (xs := ["up", "down", "left", "right"]) ?lS ?cS ?dS ?sS ?vS⟩⟩
      (case zO => k_is)
      (case aO => k_is)
      (case lO => k_keys)
      (case wO => decide +kernel)
      (case kO =>
        intro x hx
        simp only [List.mem_cons, List.not_mem_nil, or_false] at hx
        rcases hx with rfl | rfl | rfl | rfl
        · exact ⟨_, _, by k_is⟩
        · exact ⟨_, _, by k_is⟩
        · exact ⟨_, _, by k_is⟩
        · exact ⟨_, _, by k_is⟩)
      (case zS => k_is)
      (case lS => k_is)
      (case cS => rfl)
      (case nS => rfl)
      (case dS => rfl)
      (case sS => decide)
      (case vS => exact ⟨⟨_, rfl⟩, ⟨_, rfl⟩, ⟨_, rfl⟩, ⟨_, rfl⟩, trivial⟩)
    case TE =>
      refine' FW.txe_mk KX G ?aC ?aF ?r1 ?r2 ?r3 ?xL ?hb ?sa ?ga ?gg ?nb ?exC ?tyC ?kC ?hd ?te ?iC ?tI ?lI ?cI ?kI
      (case aC => k_is)
      (case aF => k_is)
      (case r1 => first | k_is | kernel_rfl | decide +kernel)
      (case r2 => first | k_is | kernel_rfl | decide +kernel)
      (case r3 => first | k_is | kernel_rfl | decide +kernel)
      (case xL => k_is)
      (case hb => decide +kernel)
      (case sa => k_is)
      (case ga => k_is)
      (case gg => k_is)
      (case nb => k_is)
      (case exC => k_is)
      (case tyC => k_is)
      (case kC => k_is)
      (case hd => k_is)
      (case te => first | rfl | k_is | kernel_rfl)
      (case iC => k_is)
      (case tI => k_is)
      (case lI => k_is)
      (case cI => k_is)
      (case kI => k_is)

