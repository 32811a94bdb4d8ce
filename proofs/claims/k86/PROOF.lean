import PyProof.Rows.All
import Wide.All
import OpenK.AllK
import Wide.FinOn
import HandS.ForMost
import HandS.EndBits
import HandS.Wide
import HandS.WideBits
import HandS.Flow
import HandS.Strs
import HandS.Style
import HandS.TupLe
import HandS.TupAny
import HandS.TupMul
import HandS.IsInst
import HandS.RaiseMore
import HandS.Zip
import HandS.StrMore
import HandS.Conv
import HandS.Deep
import PyProof.ReprRoads
import KE.GoesMore
import KE.GoesEnum
import PyProof.Rows.StrRev
import KE.KRevSl
import HandS.Text
import PyProof.Rows.RegReprOcc
import HandS.GenList
import HandS.Defaults
import HandS.SetFor
import PyProof.Rows.SetFrom
import PyProof.SetRoads
import KE.KDictCopyH
import HandS.Star
import KE.GoesZip
import PyProof.ListNew
import HandS.TupSets
import KE.KDictKeyed
import KE.SortData
import KE.KDictLaws
import KE.KDictSum
import HandS.ExcValue
import HandS.ExcOwn
import KE.KDictWalk
import KE.KDictPairs
import KE.KUnpackStar
import HandS.SetKeys
import HandS.TryOnly
import HandS.ExcInit
import HandS.ExcField
import HandS.FStr
import PyProof.TupleOfGen
import HandS.DictComp
import HandS.WordsExc
import KE.KExcIs
import KE.DatumOrd
import HandS.TupLen
import HandS.Property
import KE.KSetDisp
import HandS.SetBool
import PySem.Challenge.RW_pastenough_k86_whole_no_fixed_table_is_b
set_option Elab.async false
set_option linter.all false
set_option maxRecDepth 100000
set_option maxHeartbeats 4000000
/-! Data level over the hand layer: values as data, boxes of draws, owned lists. -/
namespace Dl
open PySem L2

/-! ### data: the kit's, and dicts with texts as keys -/
mutual
inductive Dp (K : PySem.W.Frag) (H : Hp) : V → PyData → Prop
  | non : Dp K H .non .none
  | bl (b : Bool) : Dp K H (.bl b) (.bool b)
  | int (i : Int) : Dp K H (.int i) (.int i)
  | str (x : Str) : Dp K H (.str x) (.str x)
  | lst {a : Addr} {xs : List V} {ds : List PyData} : SqL K H a xs → DpAll K H xs ds → Dp K H (.ref a) (.list ds)
  | tup {a : Addr} {xs : List V} {ds : List PyData} : SqT K H a xs → DpAll K H xs ds → Dp K H (.ref a) (.tuple ds)
  | dic {a : Addr} {kv : List (Str × V)} {kvs : List (PyData × PyData)} : H a = some (.dK (kv.map fun p => (Sum.inr p.1, p.2))) → kvs.map (·.1) = kv.map (fun p => PyData.str p.1) → DpAll K H (kv.map (·.2)) (kvs.map (·.2)) → Dp K H (.ref a) (.dict kvs)
inductive DpAll (K : PySem.W.Frag) (H : Hp) : List V → List PyData → Prop
  | nil : DpAll K H [] []
  | cons {v : V} {vs : List V} {d : PyData} {ds : List PyData} : Dp K H v d → DpAll K H vs ds → DpAll K H (v :: vs) (d :: ds)
end
mutual
/-- without dicts it is the kit's -/
theorem Dp.kit {K : PySem.W.Frag} {H : Hp} : ∀ {x : PyData} {v : V}, x.hasDict = false → Dp K H v x → L2.Dp K H v x
  | .none, _, _, h => by cases h; exact .non
  | .bool b, _, _, h => by cases h; exact .bl b
  | .int i, _, _, h => by cases h; exact .int i
  | .str s, _, _, h => by cases h; exact .str s
  | .list xs, _, d, h => by
    cases h with
    | lst h1 h2 => exact .lst h1 (DpAll.kit (by unfold PyData.hasDict at d; exact d) h2)
  | .tuple xs, _, d, h => by
    cases h with
    | tup h1 h2 => exact .tup h1 (DpAll.kit (by unfold PyData.hasDict at d; exact d) h2)
  | .dict kvs, _, d, h => by unfold PyData.hasDict at d; cases d
theorem DpAll.kit {K : PySem.W.Frag} {H : Hp} : ∀ {xs : List PyData} {vs : List V}, PyData.hasDictAll xs = false → DpAll K H vs xs → L2.DpAll K H vs xs
  | [], _, _, h => by cases h; exact .nil
  | x :: xs, _, d, h => by
    unfold PyData.hasDictAll at d
    rw [Bool.or_eq_false_iff] at d
    cases h with
    | cons h1 h2 => exact .cons (Dp.kit d.1 h1) (DpAll.kit d.2 h2)
end
mutual
theorem shp_nd : ∀ x : PyData, PyData.canLay0 x = true → x.hasDict = false
  | .none, _ => rfl
  | .bool _, _ => rfl
  | .int _, _ => rfl
  | .str _, _ => rfl
  | .list xs, h => by unfold PyData.hasDict; exact shp_ndA xs h
  | .tuple xs, h => by unfold PyData.hasDict; exact shp_ndA xs h
  | .dict kvs, h => by cases h
theorem shp_ndA : ∀ xs : List PyData, PyData.canLayAll0 xs = true → PyData.hasDictAll xs = false
  | [], _ => rfl
  | x :: xs, h => by
    unfold PyData.canLayAll0 at h
    rw [Bool.and_eq_true] at h
    unfold PyData.hasDictAll
    rw [shp_nd x h.1, shp_ndA xs h.2]
    rfl
end
theorem shaped_nd {x : PyData} (h : SeqAt.shaped x = true) : x.hasDict = false := by
  unfold SeqAt.shaped at h
  rw [Bool.and_eq_true] at h
  exact shp_nd x h.1
/-- a thing of one's own that is no list: what stands at its address -/
structure OwnT where
  rel : PySem.W.Frag → Hp → Addr → HO → Prop
  mono : ∀ {K : PySem.W.Frag} {B B' : Hp} {a : Addr} {o : HO}, Same B B' → rel K B a o → rel K B' a o
inductive RV where
  | d (x : PyData)
  | new (xs : List PyData)
  | bor (xs : List PyData)
  | box
  | nbox
  | own (T : OwnT)
  | obj (a : Addr)
/-- a thing of one's own -/
noncomputable def isOwn : RV → Prop
  | .new _ => True
  | .own _ => True
  | _ => False

/-! ### heaps -/
theorem seqT {K : PySem.W.Frag} {H H' : Hp} {a : Addr} {xs : List V} (e : Same H H') (h : SqT K H a xs) : SqT K H' a xs := by
  rcases h with (h | ⟨o, h⟩) | h
  · exact .inl (.inl (e _ _ h))
  · exact .inl (.inr ⟨o, e _ _ h⟩)
  · exact .inr h
mutual
theorem dpS {K : PySem.W.Frag} {B B' : Hp} (e : Same B B') : ∀ {v : V} {x : PyData}, Dp K B v x → Dp K B' v x
  | _, _, .non => .non
  | _, _, .bl b => .bl b
  | _, _, .int i => .int i
  | _, _, .str s => .str s
  | _, _, .lst h1 h2 => .lst (e.seq h1) (dpSA e h2)
  | _, _, .tup h1 h2 => .tup (seqT e h1) (dpSA e h2)
  | _, _, .dic h1 h2 h3 => .dic (e _ _ h1) h2 (dpSA e h3)
theorem dpSA {K : PySem.W.Frag} {B B' : Hp} (e : Same B B') : ∀ {vs : List V} {xs : List PyData}, DpAll K B vs xs → DpAll K B' vs xs
  | _, _, .nil => .nil
  | _, _, .cons h1 h2 => .cons (dpS e h1) (dpSA e h2)
end
theorem dpSame {K : PySem.W.Frag} {B B' : Hp} (e : Same B B') (x : PyData) (v : V) (h : Dp K B v x) : Dp K B' v x := dpS e h
theorem dpSameAll {K : PySem.W.Frag} {B B' : Hp} (e : Same B B') (xs : List PyData) (vs : List V) (h : DpAll K B vs xs) : DpAll K B' vs xs := dpSA e h
theorem dpLen {K : PySem.W.Frag} {B : Hp} : ∀ (xs : List PyData) (vs : List V), DpAll K B vs xs → vs.length = xs.length
  | [], vs, h => by cases h; rfl
  | x :: xs, vs, h => by
    cases h with
    | cons h1 h2 =>
      rw [List.length_cons, List.length_cons, dpLen xs _ h2]
theorem dpGet {K : PySem.W.Frag} {B : Hp} : ∀ (xs : List PyData) (vs : List V) (i : Nat) (x : PyData), DpAll K B vs xs → xs[i]? = some x → ∃ v, vs[i]? = some v ∧ Dp K B v x
  | [], vs, i, x, h, e => by simp at e
  | y :: xs, vs, 0, x, h, e => by
    cases h with
    | cons h1 h2 =>
      have e' : y = x := Option.some.inj e
      subst e'
      exact ⟨_, rfl, h1⟩
  | y :: xs, vs, i + 1, x, h, e => by
    cases h with
    | cons h1 h2 =>
      obtain ⟨v, e1, e2⟩ := dpGet xs _ i x h2 (by simpa using e)
      exact ⟨v, by simpa using e1, e2⟩
theorem dpApp {K : PySem.W.Frag} {B : Hp} : ∀ (xs ys : List PyData) (vs us : List V), DpAll K B vs xs → DpAll K B us ys → DpAll K B (vs ++ us) (xs ++ ys)
  | [], ys, vs, us, h, g => by cases h; exact g
  | x :: xs, ys, vs, us, h, g => by
    cases h with
    | cons h1 h2 => exact .cons h1 (dpApp xs ys _ us h2 g)
theorem dpTake {K : PySem.W.Frag} {B : Hp} : ∀ (n : Nat) (xs : List PyData) (vs : List V), DpAll K B vs xs → DpAll K B (vs.take n) (xs.take n)
  | 0, xs, vs, h => .nil
  | n + 1, [], vs, h => by cases h; exact .nil
  | n + 1, x :: xs, vs, h => by
    cases h with
    | cons h1 h2 => exact .cons h1 (dpTake n xs _ h2)
theorem dpDrop {K : PySem.W.Frag} {B : Hp} : ∀ (n : Nat) (xs : List PyData) (vs : List V), DpAll K B vs xs → DpAll K B (vs.drop n) (xs.drop n)
  | 0, xs, vs, h => h
  | n + 1, [], vs, h => by cases h; exact .nil
  | n + 1, x :: xs, vs, h => by
    cases h with
    | cons h1 h2 => exact dpDrop n xs _ h2
theorem dpSet {K : PySem.W.Frag} {B : Hp} {v : V} {x : PyData} (hx : Dp K B v x) : ∀ (n : Nat) (xs : List PyData) (vs : List V), DpAll K B vs xs → DpAll K B (vs.set n v) (xs.set n x)
  | _, [], vs, h => by cases h; exact .nil
  | 0, y :: xs, vs, h => by
    cases h with
    | cons h1 h2 => exact .cons hx h2
  | n + 1, y :: xs, vs, h => by
    cases h with
    | cons h1 h2 => exact .cons h1 (dpSet hx n xs _ h2)
theorem dpRep {K : PySem.W.Frag} {B : Hp} {xs : List PyData} {vs : List V} (h : DpAll K B vs xs) : ∀ n : Nat, DpAll K B (List.replicate n vs).flatten (List.replicate n xs).flatten
  | 0 => .nil
  | n + 1 => by
    rw [List.replicate_succ, List.replicate_succ, List.flatten_cons, List.flatten_cons]
    exact dpApp _ _ _ _ h (dpRep h n)
theorem dpInts {K : PySem.W.Frag} {B : Hp} : ∀ ns : List Int, DpAll K B (ns.map V.int) (ns.map PyData.int)
  | [] => .nil
  | n :: ns => .cons (.int n) (dpInts ns)
theorem ofInts {K : PySem.W.Frag} {B : Hp} : ∀ (ns : List Int) (vs : List V), DpAll K B vs (ns.map PyData.int) → vs = ns.map V.int
  | [], vs, h => by cases h; rfl
  | n :: ns, vs, h => by
    cases h with
    | cons h1 h2 =>
      cases h1
      rw [ofInts ns _ h2]
      rfl
theorem ofBools {K : PySem.W.Frag} {B : Hp} : ∀ (ns : List Bool) (vs : List V), DpAll K B vs (ns.map PyData.bool) → vs = ns.map V.bl
  | [], vs, h => by cases h; rfl
  | n :: ns, vs, h => by
    cases h with
    | cons h1 h2 =>
      cases h1
      rw [ofBools ns _ h2]
      rfl
theorem ofStrs {K : PySem.W.Frag} {B : Hp} : ∀ (ns : List Str) (vs : List V), DpAll K B vs (ns.map PyData.str) → vs = ns.map V.str
  | [], vs, h => by cases h; rfl
  | n :: ns, vs, h => by
    cases h with
    | cons h1 h2 =>
      cases h1
      rw [ofStrs ns _ h2]
      rfl

/-! ### boxes -/
noncomputable def BoxAt (H : Hp) (b : Addr) (n : Nat) : Prop :=
  ∃ (o z : Int) (c : Nat), H b = some (.lst [.int o, .int z, .int (c : Int)]) ∧ 0 ≤ o ∧ o < 2 ^ 1000 ∧ 0 ≤ z ∧ z < 2 ^ 62 ∧ c ≤ n
theorem BoxAt.mono {H : Hp} {b : Addr} {n m : Nat} (h : BoxAt H b n) (e : n ≤ m) : BoxAt H b m := by
  obtain ⟨o, z, c, h1, h2, h3, h4, h5, h6⟩ := h
  exact ⟨o, z, c, h1, h2, h3, h4, h5, Nat.le_trans h6 e⟩
theorem BoxAt.ne {H : Hp} {b : Addr} {n : Nat} (h : BoxAt H b n) : H b ≠ none := by
  obtain ⟨o, z, c, h1, _⟩ := h
  rw [h1]
  exact fun q => nomatch q
theorem BoxAt.keep {H H' : Hp} {b : Addr} {n : Nat} (h : BoxAt H b n) (e : ∀ o, H b = some o → H' b = some o) : BoxAt H' b n := by
  obtain ⟨o, z, c, h1, h2⟩ := h
  exact ⟨o, z, c, e _ h1, h2⟩

/-! ### relations -/
noncomputable def ValR (K : PySem.W.Frag) (bxs : List Addr) (n : Nat) (B H : Hp) : RV → V → Prop
  | .d x, v => Dp K B v x
  | .new xs, v => ∃ p vs, v = .ref p ∧ p ∉ bxs ∧ B p = none ∧ H p = some (.lst vs) ∧ DpAll K B vs xs
  | .bor xs, v => ∃ p vs, v = .ref p ∧ p ∉ bxs ∧ B p = none ∧ H p = some (.lst vs) ∧ DpAll K B vs xs
  | .box, v => ∃ b, v = .ref b ∧ b ∈ bxs
  | .nbox, v => ∃ b, v = .ref b ∧ b ∉ bxs ∧ B b = none ∧ BoxAt H b n
  | .own T, v => ∃ p o, v = .ref p ∧ p ∉ bxs ∧ B p = none ∧ H p = some o ∧ T.rel K B p o
  | .obj a, v => v = .ref a
/-- what is new is new -/
noncomputable def FrR (H : Hp) : RV → V → Prop
  | .new _, v => ∃ p, v = .ref p ∧ H p = none
  | .nbox, v => ∃ p, v = .ref p ∧ H p = none
  | .own _, v => ∃ p, v = .ref p ∧ H p = none
  | _, _ => True
structure Good (bxs : List Addr) (n : Nat) (B H : Hp) : Prop where
  sub : Same B H
  box : ∀ b ∈ bxs, B b = none ∧ BoxAt H b n
structure Step (bxs : List Addr) (n n' : Nat) (B H B' H' : Hp) : Prop where
  b1 : Same B B'
  b2 : Same B' H'
  b3 : ∀ a, H a ≠ none → B' a = B a
  h1 : ∀ a o, a ∉ bxs → H a = some o → H' a = some o
  bx : ∀ b ∈ bxs, BoxAt H' b n'
  nn : n ≤ n'
section
variable {K : PySem.W.Frag} {bxs bxs' : List Addr} {n n1 n2 : Nat} {B H B1 H1 B2 H2 : Hp}
theorem Good.refl (g : Good bxs n B H) : Step bxs n n B H B H :=
  ⟨Same.refl _, g.sub, fun _ _ => rfl, fun _ _ _ h => h, fun b hb => (g.box b hb).2, Nat.le_refl _⟩
theorem Good.step (g : Good bxs n B H) (s : Step bxs n n1 B H B1 H1) : Good bxs n1 B1 H1 :=
  ⟨s.b2, fun b hb => ⟨by rw [s.b3 b (g.box b hb).2.ne]; exact (g.box b hb).1, s.bx b hb⟩⟩
theorem ne_none_of {H : Hp} {a : Addr} {o : HO} (h : H a = some o) : H a ≠ none := by
  rw [h]
  exact fun q => nomatch q
theorem Step.dom (s : Step bxs n n1 B H B1 H1) {a : Addr} (h : H a ≠ none) : H1 a ≠ none := by
  cases e : H a with
  | none => exact absurd e h
  | some o =>
    by_cases hb : a ∈ bxs
    · exact (s.bx a hb).ne
    · exact ne_none_of (s.h1 a o hb e)
theorem Step.free (s : Step bxs n n1 B H B1 H1) {a : Addr} (h : H1 a = none) : H a = none := by
  cases e : H a with
  | none => rfl
  | some o => exact absurd h (s.dom (ne_none_of e))
/-- a step of other boxes, that are ours or new, behind a step -/
theorem Step.then (s : Step bxs n n1 B H B1 H1) (t : Step bxs' n1 n2 B1 H1 B2 H2) (hb : ∀ b ∈ bxs', b ∈ bxs ∨ H b = none) (ho : ∀ b ∈ bxs, b ∈ bxs' ∨ ∀ o, H1 b = some o → H2 b = some o) : Step bxs n n2 B H B2 H2 where
  b1 := s.b1.trans t.b1
  b2 := t.b2
  b3 := fun a h => by rw [t.b3 a (s.dom h), s.b3 a h]
  h1 := fun a o ha h => t.h1 a o (fun q => by
    rcases hb a q with q | q
    · exact ha q
    · rw [h] at q; cases q) (s.h1 a o ha h)
  bx := fun b q => by
    rcases ho b q with z | z
    · exact t.bx b z
    · exact ((s.bx b q).keep z).mono t.nn
  nn := Nat.le_trans s.nn t.nn
theorem Step.trans (s : Step bxs n n1 B H B1 H1) (t : Step bxs n1 n2 B1 H1 B2 H2) : Step bxs n n2 B H B2 H2 :=
  s.then t (fun _ h => .inl h) fun _ h => .inl h
theorem ValR.step (s : Step bxs n n1 B H B1 H1) {r : RV} {v : V} (h : ValR K bxs n B H r v) : ValR K bxs n1 B1 H1 r v := by
  cases r with
  | d x => exact dpSame s.b1 x v h
  | new xs =>
    obtain ⟨p, vs, e, h1, h2, h3, h4⟩ := h
    exact ⟨p, vs, e, h1, by rw [s.b3 p (ne_none_of h3)]; exact h2, s.h1 p _ h1 h3, dpSameAll s.b1 xs vs h4⟩
  | bor xs =>
    obtain ⟨p, vs, e, h1, h2, h3, h4⟩ := h
    exact ⟨p, vs, e, h1, by rw [s.b3 p (ne_none_of h3)]; exact h2, s.h1 p _ h1 h3, dpSameAll s.b1 xs vs h4⟩
  | box => exact h
  | obj o0 => exact h
  | nbox =>
    obtain ⟨b, e, h1, h2, h3⟩ := h
    exact ⟨b, e, h1, by rw [s.b3 b h3.ne]; exact h2, (h3.keep fun o q => s.h1 b o h1 q).mono s.nn⟩
  | own T =>
    obtain ⟨p, o, e, h1, h2, h3, h4⟩ := h
    exact ⟨p, o, e, h1, by rw [s.b3 p (ne_none_of h3)]; exact h2, s.h1 p _ h1 h3, T.mono s.b1 h4⟩
/-- a new thing joins the data -/
theorem Step.add (s : Step bxs n n1 B H B1 H1) (g : Good bxs n B H) {p : Addr} {o : HO} (hp : H p = none) (ho : H1 p = some o) (hb : B1 p = none) : Step bxs n n1 B H (upd B1 p o) H1 where
  b1 := fun a u h => by
    by_cases e : a = p
    · subst e
      rw [g.sub a u h] at hp
      cases hp
    · rw [upd_ne e]
      exact s.b1 a u h
  b2 := fun a u h => by
    by_cases e : a = p
    · subst e
      rw [upd_same] at h
      cases h
      exact ho
    · rw [upd_ne e] at h
      exact s.b2 a u h
  b3 := fun a h => by
    have e : a ≠ p := fun q => h (by rw [q]; exact hp)
    rw [upd_ne e]
    exact s.b3 a h
  h1 := s.h1
  bx := s.bx
  nn := s.nn
theorem sub_add {p : Addr} {o : HO} (h : B p = none) : Same B (upd B p o) := fun a u e => by
  rw [upd_ne (ne_of_none e h)]
  exact e
/-- a new object of the heap that is data at once -/
theorem Step.lay (s : Step bxs n n1 B H B1 H1) (g : Good bxs n B H) {p : Addr} {o : HO} (hp : H1 p = none) : Step bxs n n1 B H (upd B1 p o) (upd H1 p o) where
  b1 := fun a u h => by
    have e : a ≠ p := fun q => by
      subst q
      rw [s.b2 a u (s.b1 a u h)] at hp
      cases hp
    rw [upd_ne e]
    exact s.b1 a u h
  b2 := fun a u h => by
    by_cases e : a = p
    · subst e
      rw [upd_same] at h
      rw [upd_same]
      exact h
    · rw [upd_ne e] at h
      rw [upd_ne e]
      exact s.b2 a u h
  b3 := fun a h => by
    have e : a ≠ p := fun q => s.dom h (by rw [q]; exact hp)
    rw [upd_ne e]
    exact s.b3 a h
  h1 := fun a u ha h => by
    have e : a ≠ p := fun q => s.dom (ne_none_of h) (by rw [q]; exact hp)
    rw [upd_ne e]
    exact s.h1 a u ha h
  bx := fun b hb => (s.bx b hb).keep fun u h => by
    rw [upd_ne (ne_of_none h hp)]
    exact h
  nn := s.nn
/-- a new object of the heap that is not data yet -/
theorem Step.lay0 (s : Step bxs n n1 B H B1 H1) {p : Addr} {o : HO} (hp : H1 p = none) : Step bxs n n1 B H B1 (upd H1 p o) where
  b1 := s.b1
  b2 := fun a u h => by
    have q := s.b2 a u h
    rw [upd_ne (ne_of_none q hp)]
    exact q
  b3 := s.b3
  h1 := fun a u ha h => by
    have e : a ≠ p := fun q => s.dom (ne_none_of h) (by rw [q]; exact hp)
    rw [upd_ne e]
    exact s.h1 a u ha h
  bx := fun b hb => (s.bx b hb).keep fun u h => by
    rw [upd_ne (ne_of_none h hp)]
    exact h
  nn := s.nn
end

/-! ### the environment -/
noncomputable abbrev DEnv := List (Option RV)
noncomputable def slotOk : RV → Prop
  | .bor _ => False
  | .nbox => False
  | _ => True
structure EnvR (K : PySem.W.Frag) (bxs : List Addr) (n : Nat) (B H : Hp) (σ : L2.St) (ρ : DEnv) : Prop where
  len : σ.length = ρ.length
  val : ∀ (i : Nat) (r : RV), ρ[i]? = some (some r) → ∃ v, σ[i]? = some (some v) ∧ ValR K bxs n B H r v
  own : ∀ (i j : Nat) (r r' : RV) (p : Addr), ρ[i]? = some (some r) → ρ[j]? = some (some r') → isOwn r → isOwn r' → σ[i]? = some (some (.ref p)) → σ[j]? = some (some (.ref p)) → i = j
  ok : ∀ (i : Nat) (r : RV), ρ[i]? = some (some r) → slotOk r
theorem EnvR.step {K : PySem.W.Frag} {bxs : List Addr} {n n1 : Nat} {B H B1 H1 : Hp} {σ : L2.St} {ρ : DEnv} (e : EnvR K bxs n B H σ ρ) (s : Step bxs n n1 B H B1 H1) : EnvR K bxs n1 B1 H1 σ ρ :=
  ⟨e.len, fun i r h => by
    obtain ⟨v, h1, h2⟩ := e.val i r h
    exact ⟨v, h1, h2.step s⟩, e.own, e.ok⟩

theorem ok_set {ρ : DEnv} {i : Nat} {r' : RV} (h : ∀ (i : Nat) (r : RV), ρ[i]? = some (some r) → slotOk r) (h' : slotOk r') : ∀ (j : Nat) (r : RV), (ρ.set i (some r'))[j]? = some (some r) → slotOk r := fun j r hj => by
  by_cases hij : i = j
  · subst hij
    have hi : i < ρ.length := by
      have := (List.getElem?_eq_some_iff.mp hj).1
      rwa [List.length_set] at this
    rw [List.getElem?_set_self hi] at hj
    cases hj
    exact h'
  · rw [List.getElem?_set_ne hij] at hj
    exact h j r hj
/-! ### readings -/
noncomputable abbrev DE := DEnv → Nat → (RV → Nat → Prop) → Prop
noncomputable abbrev DA := DEnv → Nat → (List RV → Nat → Prop) → Prop
noncomputable abbrev DT := DEnv → Nat → (Bool → Nat → Prop) → Prop
noncomputable abbrev DSp := List RV → Nat → (RV → Nat → Prop) → Prop

noncomputable def up (K : PySem.W.Frag) (w : DE) : TE := fun σ H Q => ∃ (ρ : DEnv) (n : Nat) (B : Hp) (bxs : List Addr) (Qd : RV → Nat → Prop),
  Good bxs n B H ∧ EnvR K bxs n B H σ ρ ∧ w ρ n Qd ∧
    ∀ r n1 v B1 H1, Qd r n1 → Step bxs n n1 B H B1 H1 → ValR K bxs n1 B1 H1 r v → FrR H r v → Q v H1
noncomputable def upT (K : PySem.W.Frag) (w : DT) : TT := fun σ H Q => ∃ (ρ : DEnv) (n : Nat) (B : Hp) (bxs : List Addr) (Qd : Bool → Nat → Prop),
  Good bxs n B H ∧ EnvR K bxs n B H σ ρ ∧ w ρ n Qd ∧
    ∀ b n1 B1 H1, Qd b n1 → Step bxs n n1 B H B1 H1 → Q b H1
/-- arguments: new lists have become data -/
noncomputable def ValsR (K : PySem.W.Frag) (bxs : List Addr) (n : Nat) (B H : Hp) : List RV → List V → Prop
  | [], [] => True
  | r :: rs, v :: vs => ValR K bxs n B H r v ∧ ValsR K bxs n B H rs vs
  | _, _ => False
noncomputable def FrsR (H : Hp) : List RV → List V → Prop
  | r :: rs, v :: vs => FrR H r v ∧ FrsR H rs vs
  | _, _ => True
noncomputable def upA (K : PySem.W.Frag) (w : DA) : TA := fun σ H Q => ∃ (ρ : DEnv) (n : Nat) (B : Hp) (bxs : List Addr) (Qd : List RV → Nat → Prop),
  Good bxs n B H ∧ EnvR K bxs n B H σ ρ ∧ w ρ n Qd ∧
    ∀ rs n1 vs B1 H1, Qd rs n1 → Step bxs n n1 B H B1 H1 → ValsR K bxs n1 B1 H1 rs vs → FrsR H rs vs → Q vs H1
theorem ValsR.step {K : PySem.W.Frag} {bxs : List Addr} {n n1 : Nat} {B H B1 H1 : Hp} (s : Step bxs n n1 B H B1 H1) : ∀ {rs : List RV} {vs : List V}, ValsR K bxs n B H rs vs → ValsR K bxs n1 B1 H1 rs vs
  | [], [], _ => trivial
  | _ :: _, _ :: _, h => ⟨h.1.step s, ValsR.step s h.2⟩
  | [], _ :: _, h => h.elim
  | _ :: _, [], h => h.elim

/-- how a thing looks when it is only read -/
noncomputable def view : RV → Option PyData
  | .d x => some x
  | .new xs => some (.list xs)
  | .bor xs => some (.list xs)
  | .box => none
  | .nbox => none
  | .own _ => none
  | .obj _ => none
/-- read, while a list of one's own may stand outside the data -/
noncomputable def DpV (K : PySem.W.Frag) (B H : Hp) (v : V) (x : PyData) : Prop :=
  Dp K B v x ∨ ∃ p vs xs, v = .ref p ∧ x = .list xs ∧ H p = some (.lst vs) ∧ DpAll K B vs xs
section
variable {K : PySem.W.Frag} {bxs : List Addr} {n : Nat} {B H : Hp} {v : V} {x : PyData}
theorem view_r {r : RV} (h : ValR K bxs n B H r v) (e : view r = some x) : DpV K B H v x := by
  cases r with
  | d y => cases e; exact .inl h
  | new xs =>
    cases e
    obtain ⟨p, vs, e, h1, h2, h3, h4⟩ := h
    exact .inr ⟨p, vs, xs, e, rfl, h3, h4⟩
  | bor xs =>
    cases e
    obtain ⟨p, vs, e, h1, h2, h3, h4⟩ := h
    exact .inr ⟨p, vs, xs, e, rfl, h3, h4⟩
  | box => cases e
  | obj o0 => cases e
  | nbox => cases e
  | own T => cases e
theorem DpV.dp (h : DpV K B H v x) (s : Same B H) : Dp K H v x := by
  rcases h with h | ⟨p, vs, xs, rfl, rfl, h1, h2⟩
  · exact dpSame s x v h
  · exact .lst (.inl (.inl h1)) (dpSameAll s xs vs h2)
theorem DpV.int {i : Int} (h : DpV K B H v (.int i)) : v = .int i := by
  rcases h with h | ⟨p, vs, xs, _, e, _⟩
  · cases h; rfl
  · cases e
theorem DpV.str {i : Str} (h : DpV K B H v (.str i)) : v = .str i := by
  rcases h with h | ⟨p, vs, xs, _, e, _⟩
  · cases h; rfl
  · cases e
theorem DpV.bool {i : Bool} (h : DpV K B H v (.bool i)) : v = .bl i := by
  rcases h with h | ⟨p, vs, xs, _, e, _⟩
  · cases h; rfl
  · cases e
theorem DpV.none (h : DpV K B H v .none) : v = .non := by
  rcases h with h | ⟨p, vs, xs, _, e, _⟩
  · cases h; rfl
  · cases e
theorem DpV.list {xs : List PyData} (h : DpV K B H v (.list xs)) (s : Same B H) : ∃ p vs, v = .ref p ∧ SqL K H p vs ∧ DpAll K B vs xs := by
  rcases h with h | ⟨p, vs, ys, rfl, e, h1, h2⟩
  · cases h with
    | lst h1 h2 => exact ⟨_, _, rfl, s.seq h1, h2⟩
  · cases e
    exact ⟨p, vs, rfl, .inl (.inl h1), h2⟩
theorem DpV.tuple {xs : List PyData} (h : DpV K B H v (.tuple xs)) (s : Same B H) : ∃ p vs, v = .ref p ∧ SqT K H p vs ∧ DpAll K B vs xs := by
  rcases h with h | ⟨p, vs, ys, rfl, e, h1, h2⟩
  · cases h with
    | tup h1 h2 => exact ⟨_, _, rfl, seqT s h1, h2⟩
  · cases e
end
/-- a new list that becomes data -/
noncomputable def fixR : RV → RV
  | .new xs => .d (.list xs)
  | r => r
theorem fix_r {K : PySem.W.Frag} {bxs : List Addr} {n n1 : Nat} {B H B1 H1 : Hp} {r : RV} {v : V} (g : Good bxs n B H) (s : Step bxs n n1 B H B1 H1) (h : ValR K bxs n1 B1 H1 r v) (f : FrR H r v) :
    ∃ B2, Step bxs n n1 B H B2 H1 ∧ ValR K bxs n1 B2 H1 (fixR r) v ∧ Same B1 B2 := by
  cases r with
  | d x => exact ⟨B1, s, h, Same.refl _⟩
  | bor xs => exact ⟨B1, s, h, Same.refl _⟩
  | box => exact ⟨B1, s, h, Same.refl _⟩
  | obj o0 => exact ⟨B1, s, h, Same.refl _⟩
  | nbox => exact ⟨B1, s, h, Same.refl _⟩
  | own T => exact ⟨B1, s, h, Same.refl _⟩
  | new xs =>
    obtain ⟨p, vs, rfl, h1, h2, h3, h4⟩ := h
    obtain ⟨q, e, f⟩ := f
    cases e
    refine ⟨upd B1 p (.lst vs), s.add g f h3 h2, ?_, sub_add h2⟩
    exact .lst (.inl (.inl upd_same)) (dpSameAll (sub_add h2) xs vs h4)
end Dl

namespace Dl
open PySem L2

/-! ### judgements -/
noncomputable abbrev LE (X : Cx) (e : Expr) (w : DE) : Prop := PE X e (up X.K w)
noncomputable abbrev LT (X : Cx) (e : Expr) (w : DT) : Prop := PT X e (upT X.K w)
noncomputable abbrev LA (X : Cx) (es : List Expr) (w : DA) : Prop := PA X es (upA X.K w)
theorem pe_imp {X : Cx} {e : Expr} {t t' : TE} (h : PE X e t) (i : ∀ σ H Q, t' σ H Q → t σ H Q) : PE X e t' := ⟨fun pins s σ H Q I q => h.run pins s σ H Q I (i σ H Q q)⟩
theorem pt_imp {X : Cx} {e : Expr} {t t' : TT} (h : PT X e t) (i : ∀ σ H Q, t' σ H Q → t σ H Q) : PT X e t' := ⟨fun pins s σ H Q I q => h.run pins s σ H Q I (i σ H Q q)⟩
theorem pa_imp {X : Cx} {e : List Expr} {t t' : TA} (h : PA X e t) (i : ∀ σ H Q, t' σ H Q → t σ H Q) : PA X e t' := ⟨fun p pins s σ H Q I q => h.run p pins s σ H Q I (i σ H Q q)⟩

/-! ### names, constants -/
noncomputable def dVar (i : Nat) : DE := fun ρ n Q => match ρ[i]? with
  | some (some (.d x)) => Q (.d x) n
  | some (some (.new xs)) => Q (.bor xs) n
  | some (some .box) => Q .box n
  | some (some (.obj a)) => Q (.obj a) n
  | _ => False
noncomputable def dC (x : PyData) : DE := fun _ n Q => Q (.d x) n
section
variable {X : Cx}
theorem up_var {K : PySem.W.Frag} (i : Nat) (σ : L2.St) (H : Hp) (Q : VK) (h : up K (dVar i) σ H Q) : tVar i σ H Q := by
  obtain ⟨ρ, n, B, bxs, Qd, g, e, w, q⟩ := h
  unfold dVar at w
  cases e1 : ρ[i]? with
  | none =>
    rw [e1] at w
    exact w.elim
  | some o =>
    cases o with
    | none =>
      rw [e1] at w
      exact w.elim
    | some r =>
      obtain ⟨v, h1, h2⟩ := e.val i r e1
      rw [e1] at w
      refine ⟨v, h1, ?_⟩
      cases r with
      | d x => exact q _ _ v B H w g.refl h2 trivial
      | new xs => exact q _ _ v B H w g.refl h2 trivial
      | box => exact q _ _ v B H w g.refl h2 trivial
      | bor xs => exact w.elim
      | obj o0 => exact q _ _ v B H w g.refl h2 trivial
      | nbox => exact w.elim
      | own T => exact w.elim
theorem le_var (i : Nat) {x : Str} {pos : Pos} (hN : X.N[i]? = some x := by rfl) (hv : Vis X.env.scope x := by first | exact Or.inl rfl | exact Or.inr (Or.inl rfl) | exact Or.inr (Or.inr rfl)) (hd : (x == ("__debug__" : Str)) = false := by decide)
    (hcd : (x == ("__classdict__" : Str)) = false := by decide) : LE X (.Name x pos) (dVar i) := pe_imp (pe_var hN hv hd hcd) (up_var i)
theorem up_c {K : PySem.W.Frag} {v : V} {x : PyData} (h : ∀ B, Dp K B v x) (σ : L2.St) (H : Hp) (Q : VK) (hu : up K (dC x) σ H Q) : tC v σ H Q := by
  obtain ⟨ρ, n, B, bxs, Qd, g, e, w, q⟩ := hu
  exact q _ _ v B H w g.refl (h B) trivial
theorem le_int {i : Int} {j} {pos : Pos} : LE X (.Constant (.int i) j pos) (dC (.int i)) := pe_imp pe_int (up_c fun _ => .int i)
theorem le_bl {b : Bool} {j} {pos : Pos} : LE X (.Constant (.bool b) j pos) (dC (.bool b)) := pe_imp pe_bl (up_c fun _ => .bl b)
theorem le_str {x : Str} {j} {pos : Pos} : LE X (.Constant (.str x) j pos) (dC (.str x)) := pe_imp pe_str (up_c fun _ => .str x)
theorem le_gstr {x : Str} {i : Str} {t : Tok} {pos : Pos} (hg : Gl X x) (hm : X.mg x = some (.str i t)) (hd : (x == ("__debug__" : Str)) = false := by decide) : LE X (.Name x pos) (dC (.str i)) := pe_imp (pe_glob (v := .str i) hg hm ⟨t, rfl⟩ hd) (up_c fun _ => .str i)
end

/-! ### operators on two things that are read -/
noncomputable abbrev DOp := PyData → PyData → (RV → Prop) → Prop
noncomputable def LOp (X : Cx) (f : Value → Value → Sem Value) (w : DOp) : Prop := ∃ r : R2, OpR X f r ∧
  ∀ (bxs : List Addr) (n : Nat) (B H : Hp) (x y : PyData) (v u : V) (Qd : RV → Prop) (Q : VK), Good bxs n B H → DpV X.K B H v x → DpV X.K B H u y → w x y Qd →
    (∀ res v' B1 H1, Qd res → Step bxs n n B H B1 H1 → ValR X.K bxs n B1 H1 res v' → FrR H res v' → Q v' H1) → r v u H Q
noncomputable def vw2 (w : DOp) (r1 r2 : RV) (Q : RV → Prop) : Prop := match view r1, view r2 with
  | some x, some y => w x y Q
  | _, _ => False
theorem vw2_ex {w : DOp} {r1 r2 : RV} {Q : RV → Prop} (h : vw2 w r1 r2 Q) : ∃ x y, view r1 = some x ∧ view r2 = some y ∧ w x y Q := by
  unfold vw2 at h
  split at h
  · exact ⟨_, _, by assumption, by assumption, h⟩
  · exact h.elim
noncomputable def dOp (w : DOp) (wa wb : DE) : DE := fun ρ n Q => wa ρ n fun r1 n1 => wb ρ n1 fun r2 n2 => vw2 w r1 r2 fun r => Q r n2
section
variable {X : Cx} {a b : Expr} {wa wb : DE} {pos : Pos}
theorem FrR.back {bxs : List Addr} {n n1 : Nat} {B H B1 H1 : Hp} (s : Step bxs n n1 B H B1 H1) {r : RV} {v : V} (h : FrR H1 r v) : FrR H r v := by
  cases r with
  | new xs =>
    obtain ⟨p, e, q⟩ := h
    exact ⟨p, e, s.free q⟩
  | obj o0 => trivial
  | nbox =>
    obtain ⟨p, e, q⟩ := h
    exact ⟨p, e, s.free q⟩
  | own T =>
    obtain ⟨p, e, q⟩ := h
    exact ⟨p, e, s.free q⟩
  | d x => trivial
  | bor xs => trivial
  | box => trivial
theorem up_op {r : R2} {K : PySem.W.Frag} {w : DOp} (h : ∀ (bxs : List Addr) (n : Nat) (B H : Hp) (x y : PyData) (v u : V) (Qd : RV → Prop) (Q : VK), Good bxs n B H → DpV K B H v x → DpV K B H u y → w x y Qd →
    (∀ res v' B1 H1, Qd res → Step bxs n n B H B1 H1 → ValR K bxs n B1 H1 res v' → FrR H res v' → Q v' H1) → r v u H Q) (σ : L2.St) (H : Hp) (Q : VK) (hu : up K (dOp w wa wb) σ H Q) : tOp r (up K wa) (up K wb) σ H Q := by
  obtain ⟨ρ, n, B, bxs, Qd, g, e, w1, q⟩ := hu
  refine ⟨ρ, n, B, bxs, _, g, e, w1, fun r1 n1 v1 B1 H1 w2 s1 v1r f1 => ?_⟩
  refine ⟨ρ, n1, B1, bxs, _, g.step s1, e.step s1, w2, fun r2 n2 v2 B2 H2 w3 s2 v2r f2 => ?_⟩
  obtain ⟨x, y, ex, ey, w4⟩ := vw2_ex w3
  have s12 := s1.trans s2
  refine h bxs n2 B2 H2 x y v1 v2 _ Q (g.step s12) (view_r (v1r.step s2) ex) (view_r v2r ey) w4 fun res v' B3 H3 w5 s3 r3 f3 => ?_
  exact q _ _ v' B3 H3 w5 (s12.trans s3) r3 (f3.back s12)
theorem le_op {op : Operator} {w : DOp} (ho : LOp X (binaryOp op) w) (ha : LE X a wa) (hb : LE X b wb) : LE X (.BinOp a op b pos) (dOp w wa wb) := by
  obtain ⟨r, h1, h2⟩ := ho
  exact pe_imp (pe_op h1 ha hb) (up_op h2)
theorem le_cmp {op : CmpOp} {w : DOp} (ho : LOp X (compareOp op) w) (ha : LE X a wa) (hb : LE X b wb) (hm : behindInMarks op b = false) : LE X (.Compare a [op] [b] pos) (dOp w wa wb) := by
  obtain ⟨r, h1, h2⟩ := ho
  exact pe_imp (pe_cmpR h1 ha hb hm) (up_op h2)
theorem LOp.or {f : Value → Value → Sem Value} {w w' : DOp} (h : LOp X f w) (h' : LOp X f w') : LOp X f (fun x y Q => w x y Q ∨ w' x y Q) := by
  obtain ⟨r, h1, h2⟩ := h
  obtain ⟨r', h1', h2'⟩ := h'
  refine ⟨_, OpR.or h1 h1', fun bxs n B H x y v u Qd Q g dx dy hw k => ?_⟩
  rcases hw with hw | hw
  · exact .inl (h2 bxs n B H x y v u Qd Q g dx dy hw k)
  · exact .inr (h2' bxs n B H x y v u Qd Q g dx dy hw k)
theorem LOp.imp {f : Value → Value → Sem Value} {w w' : DOp} (h : LOp X f w) (i : ∀ x y Q, w' x y Q → w x y Q) : LOp X f w' := by
  obtain ⟨r, h1, h2⟩ := h
  exact ⟨r, h1, fun bxs n B H x y v u Qd Q g dx dy hw k => h2 bxs n B H x y v u Qd Q g dx dy (i _ _ _ hw) k⟩
/-- ints in, a plain value out -/
theorem lop_I {f : Value → Value → Sem Value} {C : Int → Int → Prop} {gz : Int → Int → V} {gd : Int → Int → PyData} (h : OpR X f (rI C gz)) (hz : ∀ (B : Hp) i j, Dp X.K B (gz i j) (gd i j)) :
    LOp X f (fun x y Q => ∃ i j, x = .int i ∧ y = .int j ∧ C i j ∧ Q (.d (gd i j))) :=
  ⟨_, h, fun bxs n B H x y v u Qd Q g dx dy ⟨i, j, ex, ey, c, w⟩ k => by
    subst ex ey
    exact ⟨i, j, dx.int, dy.int, c, k _ _ B H w g.refl (hz B i j) trivial⟩⟩
theorem lop_I0 {f : Value → Value → Sem Value} {gz : Int → Int → V} {gd : Int → Int → PyData} (h : OpR X f (rI0 gz)) (hz : ∀ (B : Hp) i j, Dp X.K B (gz i j) (gd i j)) :
    LOp X f (fun x y Q => ∃ i j, x = .int i ∧ y = .int j ∧ Q (.d (gd i j))) :=
  ⟨_, h, fun bxs n B H x y v u Qd Q g dx dy ⟨i, j, ex, ey, w⟩ k => by
    subst ex ey
    exact ⟨i, j, dx.int, dy.int, k _ _ B H w g.refl (hz B i j) trivial⟩⟩
theorem lop_S {f : Value → Value → Sem Value} {gz : Str → Str → V} {gd : Str → Str → PyData} (h : OpR X f (fun x y H Q => ∃ i j, x = .str i ∧ y = .str j ∧ Q (gz i j) H)) (hz : ∀ (B : Hp) i j, Dp X.K B (gz i j) (gd i j)) :
    LOp X f (fun x y Q => ∃ i j, x = .str i ∧ y = .str j ∧ Q (.d (gd i j))) :=
  ⟨_, h, fun bxs n B H x y v u Qd Q g dx dy ⟨i, j, ex, ey, w⟩ k => by
    subst ex ey
    exact ⟨i, j, dx.str, dy.str, k _ _ B H w g.refl (hz B i j) trivial⟩⟩

/-! ### + -/
noncomputable def rCatL (K : PySem.W.Frag) : R2 := fun x y H Q => ∃ l b xs zs, x = .ref l ∧ y = .ref b ∧ SqL K H l xs ∧ SqL K H b zs ∧ xs.length + zs.length ≤ sizeLine ∧ ∀ p, H p = none → Q (.ref p) (upd H p (.lst (xs ++ zs)))
theorem op_catL : OpR X (binaryOp .Add) (rCatL X.K) := by
  intro pins s σ H x y v u Q I rx ry h
  obtain ⟨l, b, xs, zs, rfl, rfl, hH, hB, hz, q⟩ := h
  cases rx
  cases ry
  obtain ⟨its, r, ⟨o1, n1, e1, c1, d1, t1⟩, z1⟩ := I.list hH
  obtain ⟨its2, r2, ⟨o2, n2, e2, c2, d2, t2⟩, z2⟩ := I.list hB
  obtain ⟨cls1, dd1, data1, sl1⟩ := o1
  obtain ⟨cls2, dd2, data2, sl2⟩ := o2
  simp only at c1 d1 t1 c2 d2 t2
  subst c1 t1 c2 t2
  have hl := r.length
  have hl2 := r2.length
  have ea : its.toArray ++ its2.toArray = (its ++ its2).toArray := by simp
  refine concat_meets ⟨_, e1, rfl⟩ ⟨_, e2, rfl⟩ noFill_list_add seq_list_add PySem.F.slot_list_add PySem.F.entry_list_add (PySem.F.args_list_add_2 _ _)
    (PyProof.Rows.list_addW l b its.toArray its2.toArray n1 n2 dd1 dd2 sl1 sl2 (by rw [List.size_toArray, List.size_toArray]; omega)) ⟨e1, e2, ?_⟩
  rw [ea]
  exact ⟨.ref _, _, I.lnew (t' := s.toks) (r.append r2) (by rw [List.length_append]; omega), rfl, q _ I.fresh⟩
noncomputable def wAdd : DOp := fun x y Q => match x, y with
  | .int i, .int j => Q (.d (.int (i + j)))
  | .str a, .str b => a.length + b.length ≤ sizeLine ∧ Q (.d (.str (a ++ b)))
  | .tuple xs, .tuple ys => xs.length + ys.length ≤ sizeLine ∧ Q (.d (.tuple (xs ++ ys)))
  | .list xs, .list ys => xs.length + ys.length ≤ sizeLine ∧ Q (.new (xs ++ ys))
  | _, _ => False
theorem lo_add : LOp X (binaryOp .Add) wAdd := by
  refine ⟨_, OpR.or op_add (OpR.or op_add_str (OpR.or op_catA op_catL)), fun bxs n B H x y v u Qd Q g dx dy w k => ?_⟩
  cases x <;> cases y <;> try exact w.elim
  · exact .inl ⟨_, _, dx.int, dy.int, k _ _ B H w g.refl (.int _) trivial⟩
  · exact .inr (.inl ⟨_, _, dx.str, dy.str, w.1, k _ _ B H w.2 g.refl (.str _) trivial⟩)
  · obtain ⟨p, vs, rfl, h1, h2⟩ := dx.list g.sub
    obtain ⟨q, us, rfl, h3, h4⟩ := dy.list g.sub
    refine .inr (.inr (.inr ⟨p, q, vs, us, rfl, rfl, h1, h3, by rw [dpLen _ _ h2, dpLen _ _ h4]; exact w.1, fun z hz => ?_⟩))
    have nb : z ∉ bxs := fun h => (g.box z h).2.ne hz
    have bz : B z = none := by
      cases e : B z with
      | none => rfl
      | some o => rw [g.sub z o e] at hz; cases hz
    exact k _ _ B _ w.2 (g.refl.lay0 hz) ⟨z, _, rfl, nb, bz, upd_same, dpApp _ _ _ _ h2 h4⟩ ⟨z, rfl, hz⟩
  · obtain ⟨p, vs, rfl, h1, h2⟩ := dx.tuple g.sub
    obtain ⟨q, us, rfl, h3, h4⟩ := dy.tuple g.sub
    refine .inr (.inr (.inl ⟨p, q, vs, us, rfl, rfl, h1, h3, by rw [dpLen _ _ h2, dpLen _ _ h4]; exact w.1, fun e => ?_, fun e1 e2 => ?_, fun e1 e2 z hz => ?_⟩))
    · subst e
      cases h2
      refine k _ _ B H w.2 g.refl ?_ trivial
      rcases dy with h | ⟨_, _, _, _, e, _⟩
      · exact h
      · cases e
    · subst e2
      cases h4
      refine k _ _ B H w.2 g.refl ?_ trivial
      rw [List.append_nil]
      rcases dx with h | ⟨_, _, _, _, e, _⟩
      · exact h
      · cases e
    · have bz : B z = none := by
        cases e : B z with
        | none => rfl
        | some o => rw [g.sub z o e] at hz; cases hz
      refine k _ _ _ _ w.2 (g.refl.lay g hz) ?_ trivial
      exact .tup (.inl (.inl upd_same)) (dpSameAll (sub_add bz) _ _ (dpApp _ _ _ _ h2 h4))
/-! ### numbers -/
noncomputable def wI (f : Int → Int → Int) : DOp := fun x y Q => match x, y with
  | .int i, .int j => Q (.d (.int (f i j)))
  | _, _ => False
noncomputable def wIC (C : Int → Int → Prop) (f : Int → Int → Int) : DOp := fun x y Q => match x, y with
  | .int i, .int j => C i j ∧ Q (.d (.int (f i j)))
  | _, _ => False
noncomputable def wB (f : Int → Int → Bool) : DOp := fun x y Q => match x, y with
  | .int i, .int j => Q (.d (.bool (f i j)))
  | _, _ => False
theorem lo_wI {o : Value → Value → Sem Value} {f : Int → Int → Int} (h : OpR X o (rI0 fun i j => .int (f i j))) : LOp X o (wI f) := (lop_I0 (gd := fun i j => .int (f i j)) h fun B i j => .int _).imp fun x y Q w => by
  cases x <;> cases y <;> first | exact w.elim | exact ⟨_, _, rfl, rfl, w⟩
theorem lo_wIC {o : Value → Value → Sem Value} {C : Int → Int → Prop} {f : Int → Int → Int} (h : OpR X o (rI C fun i j => .int (f i j))) : LOp X o (wIC C f) := (lop_I (gd := fun i j => .int (f i j)) h fun B i j => .int _).imp fun x y Q w => by
  cases x <;> cases y <;> first | exact w.elim | exact ⟨_, _, rfl, rfl, w.1, w.2⟩
theorem lo_wB {o : Value → Value → Sem Value} {f : Int → Int → Bool} (h : OpR X o (rI0 fun i j => .bl (f i j))) : LOp X o (wB f) := (lop_I0 (gd := fun i j => .bool (f i j)) h fun B i j => .bl _).imp fun x y Q w => by
  cases x <;> cases y <;> first | exact w.elim | exact ⟨_, _, rfl, rfl, w⟩
theorem lo_sub : LOp X (binaryOp .Sub) (wI (· - ·)) := lo_wI op_sub
theorem lo_mod : LOp X (binaryOp .Mod) (wIC (fun _ j => 0 < j) (· % ·)) := lo_wIC op_mod
theorem lo_fdiv : LOp X (binaryOp .FloorDiv) (wIC CDivW (· / ·)) := lo_wIC op_fdivW
theorem lo_shl : LOp X (binaryOp .LShift) (wIC CPow fun i j => i * 2 ^ j.toNat) := lo_wIC op_shl
theorem lo_shr : LOp X (binaryOp .RShift) (wIC (fun _ j => 0 ≤ j) fun i j => i / 2 ^ j.toNat) := lo_wIC op_shr
theorem lo_xor : LOp X (binaryOp .BitXor) (wI Builtin.bitXor) := lo_wI op_xor
noncomputable def wLt : DOp := fun x y Q => match x, y with
  | .int i, .int j => Q (.d (.bool (decide (i < j))))
  | .str i, .str j => Q (.d (.bool (decide (i.cps.toList < j.cps.toList))))
  | _, _ => False
theorem lo_lt : LOp X (compareOp .Lt) wLt := ((lop_I0 (gd := fun i j => .bool (decide (i < j))) op_lt fun B i j => .bl _).or (lop_S (gd := fun i j => .bool (decide (i.cps.toList < j.cps.toList))) op_lt_str fun B i j => .bl _)).imp fun x y Q w => by
  cases x <;> cases y <;> first | exact w.elim | exact .inl ⟨_, _, rfl, rfl, w⟩ | exact .inr ⟨_, _, rfl, rfl, w⟩
theorem lo_gt : LOp X (compareOp .Gt) (wB fun i j => decide (j < i)) := lo_wB op_gt
theorem lo_ge : LOp X (compareOp .GtE) (wB fun i j => decide (j ≤ i)) := lo_wB op_ge
/-! ### ==, != -/
/-- data compared as Python compares -/
noncomputable def wEq : DOp := fun x y Q => match x, y with
  | .int i, .int j => Q (.d (.bool (decide (i = j))))
  | .str i, .str j => Q (.d (.bool (decide (i = j))))
  | .bool i, .bool j => Q (.d (.bool (decide (i = j))))
  | x, y => SeqAt.shaped x = true ∧ SeqAt.shaped y = true ∧ Q (.d (.bool (PyData.eqv x y)))
noncomputable def wNe : DOp := fun x y Q => match x, y with
  | .int i, .int j => Q (.d (.bool (!decide (i = j))))
  | .str i, .str j => Q (.d (.bool (!decide (i = j))))
  | .bool i, .bool j => Q (.d (.bool (!decide (i = j))))
  | x, y => SeqAt.shaped x = true ∧ SeqAt.shaped y = true ∧ Q (.d (.bool (!PyData.eqv x y)))
theorem decV_int (i j : Int) : decide (V.int i = V.int j) = decide (i = j) := by
  by_cases h : i = j
  · rw [h, decide_eq_true rfl, decide_eq_true rfl]
  · rw [decide_eq_false h, decide_eq_false fun q => h (V.int.inj q)]
theorem decV_str (i j : Str) : decide (V.str i = V.str j) = decide (i = j) := by
  by_cases h : i = j
  · rw [h, decide_eq_true rfl, decide_eq_true rfl]
  · rw [decide_eq_false h, decide_eq_false fun q => h (V.str.inj q)]
theorem decV_bl (i j : Bool) : decide (V.bl i = V.bl j) = decide (i = j) := by
  by_cases h : i = j
  · rw [h, decide_eq_true rfl, decide_eq_true rfl]
  · rw [decide_eq_false h, decide_eq_false fun q => h (V.bl.inj q)]
theorem lo_eq (hu : X.A.units + 64 < cLine) : LOp X (compareOp .Eq) wEq := by
  refine ⟨_, OpR.or op_eq (op_eqD hu), fun bxs n B H x y v u Qd Q g dx dy w k => ?_⟩
  unfold wEq at w
  split at w
  · rw [dx.int, dy.int]
    exact .inl ⟨rfl, by rw [decV_int]; exact k _ _ B H w g.refl (.bl _) trivial⟩
  · rw [dx.str, dy.str]
    exact .inl ⟨rfl, by rw [decV_str]; exact k _ _ B H w g.refl (.bl _) trivial⟩
  · rw [dx.bool, dy.bool]
    exact .inl ⟨rfl, by rw [decV_bl]; exact k _ _ B H w g.refl (.bl _) trivial⟩
  · exact .inr ⟨_, _, (dx.dp g.sub).kit (shaped_nd w.1), (dy.dp g.sub).kit (shaped_nd w.2.1), w.1, w.2.1, k _ _ B H w.2.2 g.refl (.bl _) trivial⟩
theorem lo_ne (hu : X.A.units + 64 < cLine) : LOp X (compareOp .NotEq) wNe := by
  refine ⟨_, OpR.or op_ne (op_neD hu), fun bxs n B H x y v u Qd Q g dx dy w k => ?_⟩
  unfold wNe at w
  split at w
  · rw [dx.int, dy.int]
    exact .inl ⟨rfl, by rw [decV_int]; exact k _ _ B H w g.refl (.bl _) trivial⟩
  · rw [dx.str, dy.str]
    exact .inl ⟨rfl, by rw [decV_str]; exact k _ _ B H w g.refl (.bl _) trivial⟩
  · rw [dx.bool, dy.bool]
    exact .inl ⟨rfl, by rw [decV_bl]; exact k _ _ B H w g.refl (.bl _) trivial⟩
  · exact .inr ⟨_, _, (dx.dp g.sub).kit (shaped_nd w.1), (dy.dp g.sub).kit (shaped_nd w.2.1), w.1, w.2.1, k _ _ B H w.2.2 g.refl (.bl _) trivial⟩
/-! ### is None -/
noncomputable def isNone : PyData → Bool
  | .none => true
  | _ => false
noncomputable def wIsN : DOp := fun x y Q => y = .none ∧ Q (.d (.bool (isNone x)))
noncomputable def wNotN : DOp := fun x y Q => y = .none ∧ Q (.d (.bool (!isNone x)))
end
end Dl

namespace Dl
open PySem L2

section
variable {X : Cx} {a b c : Expr} {wa wb wc : DE} {pos : Pos}
/-! ### * -/
noncomputable def rRepL (K : PySem.W.Frag) : R2 := fun x y H Q => ∃ l k xs, x = .ref l ∧ y = .int k ∧ SqL K H l xs ∧ -(2 ^ 63) ≤ k ∧ k < 2 ^ 63 ∧ xs.length * k.toNat ≤ sizeLine ∧
  ∀ p, H p = none → Q (.ref p) (upd H p (.lst (List.replicate k.toNat xs).flatten))
theorem rep_vals {xs : List V} {us : List Value} (h : Vals xs us) : ∀ n : Nat, Vals (List.replicate n xs).flatten (List.replicate n us).flatten
  | 0 => .nil
  | n + 1 => by
    rw [List.replicate_succ, List.replicate_succ, List.flatten_cons, List.flatten_cons]
    exact h.append (rep_vals h n)
theorem op_repL : OpR X (binaryOp .Mult) (rRepL X.K) := by
  intro pins s σ H x y v u Q I rx ry h
  obtain ⟨l, k, xs, rfl, rfl, hH, h1, h2, hz, q⟩ := h
  cases rx
  obtain ⟨t, rfl⟩ := ry
  obtain ⟨its, r, ⟨o1, n, ho, c1, d1, t1⟩, z1⟩ := I.list hH
  obtain ⟨cls, d, data, sl⟩ := o1
  simp only at c1 t1
  subst c1 t1
  have hl : its.length = xs.length := r.length.symm
  have hsz' : its.toArray.size * k.toNat ≤ 2 ^ 24 := by
    rw [List.size_toArray, hl]
    exact Nat.le_trans hz (by decide)
  have hnew : (List.foldl (fun x1 x2 => x1 ++ x2) #[] (List.replicate (if its.toArray.isEmpty = true then 0 else k.toNat) its.toArray)) = (List.replicate k.toNat its).flatten.toArray := by
    rw [PyProof.Rows.listMul_foldl_if]
  refine wpAny_binaryOp_repeat_ref (T := "list") (U := "int") (by decide) ⟨_, ho, rfl⟩ (fun s' => typeIs_int s' k t) noFill_list_mul F.fills_int_mul F.slot_int_rmul repeat_list F.slot_int_index.lookup
    (call_meets F.slot_int_rmul (typeIs_int s k t) F.entry_int_rmul (F.args_int_rmul_2 _ _) (lm_int_rmul_list_any k t l its.toArray n d sl)
      ⟨ho, rfl, ⟨_, ho, rfl⟩, call_meets F.slot_list_mul ⟨_, ho, rfl⟩ F.entry_list_mul (F.args_list_mul_2 _ _)
        (lm_list_mul_any l its.toArray n d sl k t (by simp [Builtin.List.listFitsIndex]; omega) (by omega) (by simp [Builtin.List.listTooLong, sizeLine]; simp at hsz'; omega))
        ⟨ho, ?_⟩⟩)
  rw [hnew]
  refine ⟨.ref _, _, I.lnew (t' := s.toks) (rep_vals r k.toNat) ?_, rfl, q _ I.fresh⟩
  rw [PyProof.Rows.lm_len_rep_flat, Nat.mul_comm]
  exact hz
/-- a text times a number, within a thousand each -/
theorem op_repS : OpR X (binaryOp .Mult) (fun x y H Q => ∃ (z : Str) (k : Int), x = .str z ∧ y = .int k ∧ k ≤ 100000 ∧ -100000 ≤ k ∧ z.length ≤ 1000 ∧ z.length * k.toNat ≤ sizeLine ∧ Q (.str ⟨(List.replicate k.toNat z.cps.toList).flatten.toArray⟩) H) := by
  intro pins s σ H x y v u Q I rx ry h
  obtain ⟨z, k, rfl, rfl, h1, h2, h3, hz, q⟩ := h
  obtain ⟨t, rfl⟩ := rx
  obtain ⟨t', rfl⟩ := ry
  have f0 : ∀ (m : Nat) (acc : Array Nat), (List.replicate m z.cps).foldl (· ++ ·) acc = acc ++ (List.replicate m z.cps.toList).flatten.toArray := fun m => by
    induction m with
    | zero => intro acc; simp
    | succ m ih =>
      intro acc
      rw [List.replicate_succ, List.foldl_cons, ih, List.replicate_succ, List.flatten_cons]
      apply Array.toList_inj.mp
      simp
  refine P.mul_str (by rw [decide_eq_false (by omega), decide_eq_false (by omega)]; rfl) (fun a1 _ => ?_) (fun a1 _ => ?_) ?_
  · have hk : (0 : Int) < k := by omega
    have : (1000 : Int) ≤ (2 ^ 63 - 1) / k := by
      rw [Int.le_ediv_iff_mul_le hk]
      omega
    omega
  · unfold Builtin.Str.tooLong
    exact decide_eq_false (by show ¬ _ > sizeLine; omega)
  · by_cases k1 : k < 1
    · rw [if_pos k1]
      refine ⟨by decide, ?_⟩
      have e0 : k.toNat = 0 := by omega
      rw [e0] at q
      exact ⟨.str _, H, I.tok _, ⟨_, rfl⟩, q⟩
    · rw [if_neg k1]
      by_cases k2 : (k == 1 || z.length == 0) = true
      · rw [if_pos k2]
        have ez : (⟨(List.replicate k.toNat z.cps.toList).flatten.toArray⟩ : Str) = z := by
          rw [Bool.or_eq_true] at k2
          rcases k2 with k2 | k2
          · have : k = 1 := eq_of_beq k2
            subst this
            obtain ⟨cs⟩ := z
            simp
          · have e1 : z.length = 0 := eq_of_beq k2
            obtain ⟨cs⟩ := z
            have e2 : cs = #[] := Array.eq_empty_of_size_eq_zero e1
            subst e2
            simp
        rw [ez] at q
        exact ⟨.str z, H, I, ⟨t, rfl⟩, q⟩
      · rw [if_neg k2]
        have := f0 k.toNat #[]
        rw [this, Array.empty_append]
        refine ⟨?_, ⟨.str _, H, I.tok _, ⟨_, rfl⟩, q⟩⟩
        show (Array.size (List.toArray _)) ≤ _
        rw [List.size_toArray, PyProof.Rows.lm_len_rep_flat, Nat.mul_comm]
        have : z.cps.toList.length = z.length := by simp [Str.length]
        rw [this]
        exact hz
/-- a tuple times a number -/
noncomputable def wMul : DOp := fun x y Q => match x, y with
  | .int i, .int j => CMulW i j ∧ Q (.d (.int (i * j)))
  | .str z, .int k => (k ≤ 100000 ∧ -100000 ≤ k ∧ z.length ≤ 1000 ∧ z.length * k.toNat ≤ sizeLine) ∧ Q (.d (.str ⟨(List.replicate k.toNat z.cps.toList).flatten.toArray⟩))
  | .list xs, .int k => (-(2 ^ 63) ≤ k ∧ k < 2 ^ 63 ∧ xs.length * k.toNat ≤ sizeLine) ∧ Q (.new (List.replicate k.toNat xs).flatten)
  | .tuple xs, .int k => (xs ≠ [] ∧ 2 ≤ k ∧ k ≤ 1000 ∧ xs.length ≤ 1000) ∧ Q (.d (.tuple (List.replicate k.toNat xs).flatten))
  | _, _ => False
theorem freshB {bxs : List Addr} {n : Nat} {B H : Hp} (g : Good bxs n B H) {z : Addr} (hz : H z = none) : z ∉ bxs ∧ B z = none := by
  refine ⟨fun h => (g.box z h).2.ne hz, ?_⟩
  cases e : B z with
  | none => rfl
  | some o =>
    rw [g.sub z o e] at hz
    cases hz
/-- a new list as a result -/
theorem give_new {K : PySem.W.Frag} {bxs : List Addr} {n : Nat} {B H : Hp} {Qd : RV → Prop} {Q : VK} {xs : List PyData} {vs : List V} (g : Good bxs n B H) (h : DpAll K B vs xs) (w : Qd (.new xs))
    (k : ∀ res v' B1 H1, Qd res → Step bxs n n B H B1 H1 → ValR K bxs n B1 H1 res v' → FrR H res v' → Q v' H1) (p : Addr) (hp : H p = none) : Q (.ref p) (upd H p (.lst vs)) :=
  k _ _ B _ w (g.refl.lay0 hp) ⟨p, vs, rfl, (freshB g hp).1, (freshB g hp).2, upd_same, h⟩ ⟨p, rfl, hp⟩
/-- a new tuple as a result -/
theorem give_tup {K : PySem.W.Frag} {bxs : List Addr} {n : Nat} {B H : Hp} {Qd : RV → Prop} {Q : VK} {xs : List PyData} {vs : List V} (g : Good bxs n B H) (h : DpAll K B vs xs) (w : Qd (.d (.tuple xs)))
    (k : ∀ res v' B1 H1, Qd res → Step bxs n n B H B1 H1 → ValR K bxs n B1 H1 res v' → FrR H res v' → Q v' H1) (p : Addr) (hp : H p = none) : Q (.ref p) (upd H p (.tup vs)) :=
  k _ _ _ _ w (g.refl.lay g hp) (.tup (.inl (.inl upd_same)) (dpSameAll (sub_add (freshB g hp).2) _ _ h)) trivial
theorem lo_mul : LOp X (binaryOp .Mult) wMul := by
  refine ⟨_, OpR.or op_mulW (OpR.or op_repS (OpR.or op_repL op_repT)), fun bxs n B H x y v u Qd Q g dx dy w k => ?_⟩
  cases x <;> cases y <;> try exact w.elim
  · exact .inl ⟨_, _, dx.int, dy.int, w.1, k _ _ B H w.2 g.refl (.int _) trivial⟩
  · exact .inr (.inl ⟨_, _, dx.str, dy.int, w.1.1, w.1.2.1, w.1.2.2.1, w.1.2.2.2, k _ _ B H w.2 g.refl (.str _) trivial⟩)
  · obtain ⟨p, vs, rfl, h1, h2⟩ := dx.list g.sub
    exact .inr (.inr (.inl ⟨p, _, vs, rfl, dy.int, h1, w.1.1, w.1.2.1, by rw [dpLen _ _ h2]; exact w.1.2.2, give_new g (dpRep h2 _) w.2 k⟩))
  · obtain ⟨p, vs, rfl, h1, h2⟩ := dx.tuple g.sub
    have hl := dpLen _ _ h2
    exact .inr (.inr (.inr ⟨p, _, vs, rfl, dy.int, h1, fun e => by subst e; cases h2; exact w.1.1 rfl, w.1.2.1, w.1.2.2.1, by rw [hl]; exact w.1.2.2.2, give_tup g (dpRep h2 _) w.2 k⟩))

/-! ### tests -/
noncomputable def onB (r : RV) (F : Bool → Prop) : Prop := match r with
  | .d (.bool b) => F b
  | _ => False
theorem onB_ex {r : RV} {F : Bool → Prop} (h : onB r F) : ∃ b, r = .d (.bool b) ∧ F b := by
  unfold onB at h
  split at h
  · exact ⟨_, rfl, h⟩
  · exact h.elim
noncomputable def onI (r : RV) (F : Int → Prop) : Prop := match r with
  | .d (.int b) => F b
  | _ => False
theorem onI_ex {r : RV} {F : Int → Prop} (h : onI r F) : ∃ b, r = .d (.int b) ∧ F b := by
  unfold onI at h
  split at h
  · exact ⟨_, rfl, h⟩
  · exact h.elim
noncomputable def onO {α : Type} (r : Option α) (F : α → Prop) : Prop := match r with
  | some b => F b
  | none => False
theorem onO_ex {α : Type} {r : Option α} {F : α → Prop} (h : onO r F) : ∃ b, r = some b ∧ F b := by
  cases r with
  | some b => exact ⟨b, rfl, h⟩
  | none => exact h.elim
noncomputable def dTest (w : DE) : DT := fun ρ n Q => w ρ n fun r n1 => onB r fun b => Q b n1
theorem up_test {K : PySem.W.Frag} {w : DE} (σ : L2.St) (H : Hp) (Q : Bool → Hp → Prop) (h : upT K (dTest w) σ H Q) : tB (up K w) σ H Q := by
  obtain ⟨ρ, n, B, bxs, Qd, g, e, w1, q⟩ := h
  refine ⟨ρ, n, B, bxs, _, g, e, w1, fun r n1 v B1 H1 hb s1 vr f1 => ?_⟩
  obtain ⟨bv, rfl, hq⟩ := onB_ex hb
  cases vr
  exact ⟨bv, rfl, q _ _ _ _ hq s1⟩
theorem lt_val {e : Expr} {w : DE} (h : LE X e w) (he : ∀ whole, isTrue e X.env whole = (do let v ← whole; standAt e.pos; holding [v] (truthy v)) := by intro _; rfl) : LT X e (dTest w) := pt_imp (pt_val h he) up_test
theorem lt_cmp {op : CmpOp} {w : DOp} (ho : LOp X (compareOp op) w) (ha : LE X a wa) (hb : LE X b wb) (hm : behindInMarks op b = false) : LT X (.Compare a [op] [b] pos) (dTest (dOp w wa wb)) := by
  obtain ⟨r, h1, h2⟩ := ho
  refine pt_imp (pt_cmpR h1 ha hb hm) fun σ H Q h => ?_
  have h3 := up_test σ H Q h
  exact up_op h2 σ H _ h3
noncomputable def dNot (w : DT) : DT := fun ρ n Q => w ρ n fun b n1 => Q (!b) n1
noncomputable def dAnd (w u : DT) : DT := fun ρ n Q => w ρ n fun b n1 => if b = true then u ρ n1 Q else Q false n1
noncomputable def dOr (w u : DT) : DT := fun ρ n Q => w ρ n fun b n1 => if b = true then Q true n1 else u ρ n1 Q
variable {w u : DT} {rest : List Expr}
theorem lt_not (h : LT X a w) : LT X (.UnaryOp .Not a pos) (dNot w) := pt_imp (pt_not h) fun σ H Q hu => by
  obtain ⟨ρ, n, B, bxs, Qd, g, e, w1, q⟩ := hu
  exact ⟨ρ, n, B, bxs, _, g, e, w1, fun b n1 B1 H1 hq s1 => q _ _ _ _ hq s1⟩
theorem up_and {K : PySem.W.Frag} (σ : L2.St) (H : Hp) (Q : Bool → Hp → Prop) (hu : upT K (dAnd w u) σ H Q) : tAnd (upT K w) (upT K u) σ H Q := by
  obtain ⟨ρ, n, B, bxs, Qd, g, e, w1, q⟩ := hu
  refine ⟨ρ, n, B, bxs, _, g, e, w1, fun bv n1 B1 H1 hq s1 => ?_⟩
  cases bv with
  | true =>
    exact iteT ⟨ρ, n1, B1, bxs, Qd, g.step s1, e.step s1, hq, fun b2 n2 B2 H2 hq2 s2 => q _ _ _ _ hq2 (s1.trans s2)⟩
  | false => exact iteF (q _ _ _ _ hq s1)
theorem up_or {K : PySem.W.Frag} (σ : L2.St) (H : Hp) (Q : Bool → Hp → Prop) (hu : upT K (dOr w u) σ H Q) : tOr (upT K w) (upT K u) σ H Q := by
  obtain ⟨ρ, n, B, bxs, Qd, g, e, w1, q⟩ := hu
  refine ⟨ρ, n, B, bxs, _, g, e, w1, fun bv n1 B1 H1 hq s1 => ?_⟩
  cases bv with
  | true => exact iteT (q _ _ _ _ hq s1)
  | false => exact iteF ⟨ρ, n1, B1, bxs, Qd, g.step s1, e.step s1, hq, fun b2 n2 B2 H2 hq2 s2 => q _ _ _ _ hq2 (s1.trans s2)⟩
noncomputable abbrev LW (X : Cx) (e : Expr) (w : DT) : Prop := PW X e (upT X.K w)
theorem pw_imp {e : Expr} {t t' : TT} (h : PW X e t) (i : ∀ σ H Q, t' σ H Q → t σ H Q) : PW X e t' := ⟨fun wh pins s σ H Q I q => h.run wh pins s σ H Q I (i σ H Q q)⟩
theorem lw_and1 (h : LT X a w) : LW X (.BoolOp .And [a] pos) w := pw_and1 h
theorem lw_or1 (h : LT X a w) : LW X (.BoolOp .Or [a] pos) w := pw_or1 h
theorem lw_and (h : LT X a w) (hb : LW X (.BoolOp .And (b :: rest) pos) u) : LW X (.BoolOp .And (a :: b :: rest) pos) (dAnd w u) := pw_imp (pw_and h hb) up_and
theorem lw_or (h : LT X a w) (hb : LW X (.BoolOp .Or (b :: rest) pos) u) : LW X (.BoolOp .Or (a :: b :: rest) pos) (dOr w u) := pw_imp (pw_or h hb) up_or
theorem lt_w {e : Expr} (h : LW X e w) : LT X e w := h.pt
/-! ### values by tests -/
noncomputable def dIf (w : DT) (wa wb : DE) : DE := fun ρ n Q => w ρ n fun b n1 => if b = true then wa ρ n1 Q else wb ρ n1 Q
theorem le_if {c : Expr} (hc : LT X c w) (ha : LE X a wa) (hb : LE X b wb) : LE X (.IfExp c a b pos) (dIf w wa wb) := pe_imp (pe_ifExp hc ha hb) fun σ H Q hu => by
  obtain ⟨ρ, n, B, bxs, Qd, g, e, w1, q⟩ := hu
  refine ⟨ρ, n, B, bxs, _, g, e, w1, fun bv n1 B1 H1 hq s1 => ?_⟩
  cases bv with
  | true => exact iteT ⟨ρ, n1, B1, bxs, Qd, g.step s1, e.step s1, hq, fun r n2 v B2 H2 hq2 s2 vr f => q _ _ _ _ _ hq2 (s1.trans s2) vr (f.back s1)⟩
  | false => exact iteF ⟨ρ, n1, B1, bxs, Qd, g.step s1, e.step s1, hq, fun r n2 v B2 H2 hq2 s2 vr f => q _ _ _ _ _ hq2 (s1.trans s2) vr (f.back s1)⟩
noncomputable def dAndV (wa wb : DE) : DE := fun ρ n Q => wa ρ n fun r n1 => onB r fun b => if b = true then wb ρ n1 Q else Q (.d (.bool false)) n1
noncomputable def dOrV (wa wb : DE) : DE := fun ρ n Q => wa ρ n fun r n1 => onB r fun b => if b = true then Q (.d (.bool true)) n1 else wb ρ n1 Q
noncomputable def dNotV (wa : DE) : DE := fun ρ n Q => wa ρ n fun r n1 => onB r fun b => Q (.d (.bool (!b))) n1
theorem le_one {op} (h : LE X a wa) : LE X (.BoolOp op [a] pos) wa := pe_one h
theorem le_and (ha : LE X a wa) (hb : LE X (.BoolOp .And (b :: rest) pos) wb) : LE X (.BoolOp .And (a :: b :: rest) pos) (dAndV wa wb) := pe_imp (pe_and ha hb) fun σ H Q hu => by
  obtain ⟨ρ, n, B, bxs, Qd, g, e, w1, q⟩ := hu
  refine ⟨ρ, n, B, bxs, _, g, e, w1, fun r n1 v B1 H1 hq s1 vr f1 => ?_⟩
  obtain ⟨bv, rfl, hq⟩ := onB_ex hq
  cases vr
  refine ⟨bv, rfl, ?_⟩
  cases bv with
  | true => exact iteT ⟨ρ, n1, B1, bxs, Qd, g.step s1, e.step s1, hq, fun r n2 v B2 H2 hq2 s2 vr f => q _ _ _ _ _ hq2 (s1.trans s2) vr (f.back s1)⟩
  | false => exact iteF (q _ _ _ _ _ hq s1 (.bl false) trivial)
theorem le_or (ha : LE X a wa) (hb : LE X (.BoolOp .Or (b :: rest) pos) wb) : LE X (.BoolOp .Or (a :: b :: rest) pos) (dOrV wa wb) := pe_imp (pe_or ha hb) fun σ H Q hu => by
  obtain ⟨ρ, n, B, bxs, Qd, g, e, w1, q⟩ := hu
  refine ⟨ρ, n, B, bxs, _, g, e, w1, fun r n1 v B1 H1 hq s1 vr f1 => ?_⟩
  obtain ⟨bv, rfl, hq⟩ := onB_ex hq
  cases vr
  refine ⟨bv, rfl, ?_⟩
  cases bv with
  | true => exact iteT (q _ _ _ _ _ hq s1 (.bl true) trivial)
  | false => exact iteF ⟨ρ, n1, B1, bxs, Qd, g.step s1, e.step s1, hq, fun r n2 v B2 H2 hq2 s2 vr f => q _ _ _ _ _ hq2 (s1.trans s2) vr (f.back s1)⟩
noncomputable def dNeg (wa : DE) : DE := fun ρ n Q => wa ρ n fun r n1 => onI r fun i => Q (.d (.int (-i))) n1
theorem le_neg (ha : LE X a wa) : LE X (.UnaryOp .USub a pos) (dNeg wa) := pe_imp (pe_un un_neg ha) fun σ H Q hu => by
  obtain ⟨ρ, n, B, bxs, Qd, g, e, w1, q⟩ := hu
  refine ⟨ρ, n, B, bxs, _, g, e, w1, fun r n1 v B1 H1 hq s1 vr f1 => ?_⟩
  obtain ⟨i, rfl, hq⟩ := onI_ex hq
  cases vr
  exact ⟨i, rfl, q _ _ _ _ _ hq s1 (.int _) trivial⟩

/-! ### arguments, displays -/
noncomputable def dNil : DA := fun _ n Q => Q [] n
noncomputable def dCons (wa : DE) (wr : DA) : DA := fun ρ n Q => wa ρ n fun r n1 => wr ρ n1 fun rs n2 => Q (fixR r :: rs) n2
theorem la_nil : LA X [] dNil := pa_imp pa_nil fun σ H Q hu => by
  obtain ⟨ρ, n, B, bxs, Qd, g, e, w1, q⟩ := hu
  exact q _ _ _ _ _ w1 g.refl trivial trivial
theorem FrsR.back {bxs : List Addr} {n n1 : Nat} {B H B1 H1 : Hp} (s : Step bxs n n1 B H B1 H1) : ∀ {rs : List RV} {vs : List V}, FrsR H1 rs vs → FrsR H rs vs
  | [], [], _ => trivial
  | _ :: _, _ :: _, h => ⟨h.1.back s, FrsR.back s h.2⟩
  | [], _ :: _, _ => trivial
  | _ :: _, [], _ => trivial
theorem la_cons {es : List Expr} {wr : DA} (ha : LE X a wa) (hr : LA X es wr) (hs : starEach (a :: es) X.env = (false, eval a X.env) :: starEach es X.env := by rfl) : LA X (a :: es) (dCons wa wr) := pa_imp (pa_cons ha hr hs) fun σ H Q hu => by
  obtain ⟨ρ, n, B, bxs, Qd, g, e, w1, q⟩ := hu
  refine ⟨ρ, n, B, bxs, _, g, e, w1, fun r n1 v B1 H1 hq s1 vr f1 => ?_⟩
  obtain ⟨B2, s2, vr2, sb⟩ := fix_r g s1 vr f1
  refine ⟨ρ, n1, B2, bxs, _, g.step s2, e.step s2, hq, fun rs n3 vs B3 H3 hq3 s3 vrs frs => ?_⟩
  refine q _ _ _ _ _ hq3 (s2.trans s3) ⟨vr2.step s3, vrs⟩ ⟨?_, frs.back s2⟩
  cases r with
  | d x => trivial
  | new xs => trivial
  | bor xs => trivial
  | box => trivial
  | obj o0 => trivial
  | nbox => exact f1
  | own T => exact f1
/-- all are data -/
noncomputable def datas : List RV → Option (List PyData)
  | [] => some []
  | .d x :: rs => (datas rs).map (x :: ·)
  | _ :: _ => none
theorem datas_r {K : PySem.W.Frag} {bxs : List Addr} {n : Nat} {B H : Hp} : ∀ (rs : List RV) (vs : List V) (xs : List PyData), ValsR K bxs n B H rs vs → datas rs = some xs → DpAll K B vs xs
  | [], [], xs, _, e => by cases e; exact .nil
  | [], _ :: _, _, h, _ => h.elim
  | _ :: _, [], _, h, _ => h.elim
  | r :: rs, v :: vs, xs, h, e => by
    cases r with
    | d x =>
      unfold datas at e
      cases e1 : datas rs with
      | none => rw [e1] at e; cases e
      | some ys =>
        rw [e1] at e
        cases e
        exact .cons h.1 (datas_r rs vs ys h.2 e1)
    | new ys => cases e
    | bor ys => cases e
    | box => cases e
    | obj o0 => cases e
    | nbox => cases e
    | own T => cases e
noncomputable def dTup (wr : DA) : DE := fun ρ n Q => wr ρ n fun rs n1 => onO (datas rs) fun xs => xs.length ≤ sizeLine ∧ Q (.d (.tuple xs)) n1
noncomputable def dLst (wr : DA) : DE := fun ρ n Q => wr ρ n fun rs n1 => onO (datas rs) fun xs => xs.length ≤ sizeLine ∧ Q (.new xs) n1
theorem le_tup {es : List Expr} {wr : DA} {x1} (h : LA X es wr) : LE X (.Tuple es x1 pos) (dTup wr) := pe_imp (pe_tup h) fun σ H Q hu => by
  obtain ⟨ρ, n, B, bxs, Qd, g, e, w1, q⟩ := hu
  refine ⟨ρ, n, B, bxs, _, g, e, w1, fun rs n1 vs B1 H1 hq s1 vr f1 => ?_⟩
  obtain ⟨xs, ex, hl, hq⟩ := onO_ex hq
  have h1 := datas_r _ _ _ vr ex
  refine ⟨by rw [dpLen _ _ h1]; exact hl, fun p hp => ?_⟩
  have bp := (freshB (g.step s1) hp).2
  exact q _ _ _ _ _ hq (s1.lay g hp) (.tup (.inl (.inl upd_same)) (dpSameAll (sub_add bp) _ _ h1)) trivial
theorem le_lst {es : List Expr} {wr : DA} (h : LA X es wr) : LE X (.List es pos) (dLst wr) := pe_imp (pe_lst h) fun σ H Q hu => by
  obtain ⟨ρ, n, B, bxs, Qd, g, e, w1, q⟩ := hu
  refine ⟨ρ, n, B, bxs, _, g, e, w1, fun rs n1 vs B1 H1 hq s1 vr f1 => ?_⟩
  obtain ⟨xs, ex, hl, hq⟩ := onO_ex hq
  have h1 := datas_r _ _ _ vr ex
  refine ⟨by rw [dpLen _ _ h1]; exact hl, fun p hp => ?_⟩
  have bp := freshB (g.step s1) hp
  exact q _ _ _ _ _ hq (s1.lay0 hp) ⟨p, vs, rfl, bp.1, bp.2, upd_same, h1⟩ ⟨p, rfl, s1.free hp⟩

/-! ### subscripts -/
theorem dpAt {K : PySem.W.Frag} {B : Hp} {xs : List PyData} {vs : List V} {i : Int} {x : PyData} (h : DpAll K B vs xs) (e : atI xs i = some x) : ∃ v, atI vs i = some v ∧ Dp K B v x := by
  unfold atI at e ⊢
  rw [dpLen _ _ h]
  cases e1 : ixN xs.length i with
  | none => rw [e1] at e; cases e
  | some j =>
    rw [e1] at e
    exact dpGet _ _ _ _ h e
noncomputable def wIx : DOp := fun x y Q => match x, y with
  | .list xs, .int i => ∃ z, atI xs i = some z ∧ Q (.d z)
  | .tuple xs, .int i => ∃ z, atI xs i = some z ∧ Q (.d z)
  | .str s, .int i => s.length ≤ sizeLine ∧ ∃ ch, atI s.cps.toList i = some ch ∧ Q (.d (.str ⟨#[ch]⟩))
  | _, _ => False
theorem le_ix (ha : LE X a wa) (hb : LE X b wb) (hs : PlainIx b := by exact fun _ _ => rfl) : LE X (.Subscript a b pos) (dOp wIx wa wb) := by
  refine pe_imp (pe_ix ix_seq ha hb hs) (up_op fun bxs n B H x y v u Qd Q g dx dy w k => ?_)
  cases x <;> cases y <;> try exact w.elim
  · obtain ⟨hl, ch, e, w⟩ := w
    exact .inr (.inr ⟨_, _, ch, dx.str, dy.int, hl, e, k _ _ B H w g.refl (.str _) trivial⟩)
  · obtain ⟨z, e, w⟩ := w
    obtain ⟨p, vs, rfl, h1, h2⟩ := dx.list g.sub
    obtain ⟨zv, e1, e2⟩ := dpAt h2 e
    exact .inl ⟨p, vs, _, zv, rfl, dy.int, h1, e1, k _ _ B H w g.refl e2 trivial⟩
  · obtain ⟨z, e, w⟩ := w
    obtain ⟨p, vs, rfl, h1, h2⟩ := dx.tuple g.sub
    obtain ⟨zv, e1, e2⟩ := dpAt h2 e
    exact .inr (.inl ⟨p, vs, _, zv, rfl, dy.int, h1, e1, k _ _ B H w g.refl e2 trivial⟩)
end
end Dl

namespace Dl
open PySem L2

/-! ### slices -/
noncomputable abbrev DO := DEnv → Nat → (Option Int → Nat → Prop) → Prop
noncomputable def upO (K : PySem.W.Frag) (w : DO) : TO := fun σ H Q => ∃ (ρ : DEnv) (n : Nat) (B : Hp) (bxs : List Addr) (Qd : Option Int → Nat → Prop),
  Good bxs n B H ∧ EnvR K bxs n B H σ ρ ∧ w ρ n Qd ∧ ∀ o n1 B1 H1, Qd o n1 → Step bxs n n1 B H B1 H1 → Q o H1
noncomputable abbrev LO (X : Cx) (e : Option Expr) (w : DO) : Prop := PO X e (upO X.K w)
noncomputable def dNoPart : DO := fun _ n Q => Q none n
noncomputable def dPart (w : DE) : DO := fun ρ n Q => w ρ n fun r n1 => onI r fun i => Q (some i) n1
noncomputable def cutD (xs : List PyData) (lo hi : Option Int) : List PyData := (xs.drop (HT.sIx xs.length 0 lo)).take (HT.sIx xs.length xs.length hi - HT.sIx xs.length 0 lo)
noncomputable def wSl (lo hi : Option Int) (x : PyData) (Q : RV → Prop) : Prop := match x with
  | .list xs => Q (.new (cutD xs lo hi))
  | .tuple xs => Q (.d (.tuple (cutD xs lo hi)))
  | .str z => z.length ≤ sizeLine ∧ Q (.d (.str (cutS z lo hi)))
  | _ => False
noncomputable def dSl (wa : DE) (wl wh : DO) : DE := fun ρ n Q => wa ρ n fun r n1 => wl ρ n1 fun lo n2 => wh ρ n2 fun hi n3 => onO (view r) fun x => wSl lo hi x fun r' => Q r' n3
section
variable {X : Cx} {a b c : Expr} {wa wb wc : DE} {pos : Pos}
theorem lo_none : LO X none dNoPart := ⟨fun pins s σ H Q I hu => po_none.run pins s σ H Q I (by
  obtain ⟨ρ, n, B, bxs, Qd, g, e, w1, q⟩ := hu
  exact q _ _ _ _ w1 g.refl)⟩
theorem lo_some (h : LE X a wa) : LO X (some a) (dPart wa) := ⟨fun pins s σ H Q I hu => (po_some h).run pins s σ H Q I (by
  obtain ⟨ρ, n, B, bxs, Qd, g, e, w1, q⟩ := hu
  refine ⟨ρ, n, B, bxs, _, g, e, w1, fun r n1 v B1 H1 hq s1 vr f1 => ?_⟩
  obtain ⟨i, rfl, hq⟩ := onI_ex hq
  cases vr
  exact ⟨i, rfl, q _ _ _ _ hq s1⟩)⟩
theorem dpCut {K : PySem.W.Frag} {B : Hp} {xs : List PyData} {vs : List V} (h : DpAll K B vs xs) (lo hi : Option Int) : DpAll K B (cutV vs lo hi) (cutD xs lo hi) := by
  unfold cutV cutD
  rw [dpLen _ _ h]
  exact dpTake _ _ _ (dpDrop _ _ _ h)
theorem le_sl {p2 : Pos} {lo hi : Option Expr} {wl wh : DO} (ha : LE X a wa) (hl : LO X lo wl) (hh : LO X hi wh) : LE X (.Subscript a (.Slice lo hi none p2) pos) (dSl wa wl wh) := by
  refine pe_imp (pe_slice (SlR.or sl_list (SlR.or sl_tupA sl_str)) ha hl hh) fun σ H Q hu => ?_
  obtain ⟨ρ, n, B, bxs, Qd, g, e, w1, q⟩ := hu
  refine ⟨ρ, n, B, bxs, _, g, e, w1, fun r n1 v B1 H1 hq s1 vr f1 => ?_⟩
  refine ⟨ρ, n1, B1, bxs, _, g.step s1, e.step s1, hq, fun lo n2 B2 H2 hq s2 => ?_⟩
  have s12 := s1.trans s2
  refine ⟨ρ, n2, B2, bxs, _, g.step s12, e.step s12, hq, fun hi n3 B3 H3 hq s3 => ?_⟩
  have s13 := s12.trans s3
  have g3 := g.step s13
  obtain ⟨x, ex, w⟩ := onO_ex hq
  have dx := view_r (vr.step (s2.trans s3)) ex
  have k : ∀ res v' B1 H1, (fun r' => Qd r' n3) res → Step bxs n3 n3 B3 H3 B1 H1 → ValR X.K bxs n3 B1 H1 res v' → FrR H3 res v' → Q v' H1 := fun res v' B4 H4 hq s4 vr f4 => q _ _ _ _ _ hq (s13.trans s4) vr (f4.back s13)
  cases x <;> try exact w.elim
  · exact .inr (.inr ⟨_, dx.str, w.1, k _ _ B3 H3 w.2 g3.refl (.str _) trivial⟩)
  · obtain ⟨p, vs, rfl, h1, h2⟩ := dx.list g3.sub
    exact .inl ⟨p, vs, rfl, h1, give_new g3 (dpCut h2 lo hi) w k⟩
  · obtain ⟨p, vs, rfl, h1, h2⟩ := dx.tuple g3.sub
    refine .inr (.inl ⟨p, vs, rfl, h1, fun ew => ?_, fun _ => give_tup g3 (dpCut h2 lo hi) w k⟩)
    have h3 := dpCut h2 lo hi
    have ec : cutV vs lo hi = vs := by
      unfold cutV
      rw [ew.1, ew.2, List.drop_zero, Nat.sub_zero, List.take_length]
    rw [ec] at h3
    refine k _ _ B3 H3 w g3.refl ?_ trivial
    rcases dx with h | ⟨_, _, _, _, e, _⟩
    · cases h with
      | tup h4 h5 => 
        rename_i p2 vs2
        have h6 : SqT X.K H3 p vs2 := seqT g3.sub h4
        exact .tup h4 (by
          have h7 := dpCut h5 lo hi
          have e5 := dpLen _ _ h5
          have e2 := dpLen _ _ h2
          have el : vs.length = vs2.length := by rw [e2, e5]
          have ec2 : cutV vs2 lo hi = vs2 := by
            unfold cutV
            rw [← el, ew.1, ew.2, List.drop_zero, Nat.sub_zero, el, List.take_length]
          rw [ec2] at h7
          exact h7)
    · cases e
/-! ### calls of built-ins -/
noncomputable def views : List RV → Option (List PyData)
  | [] => some []
  | r :: rs => (view r).bind fun x => (views rs).map (x :: ·)
noncomputable def DpVs (K : PySem.W.Frag) (B H : Hp) : List V → List PyData → Prop
  | [], [] => True
  | v :: vs, x :: xs => DpV K B H v x ∧ DpVs K B H vs xs
  | _, _ => False
theorem views_r {K : PySem.W.Frag} {bxs : List Addr} {n : Nat} {B H : Hp} : ∀ (rs : List RV) (vs : List V) (xs : List PyData), ValsR K bxs n B H rs vs → views rs = some xs → DpVs K B H vs xs
  | [], [], xs, _, e => by cases e; trivial
  | [], _ :: _, _, h, _ => h.elim
  | _ :: _, [], _, h, _ => h.elim
  | r :: rs, v :: vs, xs, h, e => by
    unfold views at e
    cases e1 : view r with
    | none => rw [e1] at e; cases e
    | some x =>
      rw [e1] at e
      cases e2 : views rs with
      | none => rw [e2] at e; cases e
      | some ys =>
        rw [e2] at e
        cases e
        exact ⟨view_r h.1 e1, views_r rs vs ys h.2 e2⟩
noncomputable abbrev DCall := List PyData → (RV → Prop) → Prop
noncomputable def LCall (X : Cx) (f : Value) (w : DCall) : Prop := ∃ r, CallR X f r ∧
  ∀ (bxs : List Addr) (n : Nat) (B H : Hp) (xs : List PyData) (vs : List V) (Qd : RV → Prop) (Q : VK), Good bxs n B H → DpVs X.K B H vs xs → w xs Qd →
    (∀ res v' B1 H1, Qd res → Step bxs n n B H B1 H1 → ValR X.K bxs n B1 H1 res v' → FrR H res v' → Q v' H1) → r vs H Q
noncomputable def dCB (w : DCall) (wr : DA) : DE := fun ρ n Q => wr ρ n fun rs n1 => onO (views rs) fun xs => w xs fun r => Q r n1
theorem up_cb {K : PySem.W.Frag} {w : DCall} {r : List V → Hp → VK → Prop} {wr : DA} (h : ∀ (bxs : List Addr) (n : Nat) (B H : Hp) (xs : List PyData) (vs : List V) (Qd : RV → Prop) (Q : VK), Good bxs n B H → DpVs K B H vs xs → w xs Qd →
    (∀ res v' B1 H1, Qd res → Step bxs n n B H B1 H1 → ValR K bxs n B1 H1 res v' → FrR H res v' → Q v' H1) → r vs H Q) (σ : L2.St) (H : Hp) (Q : VK) (hu : up K (dCB w wr) σ H Q) : tCB r (upA K wr) σ H Q := by
  obtain ⟨ρ, n, B, bxs, Qd, g, e, w1, q⟩ := hu
  refine ⟨ρ, n, B, bxs, _, g, e, w1, fun rs n1 vs B1 H1 hq s1 vr f1 => ?_⟩
  obtain ⟨xs, ex, hq⟩ := onO_ex hq
  exact h bxs n1 B1 H1 xs vs _ Q (g.step s1) (views_r _ _ _ vr ex) hq fun res v' B2 H2 hq s2 vr2 f2 => q _ _ _ _ _ hq (s1.trans s2) vr2 (f2.back s1)
theorem le_callB {x : Str} {p : Pos} {e : Expr} {es : List Expr} {id : String} {w : DCall} {wr : DA} (hc : LCall X (.builtin id) w) (hg : Gl X x) (hm : X.mg x = none) (hv : bootBuiltins x = some (.builtin id)) (ha : LA X (e :: es) wr) (hn : x ≠ "__name__" := by decide) (hdb : (x == ("__debug__" : Str)) = false := by decide)
    (he : starEach (e :: es) X.env = (false, eval e X.env) :: starEach es X.env := by rfl) (hpl : (backTo pos (starEach es X.env)).any (·.1) = false := by rfl) : LE X (.Call (.Name x p) (e :: es) [] pos) (dCB w wr) := by
  obtain ⟨r, h1, h2⟩ := hc
  exact pe_imp (pe_callB h1 hg hm hv ha hn hdb he hpl) (up_cb h2)
theorem le_callTy {x : Str} {p : Pos} {e : Expr} {es : List Expr} {id : String} {w : DCall} {wr : DA} (hc : LCall X (.type id) w) (hg : Gl X x) (hm : X.mg x = none) (hv : bootBuiltins x = some (.type id)) (ha : LA X (e :: es) wr) (hn : x ≠ "__name__" := by decide) (hdb : (x == ("__debug__" : Str)) = false := by decide)
    (he : starEach (e :: es) X.env = (false, eval e X.env) :: starEach es X.env := by rfl) (hpl : (backTo pos (starEach es X.env)).any (·.1) = false := by rfl) : LE X (.Call (.Name x p) (e :: es) [] pos) (dCB w wr) := by
  obtain ⟨r, h1, h2⟩ := hc
  exact pe_imp (pe_callTy h1 hg hm hv ha hn hdb he hpl) (up_cb h2)
/-- one argument -/
theorem dpvs1 {K : PySem.W.Frag} {B H : Hp} {x : PyData} : ∀ {vs : List V}, DpVs K B H vs [x] → ∃ v, vs = [v] ∧ DpV K B H v x
  | [], h => h.elim
  | [v], h => ⟨v, rfl, h.1⟩
  | _ :: _ :: _, h => h.2.elim
theorem dpvs2 {K : PySem.W.Frag} {B H : Hp} {x y : PyData} : ∀ {vs : List V}, DpVs K B H vs [x, y] → ∃ v u, vs = [v, u] ∧ DpV K B H v x ∧ DpV K B H u y
  | [], h => h.elim
  | [_], h => h.2.elim
  | [v, u], h => ⟨v, u, rfl, h.1, h.2.1⟩
  | _ :: _ :: _ :: _, h => h.2.2.elim
noncomputable def wLen : DCall := fun xs Q => match xs with
  | [.list ys] => Q (.d (.int (ys.length : Int)))
  | [.tuple ys] => Q (.d (.int (ys.length : Int)))
  | [.str z] => z.length ≤ sizeLine ∧ Q (.d (.int (z.length : Int)))
  | _ => False
theorem lc_len : LCall X (.builtin "len") wLen := by
  refine ⟨_, CallR.or call_len_seq call_len_str, fun bxs n B H xs vs Qd Q g hv w k => ?_⟩
  unfold wLen at w
  split at w
  · obtain ⟨v, rfl, dx⟩ := dpvs1 hv
    obtain ⟨p, us, rfl, h1, h2⟩ := dx.list g.sub
    exact .inl ⟨p, us, rfl, .inl h1, k _ _ B H w g.refl (by rw [dpLen _ _ h2]; exact .int _) trivial⟩
  · obtain ⟨v, rfl, dx⟩ := dpvs1 hv
    obtain ⟨p, us, rfl, h1, h2⟩ := dx.tuple g.sub
    exact .inl ⟨p, us, rfl, .inr h1, k _ _ B H w g.refl (by rw [dpLen _ _ h2]; exact .int _) trivial⟩
  · obtain ⟨v, rfl, dx⟩ := dpvs1 hv
    obtain rfl := dx.str
    exact .inr ⟨_, rfl, w.1, k _ _ B H w.2 g.refl (.int _) trivial⟩
  · exact w.elim
noncomputable def wAbs : DCall := fun xs Q => match xs with
  | [.int i] => Q (.d (.int (if i < 0 then -i else i)))
  | _ => False
theorem lc_abs : LCall X (.builtin "abs") wAbs := by
  refine ⟨_, call_abs, fun bxs n B H xs vs Qd Q g hv w k => ?_⟩
  unfold wAbs at w
  split at w
  · obtain ⟨v, rfl, dx⟩ := dpvs1 hv
    obtain rfl := dx.int
    exact ⟨_, rfl, k _ _ B H w g.refl (.int _) trivial⟩
  · exact w.elim
/-- max, min: of two numbers, of a list of numbers -/
noncomputable def wMax : DCall := fun xs Q => match xs with
  | [.int i, .int j] => Q (.d (.int (if j > i then j else i)))
  | _ => False
noncomputable def wMin : DCall := fun xs Q => match xs with
  | [.int i, .int j] => Q (.d (.int (if j < i then j else i)))
  | _ => False
theorem lc_max (hc : X.calm = true) : LCall X (.builtin "max") wMax := by
  refine ⟨_, call_max2 hc, fun bxs n B H xs vs Qd Q g hv w k => ?_⟩
  unfold wMax at w
  split at w
  · obtain ⟨v, u, rfl, dx, dy⟩ := dpvs2 hv
    obtain rfl := dx.int
    obtain rfl := dy.int
    exact ⟨_, _, rfl, k _ _ B H w g.refl (.int _) trivial⟩
  · exact w.elim
theorem lc_min (hc : X.calm = true) : LCall X (.builtin "min") wMin := by
  refine ⟨_, call_min2 hc, fun bxs n B H xs vs Qd Q g hv w k => ?_⟩
  unfold wMin at w
  split at w
  · obtain ⟨v, u, rfl, dx, dy⟩ := dpvs2 hv
    obtain rfl := dx.int
    obtain rfl := dy.int
    exact ⟨_, _, rfl, k _ _ B H w g.refl (.int _) trivial⟩
  · exact w.elim
noncomputable def wInt : DCall := fun xs Q => match xs with
  | [.int i] => Q (.d (.int i))
  | [.bool b] => Q (.d (.int (if b then 1 else 0)))
  | [.str z] => ∃ i, PySem.intText? z = some i ∧ z.length ≤ 640 ∧ Q (.d (.int i))
  | _ => False
theorem lc_int : LCall X (.type "int") wInt := by
  refine ⟨_, CallR.or call_int1 call_int_str, fun bxs n B H xs vs Qd Q g hv w k => ?_⟩
  unfold wInt at w
  split at w
  · obtain ⟨v, rfl, dx⟩ := dpvs1 hv
    obtain rfl := dx.int
    exact .inl (.inl ⟨_, rfl, k _ _ B H w g.refl (.int _) trivial⟩)
  · obtain ⟨v, rfl, dx⟩ := dpvs1 hv
    obtain rfl := dx.bool
    exact .inl (.inr ⟨_, rfl, k _ _ B H w g.refl (.int _) trivial⟩)
  · obtain ⟨v, rfl, dx⟩ := dpvs1 hv
    obtain rfl := dx.str
    obtain ⟨i, e1, e2, w⟩ := w
    exact .inr ⟨_, i, rfl, e1, e2, k _ _ B H w g.refl (.int _) trivial⟩
  · exact w.elim
noncomputable def wStr : DCall := fun xs Q => match xs with
  | [.int i] => i.natAbs.log2 < 1920 ∧ Q (.d (.str (toString i)))
  | [.str z] => Q (.d (.str z))
  | _ => False
theorem lc_str : LCall X (.type "str") wStr := by
  refine ⟨_, CallR.or call_str_int SkE.call_str_str, fun bxs n B H xs vs Qd Q g hv w k => ?_⟩
  unfold wStr at w
  split at w
  · obtain ⟨v, rfl, dx⟩ := dpvs1 hv
    obtain rfl := dx.int
    exact .inl ⟨_, rfl, w.1, k _ _ B H w.2 g.refl (.str _) trivial⟩
  · obtain ⟨v, rfl, dx⟩ := dpvs1 hv
    obtain rfl := dx.str
    exact .inr ⟨_, rfl, k _ _ B H w g.refl (.str _) trivial⟩
  · exact w.elim
noncomputable def wSum : DCall := fun xs Q => ∃ ns : List Int, xs = [.list (ns.map .int)] ∧ Q (.d (.int ns.sum))
theorem lc_sum (hc : X.calm = true) : LCall X (.builtin "sum") wSum := by
  refine ⟨_, cr_sum hc, fun bxs n B H xs vs Qd Q g hv w k => ?_⟩
  obtain ⟨ns, rfl, w⟩ := w
  obtain ⟨v, rfl, dx⟩ := dpvs1 hv
  obtain ⟨p, us, rfl, h1, h2⟩ := dx.list g.sub
  obtain rfl := ofInts _ _ h2
  exact ⟨p, ns, rfl, h1, k _ _ B H w g.refl (.int _) trivial⟩
noncomputable def wAll : DCall := fun xs Q => ∃ bs : List Bool, xs = [.list (bs.map .bool)] ∧ Q (.d (.bool (bs.all id)))
theorem lc_all (hc : X.calm = true) : LCall X (.builtin "all") wAll := by
  refine ⟨_, cr_all hc, fun bxs n B H xs vs Qd Q g hv w k => ?_⟩
  obtain ⟨ns, rfl, w⟩ := w
  obtain ⟨v, rfl, dx⟩ := dpvs1 hv
  obtain ⟨p, us, rfl, h1, h2⟩ := dx.list g.sub
  obtain rfl := ofBools _ _ h2
  exact ⟨p, ns, rfl, h1, k _ _ B H w g.refl (.bl _) trivial⟩
noncomputable def wTuple : DCall := fun xs Q => match xs with
  | [.list ys] => Q (.d (.tuple ys))
  | [.tuple ys] => Q (.d (.tuple ys))
  | _ => False
theorem lc_tuple : LCall X (.type "tuple") wTuple := by
  refine ⟨_, call_tuple_of, fun bxs n B H xs vs Qd Q g hv w k => ?_⟩
  unfold wTuple at w
  split at w
  · obtain ⟨v, rfl, dx⟩ := dpvs1 hv
    obtain ⟨p, us, rfl, h1, h2⟩ := dx.list g.sub
    exact ⟨p, us, rfl, .inl ⟨h1, give_tup g h2 w k⟩⟩
  · obtain ⟨v, rfl, dx⟩ := dpvs1 hv
    obtain ⟨p, us, rfl, h1, h2⟩ := dx.tuple g.sub
    refine ⟨p, us, rfl, .inr ⟨h1, k _ _ B H w g.refl ?_ trivial⟩⟩
    rcases dx with h | ⟨_, _, _, _, e, _⟩
    · exact h
    · cases e
  · exact w.elim
noncomputable def wList : DCall := fun xs Q => match xs with
  | [.list ys] => Q (.new ys)
  | [.tuple ys] => Q (.new ys)
  | _ => False
theorem lc_list : LCall X (.type "list") wList := by
  refine ⟨_, call_list_of, fun bxs n B H xs vs Qd Q g hv w k => ?_⟩
  unfold wList at w
  split at w
  · obtain ⟨v, rfl, dx⟩ := dpvs1 hv
    obtain ⟨p, us, rfl, h1, h2⟩ := dx.list g.sub
    exact ⟨p, us, rfl, .inl h1, give_new g h2 w k⟩
  · obtain ⟨v, rfl, dx⟩ := dpvs1 hv
    obtain ⟨p, us, rfl, h1, h2⟩ := dx.tuple g.sub
    exact ⟨p, us, rfl, .inr h1, give_new g h2 w k⟩
  · exact w.elim
/-! ### repr -/
/-- the modules' dict stands in the base -/
noncomputable def Sm (base : Heap) : Prop := ∃ o es ep, base.get? sysModules = some o ∧ o.data = .dict es ep
theorem kv_keys {P : Program} {w : World} {h : Heap} : ∀ {kv : List (Str × V)} {vs : List (Key × Value)} {es : List DictEntry}, KV (kv.map fun p => ((Sum.inr p.1 : Key), p.2)) vs → Pairs (mixKind P w) es vs →
    ReadsAll h (es.map (·.key)) (kv.map fun p => PyData.str p.1) [] ∧ Vals (kv.map (·.2)) (es.map (·.val))
  | [], vs, es, h1, h2 => by
    cases h1
    cases h2
    exact ⟨.nil, .nil⟩
  | p :: kv, vs, es, h1, h2 => by
    cases h1 with
    | cons a1 a2 =>
      cases h2 with
      | cons b1 b2 b3 =>
        obtain ⟨q1, q2⟩ := kv_keys (h := h) a2 b3
        rw [← a1.1] at b1
        rcases keyIs_shape (show keyIs (Sum.inr p.1) _ = true from b1) with ⟨i, t, e1, e2⟩ | ⟨x, t, e1, e2⟩
        · cases e1
        · cases e1
          refine ⟨?_, ?_⟩
          · rw [List.map_cons, List.map_cons, e2]
            exact ReadsAll.cons (Reads.str _ t) q1
          · rw [List.map_cons, List.map_cons, b2]
            exact .cons a1.2 q2
mutual
theorem Dp.rd {pins : List (Addr × Obj)} {σ : L2.St} {H : Hp} {s : Shared} (I : Inv X pins σ H s) (hm : Sm X.base) : ∀ {v : V} {d : PyData} {u : Value}, Dp X.K H v d → RelV v u → ∃ as, Reads s.heap u d as ∧ sysModules ∉ as
  | _, _, _, .non, r => by cases r; exact ⟨_, Reads.none, by simp⟩
  | _, _, _, .bl b, r => by cases r; exact ⟨_, Reads.bool b, by simp⟩
  | _, _, _, .int i, r => by obtain ⟨t, rfl⟩ := r; exact ⟨_, Reads.int i t, by simp⟩
  | _, _, _, .str x, r => by obtain ⟨t, rfl⟩ := r; exact ⟨_, Reads.str x t, by simp⟩
  | _, _, _, .lst hs ha, r => by
    cases r
    obtain ⟨its, rv, ⟨o, n, ho, hc, _, hd⟩, _⟩ := I.list hs
    obtain ⟨as, hr, hn⟩ := DpAll.rd I hm ha rv
    refine ⟨_, Reads.list ho hc hd hr, ?_⟩
    rw [List.mem_cons, not_or]
    refine ⟨fun q => ?_, hn⟩
    obtain ⟨o', es, ep, e1, e2⟩ := hm
    have e3 := I.bk _ _ e1
    rw [q, ho] at e3
    cases e3
    rw [hd] at e2
    cases e2
  | _, _, _, .tup hs ha, r => by
    cases r
    obtain ⟨its, rv, ⟨o, ho, hc, n, hd⟩, _⟩ := I.tuple hs
    obtain ⟨as, hr, hn⟩ := DpAll.rd I hm ha rv
    exact ⟨_, Reads.tuple ho hc hd hr, hn⟩
  | _, _, _, .dic (kvs := kvs) h1 h2 h3, r => by
    cases r
    obtain ⟨_, hd, vs, rel, o, es, ep, ho, hx, hdat, _, hp, _⟩ := dk_of I.hok h1
    obtain ⟨q1, q2⟩ := kv_keys (h := s.heap) rel hp
    obtain ⟨as, hr, hn⟩ := DpAll.rd I hm h3 q2
    refine ⟨_, Reads.dict (as := []) ho hx.1 hdat (by rw [h2]; exact q1) hr, ?_⟩
    show sysModules ∉ _ :: ([] ++ as)
    rw [List.nil_append, List.mem_cons, not_or]
    exact ⟨fun q => by rw [q] at hd; simp at hd, hn⟩
theorem DpAll.rd {pins : List (Addr × Obj)} {σ : L2.St} {H : Hp} {s : Shared} (I : Inv X pins σ H s) (hm : Sm X.base) : ∀ {vs : List V} {ds : List PyData} {us : List Value}, DpAll X.K H vs ds → Vals vs us → ∃ as, ReadsAll s.heap us ds as ∧ sysModules ∉ as
  | _, _, _, .nil, r => by cases r; exact ⟨_, ReadsAll.nil, by simp⟩
  | _, _, _, .cons h1 h2, r => by
    cases r with
    | cons r1 r2 =>
      obtain ⟨as, q1, n1⟩ := Dp.rd I hm h1 r1
      obtain ⟨bs, q2, n2⟩ := DpAll.rd I hm h2 r2
      exact ⟨_, ReadsAll.cons q1 q2, by rw [List.mem_append, not_or]; exact ⟨n1, n2⟩⟩
end
noncomputable def ReprOk (x : PyData) : Prop := x.showable = true ∧ x.shown.length ≤ sizeLine ∧ x.depth ≤ 60
end
end Dl

namespace Dl
open PySem PySem.Spec PyProof.Rows L2

/-! ### defs whose promise may use that no repr is under way -/
structure FnG (P : Program) (w : World) (K : PySem.W.Frag) (mg : Str → Option Value) (base : Heap) (k : Nat) (f : Addr) (fd : FuncData) (ps : List Str) (sp : Sp) : Prop where
  len : ∀ vs H Q E, sp vs H Q E → vs.length = ps.length
  run : ∀ (A : Around) (outer : List Env) (s : Shared) (H : Hp) (args : Args) (us : List Value) (vs : List V) (Q : VK), Room k A → A.guards = some [] → Env0 P w K mg base A outer s H → BindsTo s fd args (ps.zip us) → Vals vs us → sp vs H Q E0 →
    codeAny (model P w) A (.call (.ref f) args) (CR CX0 outer P w H s Q E0) s
theorem FnG.of {P : Program} {w : World} {K : PySem.W.Frag} {mg : Str → Option Value} {base : Heap} {k : Nat} {f : Addr} {fd : FuncData} {ps : List Str} {sp : Sp} (F : FnOk P w K mg base CX0 k f fd ps sp) : FnG P w K mg base k f fd ps sp :=
  ⟨F.len, fun A outer s H args us vs Q hr _ e b v h => F.run A outer s H args us vs Q E0 hr e b v h⟩
theorem FnG.mono {P : Program} {w : World} {K : PySem.W.Frag} {mg : Str → Option Value} {base : Heap} {j k : Nat} {f : Addr} {fd : FuncData} {ps : List Str} {sp : Sp} (F : FnG P w K mg base j f fd ps sp) (h : j ≤ k) : FnG P w K mg base k f fd ps sp :=
  ⟨F.len, fun A outer s H args us vs Q hr => F.run A outer s H args us vs Q (hr.mono h)⟩
section
variable {P : Program} {w : World} {K : PySem.W.Frag} {mg : Str → Option Value} {base : Heap}
/-- a def by its body -/
theorem fng_of {x qual : Str} {st : Stmt} {f : Addr} {fd : FuncData} {N ps : List Str} {k : Nat} {sp : Sp} (F : Fun K x qual st f fd) (S : FnScope N ps (defScope st)) (len : ∀ vs H Q E, sp vs H Q E → vs.length = ps.length)
    (hbody : ∀ (cdv : Value) (A : Around) (outer : List Env) (s : Shared) (H : Hp) (vs : List V) (Q : VK), Room k (A.deeper (envOfC qual (defScope st) s.heap.objs.size f cdv)) → A.guards = some [] → sp vs H Q E0 →
      ∃ t, PSs (cxOf CX0 P w K mg base N qual (defScope st) f cdv A outer s H E0).nox (defBody st) t ∧ t { nx := fun _ H' => Q .non H', rt := Q } (start N vs) H) : FnG P w K mg base (k + 1) f fd ps sp := by
  refine ⟨len, fun A outer s H args us vs Q hr hg e0 hb r hsp => ?_⟩
  obtain ⟨oc, od, kV, doc, pm, an, cdv, ct, osl, rfl, lk, hcd⟩ := F.ex
  have hl := len _ _ _ _ hsp
  have KX : K.In s.heap := e0.mod.kin.keeps fun b o e => (e0.bs b o e).1
  have lim : s.heap.NoLimit := e0.mod.nolimit.keeps fun b o e => (e0.bs b o e).1
  have hkind : ∀ y ∈ ps.zip us, (defScope st).names.lookup y.1 = some .local ∨ ((defScope st).names.lookup y.1 = some .cell ∧ ((cellsFrom (s.heap.objs.size + 1) (defScope st).names []).lookup y.1).isSome = true) := by
    rintro ⟨nm, v⟩ hy
    rcases S.par nm (List.of_mem_zip hy).1 with q | q
    · left; exact q
    · right; exact ⟨q, PySem.W.cellsFrom_some _ _ _ (.inl q)⟩
  refine codeAny_call_function hr.depth (KX _ _ lk) rfl S.co S.gen rfl (PySem.W.codeRec_of KX hcd) (hb _ _ _ _ ?_)
  refine wpAny_newFunctionEnv_cells S.kind hkind fun env he s1 xx => ?_
  subst he
  refine ⟨lim.keeps xx.toInCall.keep, codeAny_func ?_⟩
  obtain ⟨t, ht, hq⟩ := hbody cdv A outer s H vs Q (hr.deeper _) hg hsp
  have I : Inv (cxOf CX0 P w K mg base N qual (defScope st) f cdv A outer s H E0) [] (start N vs) H s1 := inv_start S hr.hd e0 hl r xx
  refine wpAny_mono (ht.nox.run [] s1 (start N vs) H _ I hq) (fun fl s' hs => ?_) fun e s' hs => hs
  have fin : ∀ {σ' : L2.St} {H' : Hp} {v : V} {u : Value}, Inv (cxOf CX0 P w K mg base N qual (defScope st) f cdv A outer s H E0) [] σ' H' s' → RelV v u → Q v H' → CE outer P w H s Q u s' := by
    intro σ' H' v u J rv q
    exact ⟨v, H', J.os, J.bare, J.base, J.hok, rv, q⟩
  cases fl with
  | ret u =>
    obtain ⟨v, σ', H', J, rv, q⟩ := hs
    exact fin J rv q
  | next =>
    obtain ⟨σ', H', J, q⟩ := hs
    exact fin (v := V.non) (u := Value.none) J rfl q
  | brk =>
    obtain ⟨_, _, _, q⟩ := hs
    exact q.elim
  | cont =>
    obtain ⟨_, _, _, q⟩ := hs
    exact q.elim
end

/-! ### the call of such a def -/
section
variable {X : Cx} {k : Nat} {f : Addr} {fd : FuncData} {ps : List Str} {sp : Sp} {x : Str} {p pos : Pos} {e : Expr} {es : List Expr} {t : TA}
theorem run_g {pins : List (Addr × Obj)} {σ : L2.St} {H : Hp} {s : Shared} {Q : VK} {us : List Value} {vs : List V} (F : FnG X.prog X.w X.K X.mg X.base k f fd ps sp) (hr : Room k X.A) (hg : X.A.guards = some []) (hb : Binds X.K fd ps [])
    (I : Inv X pins σ H s) (r : Vals vs us) (h : sp vs H Q E0) : wpAny (model X.prog X.w) X.A (call (.ref f) us) (EP X pins σ Q) X.xe s := by
  have hl : us.length = ps.length := by
    rw [← r.length]
    exact F.len _ _ _ _ h
  have hb' := hb s us I.kIn (by rw [List.append_nil]; exact hl)
  rw [List.append_nil] at hb'
  refine wpAny_call (codeAny_mono (F.run X.A X.stack s H ⟨us, []⟩ us vs Q hr hg I.env0 hb' r h) fun rr s' hq => ?_)
  cases rr with
  | error e => exact False.elim hq
  | ok fl =>
    cases fl with
    | ret u => exact I.after hq
    | next => exact False.elim hq
    | brk => exact False.elim hq
    | cont => exact False.elim hq
theorem pe_g (F : FnG X.prog X.w X.K X.mg X.base k f fd ps sp) (hr : Room k X.A) (hgd : X.A.guards = some []) (hg : Gl X x) (hm : X.mg x = some (.ref f)) (hk : PySem.W.keepIn X.K (.ref f) = true) (hb : Binds X.K fd ps [])
    (ha : PA X (e :: es) t) (hdb : (x == ("__debug__" : Str)) = false := by decide) (he : starEach (e :: es) X.env = (false, eval e X.env) :: starEach es X.env := by rfl) (hpl : (backTo pos (starEach es X.env)).any (·.1) = false := by rfl) :
    PE X (.Call (.Name x p) (e :: es) [] pos) (fun σ H Q => t σ H fun vs H1 => sp vs H1 Q E0) := by
  refine ⟨fun pins s σ H Q I h => ?_⟩
  refine wpAny_Call_Name_kw (ld_glob I hg hm ?_ hdb)
  refine PySem.W.callWith_K (h₀ := X.base) I.ok.mod.kin hk (thn (ha.run pos pins s σ H _ I h) fun us s1 ⟨vs, H1, I1, r, q⟩ => ⟨I1.kIn, ?_⟩) he hpl
  exact run_g F hr hgd hb I1 r q
end

/-! ### promises at data level -/
noncomputable def retOk : RV → Prop
  | .d _ => True
  | .obj _ => True
  | .new _ => True
  | .nbox => True
  | .own _ => True
  | _ => False
noncomputable def argOk : RV → Prop
  | .d _ => True
  | .obj _ => True
  | .box => True
  | .nbox => True
  | _ => False
noncomputable def argsOk : List RV → Prop
  | [] => True
  | r :: rs => argOk r ∧ argsOk rs
noncomputable def argIn : RV → Prop
  | .d _ => True
  | .obj _ => True
  | .box => True
  | _ => False
noncomputable def argsIn : List RV → Prop
  | [] => True
  | r :: rs => argIn r ∧ argsIn rs
noncomputable def asArg : RV → RV
  | .nbox => .box
  | r => r
noncomputable def lift (K : PySem.W.Frag) (c : DSp) : Sp := fun vs H Q _ => ∃ (rs : List RV) (n : Nat) (B : Hp) (bxs : List Addr) (Qd : RV → Nat → Prop),
  Good bxs n B H ∧ ValsR K bxs n B H rs vs ∧ argsIn rs ∧ c rs n Qd ∧
    ∀ r n1 v B1 H1, Qd r n1 → retOk r → Step bxs n n1 B H B1 H1 → ValR K bxs n1 B1 H1 r v → FrR H r v → Q v H1
/-- the boxes among the arguments -/
noncomputable def boxesOf : List RV → List V → List Addr
  | .box :: rs, .ref b :: vs => b :: boxesOf rs vs
  | .nbox :: rs, .ref b :: vs => b :: boxesOf rs vs
  | _ :: rs, _ :: vs => boxesOf rs vs
  | _, _ => []
section
variable {K : PySem.W.Frag} {bxs : List Addr} {n : Nat} {B H : Hp}
theorem boxes_in : ∀ {rs : List RV} {vs : List V}, ValsR K bxs n B H rs vs → ∀ b ∈ boxesOf rs vs, b ∈ bxs ∨ (B b = none ∧ BoxAt H b n)
  | [], [], _, b, hb => by cases hb
  | [], _ :: _, h, _, _ => h.elim
  | _ :: _, [], h, _, _ => h.elim
  | r :: rs, v :: vs, h, b, hb => by
    cases r with
    | d x =>
      unfold boxesOf at hb
      exact boxes_in h.2 b hb
    | new xs =>
      unfold boxesOf at hb
      exact boxes_in h.2 b hb
    | own T =>
      unfold boxesOf at hb
      exact boxes_in h.2 b hb
    | bor xs =>
      unfold boxesOf at hb
      exact boxes_in h.2 b hb
    | box =>
      obtain ⟨c, rfl, hc⟩ := h.1
      unfold boxesOf at hb
      rcases List.mem_cons.mp hb with e | e
      · exact .inl (e ▸ hc)
      · exact boxes_in h.2 b e
    | obj o0 => exact boxes_in h.2 b (by unfold boxesOf at hb; exact hb)
    | nbox =>
      obtain ⟨c, rfl, h1, h2, h3⟩ := h.1
      unfold boxesOf at hb
      rcases List.mem_cons.mp hb with e | e
      · subst e
        exact .inr ⟨h2, h3⟩
      · exact boxes_in h.2 b e
theorem boxes_fr {H0 : Hp} : ∀ {rs : List RV} {vs : List V}, ValsR K bxs n B H rs vs → FrsR H0 rs vs → ∀ b ∈ boxesOf rs vs, b ∈ bxs ∨ H0 b = none
  | [], [], _, _, b, hb => by cases hb
  | [], _ :: _, h, _, _, _ => h.elim
  | _ :: _, [], h, _, _, _ => h.elim
  | r :: rs, v :: vs, h, hf, b, hb => by
    cases r with
    | d x =>
      unfold boxesOf at hb
      exact boxes_fr h.2 hf.2 b hb
    | new xs =>
      unfold boxesOf at hb
      exact boxes_fr h.2 hf.2 b hb
    | own T =>
      unfold boxesOf at hb
      exact boxes_fr h.2 hf.2 b hb
    | bor xs =>
      unfold boxesOf at hb
      exact boxes_fr h.2 hf.2 b hb
    | box =>
      obtain ⟨c, rfl, hc⟩ := h.1
      unfold boxesOf at hb
      rcases List.mem_cons.mp hb with e | e
      · exact .inl (e ▸ hc)
      · exact boxes_fr h.2 hf.2 b e
    | obj o0 => exact boxes_fr h.2 hf.2 b (by unfold boxesOf at hb; exact hb)
    | nbox =>
      obtain ⟨c, rfl, h1, h2, h3⟩ := h.1
      obtain ⟨c', ec, h4⟩ := hf.1
      cases ec
      unfold boxesOf at hb
      rcases List.mem_cons.mp hb with e | e
      · subst e
        exact .inr h4
      · exact boxes_fr h.2 hf.2 b e
theorem args_r {cb : List Addr} : ∀ {rs : List RV} {vs : List V}, ValsR K bxs n B H rs vs → argsOk rs → (∀ b ∈ boxesOf rs vs, b ∈ cb) → ValsR K cb n B H (rs.map asArg) vs ∧ argsIn (rs.map asArg)
  | [], [], _, _, _ => ⟨trivial, trivial⟩
  | [], _ :: _, h, _, _ => h.elim
  | _ :: _, [], h, _, _ => h.elim
  | r :: rs, v :: vs, h, ha, hb => by
    cases r with
    | d x =>
      obtain ⟨h1, h2⟩ := args_r h.2 ha.2 (fun b q => hb b (by unfold boxesOf; exact q))
      exact ⟨⟨h.1, h1⟩, trivial, h2⟩
    | new xs => exact ha.1.elim
    | own T => exact ha.1.elim
    | bor xs => exact ha.1.elim
    | box =>
      obtain ⟨c, rfl, hc⟩ := h.1
      obtain ⟨h1, h2⟩ := args_r h.2 ha.2 (fun b q => hb b (by unfold boxesOf; exact .tail _ q))
      exact ⟨⟨⟨c, rfl, hb c (by unfold boxesOf; exact .head _)⟩, h1⟩, trivial, h2⟩
    | obj o0 => (obtain ⟨h1, h2⟩ := args_r h.2 ha.2 (fun b q => hb b (by unfold boxesOf; exact q)); exact ⟨⟨h.1, h1⟩, trivial, h2⟩)
    | nbox =>
      obtain ⟨c, rfl, hc⟩ := h.1
      obtain ⟨h1, h2⟩ := args_r h.2 ha.2 (fun b q => hb b (by unfold boxesOf; exact .tail _ q))
      exact ⟨⟨⟨c, rfl, hb c (by unfold boxesOf; exact .head _)⟩, h1⟩, trivial, h2⟩
end
noncomputable def dCall (c : DSp) (wr : DA) : DE := fun ρ n Q => wr ρ n fun rs n1 => argsOk rs ∧ c (rs.map asArg) n1 Q
theorem up_call {K : PySem.W.Frag} {c : DSp} {wr : DA} (σ : L2.St) (H : Hp) (Q : VK) (hu : up K (dCall c wr) σ H Q) : upA K wr σ H fun vs H1 => lift K c vs H1 Q E0 := by
  obtain ⟨ρ, n, B, bxs, Qd, g, e, w1, q⟩ := hu
  refine ⟨ρ, n, B, bxs, _, g, e, w1, fun rs n1 vs B1 H1 hq s1 vr f1 => ?_⟩
  obtain ⟨ha, hq⟩ := hq
  obtain ⟨h1, h2⟩ := args_r (cb := boxesOf rs vs) vr ha fun _ h => h
  have g1 := g.step s1
  have gc : Good (boxesOf rs vs) n1 B1 H1 := ⟨g1.sub, fun b hb => by
    rcases boxes_in vr b hb with z | z
    · exact g1.box b z
    · exact z⟩
  refine ⟨_, n1, B1, boxesOf rs vs, Qd, gc, h1, h2, hq, fun r n2 v B2 H2 hq2 hr s2 v2 f2 => ?_⟩
  have st : Step bxs n n2 B H B2 H2 := s1.then s2 (boxes_fr vr f1) fun b hb => by
    by_cases hc : b ∈ boxesOf rs vs
    · exact .inl hc
    · exact .inr fun o ho => s2.h1 b o hc ho
  refine q _ _ _ _ _ hq2 st ?_ (f2.back s1)
  cases r with
  | d x => exact v2
  | new xs =>
    obtain ⟨p, us, rfl, a1, a2, a3, a4⟩ := v2
    obtain ⟨p', ep, fp⟩ := f2
    cases ep
    exact ⟨p, us, rfl, fun hb => (g1.box p hb).2.ne fp, a2, a3, a4⟩
  | obj o0 => exact v2
  | nbox =>
    obtain ⟨p, rfl, a1, a2, a3⟩ := v2
    obtain ⟨p', ep, fp⟩ := f2
    cases ep
    exact ⟨p, rfl, fun hb => (g1.box p hb).2.ne fp, a2, a3⟩
  | bor xs => exact hr.elim
  | own T =>
    obtain ⟨p, us, rfl, a1, a2, a3, a4⟩ := v2
    obtain ⟨p', ep, fp⟩ := f2
    cases ep
    exact ⟨p, us, rfl, fun hb => (g1.box p hb).2.ne fp, a2, a3, a4⟩
  | box => exact hr.elim
section
variable {X : Cx} {k : Nat} {f : Addr} {fd : FuncData} {ps : List Str} {c : DSp} {x : Str} {p pos : Pos} {e : Expr} {es : List Expr} {wr : DA}
theorem le_call (F : FnG X.prog X.w X.K X.mg X.base k f fd ps (lift X.K c)) (hr : Room k X.A) (hgd : X.A.guards = some []) (hg : Gl X x) (hm : X.mg x = some (.ref f)) (hk : PySem.W.keepIn X.K (.ref f) = true) (hb : Binds X.K fd ps [])
    (ha : LA X (e :: es) wr) (hdb : (x == ("__debug__" : Str)) = false := by decide) (he : starEach (e :: es) X.env = (false, eval e X.env) :: starEach es X.env := by rfl) (hpl : (backTo pos (starEach es X.env)).any (·.1) = false := by rfl) :
    LE X (.Call (.Name x p) (e :: es) [] pos) (dCall c wr) := pe_imp (pe_g F hr hgd hg hm hk hb ha hdb he hpl) up_call
end
/-- a def of the program, as its callers see it -/
structure Def (P : Program) (w : World) (K : PySem.W.Frag) (mg : Str → Option Value) (base : Heap) (k : Nat) (x : Str) (ps : List Str) (c : DSp) : Prop where
  ex : ∃ (f : Addr) (fd : FuncData), FnG P w K mg base k f fd ps (lift K c) ∧ mg x = some (.ref f) ∧ PySem.W.keepIn K (.ref f) = true ∧ Binds K fd ps []
/-- what stands around -/
structure Here (k : Nat) (A : Around) : Prop where
  room : Room k A
  gd : A.guards = some []
theorem Here.mono {j k : Nat} {A : Around} (h : Here k A) (e : j ≤ k) : Here j A := ⟨h.room.mono e, h.gd⟩
theorem le_def {X : Cx} {k : Nat} {ps : List Str} {c : DSp} {x : Str} {p pos : Pos} {e : Expr} {es : List Expr} {wr : DA} (D : Def X.prog X.w X.K X.mg X.base k x ps c) (hr : Here k X.A) (hg : Gl X x) (ha : LA X (e :: es) wr)
    (hdb : (x == ("__debug__" : Str)) = false := by decide) (he : starEach (e :: es) X.env = (false, eval e X.env) :: starEach es X.env := by rfl) (hpl : (backTo pos (starEach es X.env)).any (·.1) = false := by rfl) :
    LE X (.Call (.Name x p) (e :: es) [] pos) (dCall c wr) := by
  obtain ⟨f, fd, F, hm, hk, hb⟩ := D.ex
  exact le_call F hr.room hr.gd hg hm hk hb ha hdb he hpl
end Dl

namespace Dl
open PySem PySem.Spec PyProof.Rows L2

/-! ### what is walked -/
noncomputable abbrev DI := DEnv → Nat → (List PyData → Nat → Prop) → Prop
/-- an item as it comes: a value that is there, or a new tuple of such -/
noncomputable def YR (K : PySem.W.Frag) (B H : Hp) (x : V) (H' : Hp) (z : PyData) : Prop :=
  (H' = H ∧ Dp K B x z) ∨ ∃ T vs zs, x = .ref T ∧ z = .tuple zs ∧ H T = none ∧ H' = upd H T (.tup vs) ∧ DpAll K B vs zs
structure ItR (K : PySem.W.Frag) (B : Hp) (items : List PyData) (J : It) : Prop where
  go : ∀ i H, Same B H → i < items.length → J.go i H
  stop : ∀ H, Same B H → J.stop items.length H
  yld : ∀ i H x H' z, Same B H → J.yld i H x H' → items[i]? = some z → YR K B H x H' z
noncomputable def upI (K : PySem.W.Frag) (w : DI) : TI := fun σ H R => ∃ (ρ : DEnv) (n : Nat) (B : Hp) (bxs : List Addr) (Qd : List PyData → Nat → Prop),
  Good bxs n B H ∧ EnvR K bxs n B H σ ρ ∧ w ρ n Qd ∧ ∀ items n1 B1 H1 J, Qd items n1 → Step bxs n n1 B H B1 H1 → ItR K B1 items J → R J H1
noncomputable abbrev LI (X : Cx) (tg e : Expr) (w : DI) : Prop := PI X tg e (upI X.K w)
theorem pi_imp {X : Cx} {tg e : Expr} {t t' : TI} (h : PI X tg e t) (i : ∀ σ H R, t' σ H R → t σ H R) : PI X tg e t' := ⟨fun pins s σ H R I q => h.run pins s σ H R I (i σ H R q)⟩
/-- a list, a tuple, a text -/
noncomputable def tSeqI (K : PySem.W.Frag) (te : TE) : TI := fun σ H R => te σ H fun x H1 =>
  (∃ a, x = .ref a ∧ (∃ xs, SqL K H1 a xs) ∧ R (Itl K a) H1) ∨ (∃ a, x = .ref a ∧ (∃ xs, SqT K H1 a xs) ∧ R (Itt K a) H1) ∨ ∃ z, x = .str z ∧ R (Its z) H1
theorem pi_seq {X : Cx} {tg e : Expr} {te : TE} (he : PE X e te) : PI X tg e (tSeqI X.K te) := by
  refine ⟨fun pins s σ H R I hh => ?_⟩
  refine thn (he.run pins s σ H _ I hh) fun v t1 ⟨x, G1, J1, rr, qq⟩ => ?_
  rcases qq with ⟨a, rfl, ⟨xs, hs⟩, q⟩ | ⟨a, rfl, ⟨xs, hs⟩, q⟩ | ⟨z, rfl, q⟩
  · cases rr
    obtain ⟨its, rv, pl, hz⟩ := J1.list hs
    refine wpAny_pyIter_list pl.isList ⟨t1.heap.objs.size, [t1.heap.objs.size], _, _, G1, rfl, J1.kept (t' := t1.toks) (fun b o ee => Heap.get?_push_of_some _ ee), turn_list a _, ⟨_, Heap.get?_push_size _ rfl, rfl, rfl⟩, fun b hb => ?_, q⟩
    obtain rfl : b = t1.heap.objs.size := by simpa using hb
    exact J1.fpOk (Nat.le_refl _) (J1.hok.fresh (Nat.le_refl _))
  · cases rr
    obtain ⟨its, rv, pl, hz⟩ := J1.tuple hs
    refine wpAny_pyIter_tuple (show t1.heap.IsTuple a its.toArray from pl) ⟨t1.heap.objs.size, [t1.heap.objs.size], _, _, G1, rfl, J1.kept (t' := t1.toks) (fun b o ee => Heap.get?_push_of_some _ ee), turn_tuple a _, ⟨_, Heap.get?_push_size _ rfl, rfl, rfl⟩, fun b hb => ?_, q⟩
    obtain rfl : b = t1.heap.objs.size := by simpa using hb
    exact J1.fpOk (Nat.le_refl _) (J1.hok.fresh (Nat.le_refl _))
  · obtain ⟨tk, rfl⟩ := rr
    cases ha : z.cps.all (· < 128)
    · exact wpAny_pyIter_wide ha (pi_one (tk := t1.toks) J1 _ (turn_str _ z tk "str_iterator" (.inr rfl)) ⟨_, Heap.get?_push_size _ rfl, rfl, rfl⟩ q)
    · exact wpAny_pyIter_ascii ha (pi_one (tk := t1.toks) J1 _ (turn_str _ z tk "str_ascii_iterator" (.inl rfl)) ⟨_, Heap.get?_push_size _ rfl, rfl, rfl⟩ q)
/-- the items of what is walked -/
noncomputable def itemsOf : PyData → Option (List PyData)
  | .list xs => some xs
  | .tuple xs => some xs
  | .str z => some (z.cps.toList.map fun c => .str ⟨#[c]⟩)
  | _ => none
section
variable {K : PySem.W.Frag} {B : Hp}
theorem itr_tup {a : Addr} {vs : List V} {xs : List PyData} (hs : SqT K B a vs) (h : DpAll K B vs xs) : ItR K B xs (Itt K a) where
  go := fun i H sm hi => ⟨vs, vs[i]'(by rw [dpLen _ _ h]; exact hi), seqT sm hs, List.getElem?_eq_getElem _⟩
  stop := fun H sm => ⟨vs, seqT sm hs, by rw [dpLen _ _ h]; exact Nat.le_refl _⟩
  yld := fun i H x H' z sm hy e => by
    obtain ⟨e1, h1⟩ := hy
    obtain ⟨v, e2, h2⟩ := dpGet _ _ _ _ h e
    have e3 := h1 vs (seqT sm hs)
    rw [e2] at e3
    cases e3
    exact .inl ⟨e1, h2⟩
theorem itr_list' {a : Addr} {vs : List V} {xs : List PyData} (hs : SqL K B a vs) (h : DpAll K B vs xs) : ItR K B xs (Itl K a) where
  go := fun i H sm hi => ⟨vs, vs[i]'(by rw [dpLen _ _ h]; exact hi), sm.seq hs, List.getElem?_eq_getElem _⟩
  stop := fun H sm => ⟨vs, sm.seq hs, by rw [dpLen _ _ h]; exact Nat.le_refl _⟩
  yld := fun i H x H' z sm hy e => by
    obtain ⟨e1, h1⟩ := hy
    obtain ⟨v, e2, h2⟩ := dpGet _ _ _ _ h e
    have e3 := h1 vs (sm.seq hs)
    rw [e2] at e3
    cases e3
    exact .inl ⟨e1, h2⟩
theorem itr_str (z : Str) : ItR K B (z.cps.toList.map fun c => PyData.str ⟨#[c]⟩) (Its z) where
  go := fun i H sm hi => by show i < z.cps.size; simpa using hi
  stop := fun H sm => by show z.cps.size ≤ _; simp
  yld := fun i H x H' y sm hy e => by
    obtain ⟨e1, c, h1, rfl⟩ := hy
    refine .inl ⟨e1, ?_⟩
    rw [List.getElem?_map, Array.getElem?_toList, h1] at e
    cases e
    exact .str _
theorem itr_range (lo : Int) (n : Nat) : ItR K B ((List.range n).map fun (i : Nat) => PyData.int (lo + (i : Int))) (Itr lo n) where
  go := fun i H sm hi => by show i < n; simpa using hi
  stop := fun H sm => by show n ≤ _; simp
  yld := fun i H x H' y sm hy e => by
    obtain ⟨e1, rfl⟩ := hy
    refine .inl ⟨e1, ?_⟩
    rw [List.getElem?_map] at e
    cases h : (List.range n)[i]? with
    | none => rw [h] at e; cases e
    | some j =>
      rw [h] at e
      cases e
      have hj : i = j := by
        have := List.getElem?_eq_some_iff.mp h
        obtain ⟨h1, h2⟩ := this
        simpa using h2
      subst hj
      exact .int _
end
noncomputable def onD (r : RV) (F : PyData → Prop) : Prop := match r with
  | .d b => F b
  | _ => False
theorem onD_ex {r : RV} {F : PyData → Prop} (h : onD r F) : ∃ b, r = .d b ∧ F b := by
  unfold onD at h
  split at h
  · exact ⟨_, rfl, h⟩
  · exact h.elim
noncomputable def dSeqI (w : DE) : DI := fun ρ n Q => w ρ n fun r n1 => onD (fixR r) fun x => onO (itemsOf x) fun ys => Q ys n1
noncomputable def rangeD (lo : Int) (n : Nat) : List PyData := (List.range n).map fun (i : Nat) => PyData.int (lo + (i : Int))
noncomputable def onI1 (rs : List RV) (F : Int → Prop) : Prop := match rs with
  | [.d (.int j)] => F j
  | _ => False
theorem onI1_ex {rs : List RV} {F : Int → Prop} (h : onI1 rs F) : ∃ b, rs = [.d (.int b)] ∧ F b := by
  unfold onI1 at h
  split at h
  · exact ⟨_, rfl, h⟩
  · exact h.elim
noncomputable def onI2 (rs : List RV) (F : Int → Int → Prop) : Prop := match rs with
  | [.d (.int i), .d (.int j)] => F i j
  | _ => False
noncomputable def dRange1 (w : DA) : DI := fun ρ n Q => w ρ n fun rs n1 => onI1 rs fun j => (-(2 ^ 62) ≤ j ∧ j < 2 ^ 62) ∧ Q (rangeD 0 j.toNat) n1
noncomputable def dRange2 (w : DA) : DI := fun ρ n Q => w ρ n fun rs n1 => onI2 rs fun i j => (-(2 ^ 62) ≤ i ∧ i < 2 ^ 62 ∧ -(2 ^ 62) ≤ j ∧ j < 2 ^ 62) ∧ Q (rangeD i (j - i).toNat) n1
section
variable {X : Cx} {tg a b : Expr} {wa wb : DE} {pos p : Pos}
theorem li_seq (h : LE X a wa) : LI X tg a (dSeqI wa) := pi_imp (pi_seq h) fun σ H R hu => by
  obtain ⟨ρ, n, B, bxs, Qd, g, e, w1, q⟩ := hu
  refine ⟨ρ, n, B, bxs, _, g, e, w1, fun r n1 v B1 H1 hq s1 vr f1 => ?_⟩
  obtain ⟨B2, s2, vr2, sb⟩ := fix_r g s1 vr f1
  obtain ⟨x, ef, hq⟩ := onD_ex hq
  obtain ⟨ys, ei, hq⟩ := onO_ex hq
  rw [ef] at vr2
  have hd : Dp X.K B2 v x := vr2
  have g2 := g.step s2
  cases x with
  | none => cases ei
  | bool _ => cases ei
  | int _ => cases ei
  | dict _ => cases ei
  | str z =>
    cases ei
    cases hd
    exact .inr (.inr ⟨z, rfl, q _ _ _ _ _ hq s2 (itr_str z)⟩)
  | list xs =>
    cases ei
    cases hd with
    | lst h1 h2 => exact .inl ⟨_, rfl, ⟨_, g2.sub.seq h1⟩, q _ _ _ _ _ hq s2 (itr_list' h1 h2)⟩
  | tuple xs =>
    cases ei
    cases hd with
    | tup h1 h2 => exact .inr (.inl ⟨_, rfl, ⟨_, seqT g2.sub h1⟩, q _ _ _ _ _ hq s2 (itr_tup h1 h2)⟩)
theorem valsInt1 {K : PySem.W.Frag} {bxs : List Addr} {n : Nat} {B H : Hp} {i : Int} : ∀ {vs : List V}, ValsR K bxs n B H [.d (.int i)] vs → vs = [.int i]
  | [], h => h.elim
  | [v], h => by
    have h1 : Dp K B v (.int i) := h.1
    cases h1
    rfl
  | _ :: _ :: _, h => h.2.elim
theorem li_range1 {wr : DA} (hg : Gl X "range") (hm : X.mg "range" = none) (ha : LA X [a] wr) (hs : starEach [a] X.env = [(false, eval a X.env)] := by rfl) : LI X tg (.Call (.Name "range" p) [a] [] pos) (dRange1 wr) := pi_imp (pi_range1 hg hm ha hs) fun σ H R hu => by
  obtain ⟨ρ, n, B, bxs, Qd, g, e, w1, q⟩ := hu
  refine ⟨ρ, n, B, bxs, _, g, e, w1, fun rs n1 vs B1 H1 hq s1 vr f1 => ?_⟩
  obtain ⟨j, rfl, ⟨h1, h2⟩, hq⟩ := onI1_ex hq
  obtain rfl := valsInt1 vr
  exact ⟨j, rfl, h1, h2, q _ _ _ _ _ hq s1 (itr_range 0 _)⟩
end

/-! ### targets: data is stored into slots -/
noncomputable abbrev DG := PyData → DEnv → (DEnv → Prop) → Prop
noncomputable abbrev DGs := List PyData → DEnv → (DEnv → Prop) → Prop
theorem EnvR.set {K : PySem.W.Frag} {bxs : List Addr} {n : Nat} {B H : Hp} {σ : L2.St} {ρ : DEnv} (e : EnvR K bxs n B H σ ρ) (i : Nat) {x : PyData} {v : V} (h : Dp K B v x) : EnvR K bxs n B H (σ.set i (some v)) (ρ.set i (some (.d x))) where
  len := by rw [List.length_set, List.length_set, e.len]
  val := fun j r hr => by
    by_cases hij : i = j
    · subst hij
      have hi : i < ρ.length := by
        have := (List.getElem?_eq_some_iff.mp hr).1
        rwa [List.length_set] at this
      rw [List.getElem?_set_self hi] at hr
      cases hr
      exact ⟨v, List.getElem?_set_self (by rw [e.len]; exact hi), h⟩
    · rw [List.getElem?_set_ne hij] at hr
      rw [List.getElem?_set_ne hij]
      exact e.val j r hr
  own := fun j k r r' p h1 h2 o1 o2 h3 h4 => by
    have nj : i ≠ j := fun q => by
      subst q
      have hi : i < ρ.length := by
        have := (List.getElem?_eq_some_iff.mp h1).1
        rwa [List.length_set] at this
      rw [List.getElem?_set_self hi] at h1
      cases h1
      exact o1.elim
    have nk : i ≠ k := fun q => by
      subst q
      have hi : i < ρ.length := by
        have := (List.getElem?_eq_some_iff.mp h2).1
        rwa [List.length_set] at this
      rw [List.getElem?_set_self hi] at h2
      cases h2
      exact o2.elim
    rw [List.getElem?_set_ne nj] at h1 h3
    rw [List.getElem?_set_ne nk] at h2 h4
    exact e.own j k r r' p h1 h2 o1 o2 h3 h4
  ok := ok_set e.ok trivial
structure UpdR (vs : List Nat) (σ σ' : L2.St) (ρ ρ' : DEnv) : Prop where
  out : ∀ j, j ∉ vs → σ'[j]? = σ[j]?
  len : σ'.length = σ.length
  own : ∀ (j : Nat) (r : RV), ρ'[j]? = some (some r) → isOwn r → ρ[j]? = some (some r) ∧ σ'[j]? = σ[j]?
theorem UpdR.refl (σ : L2.St) (ρ : DEnv) : UpdR [] σ σ ρ ρ := ⟨fun _ _ => rfl, rfl, fun _ _ h _ => ⟨h, rfl⟩⟩
theorem UpdR.set (σ : L2.St) (ρ : DEnv) (i : Nat) (v : V) (x : PyData) : UpdR [i] σ (σ.set i (some v)) ρ (ρ.set i (some (.d x))) where
  out := fun j hj => List.getElem?_set_ne fun q => hj (by simp [q])
  len := List.length_set
  own := fun j r h o => by
    have nj : i ≠ j := fun q => by
      subst q
      have hi : i < ρ.length := by
        have := (List.getElem?_eq_some_iff.mp h).1
        rwa [List.length_set] at this
      rw [List.getElem?_set_self hi] at h
      cases h
      exact o.elim
    rw [List.getElem?_set_ne nj] at h
    exact ⟨h, List.getElem?_set_ne nj⟩
theorem UpdR.trans {us vs : List Nat} {σ1 σ2 σ3 : L2.St} {ρ1 ρ2 ρ3 : DEnv} (a : UpdR us σ1 σ2 ρ1 ρ2) (b : UpdR vs σ2 σ3 ρ2 ρ3) : UpdR (us ++ vs) σ1 σ3 ρ1 ρ3 where
  out := fun j hj => by
    rw [List.mem_append, not_or] at hj
    rw [b.out j hj.2, a.out j hj.1]
  len := b.len.trans a.len
  own := fun j r h o => by
    obtain ⟨h1, h2⟩ := b.own j r h o
    obtain ⟨h3, h4⟩ := a.own j r h1 o
    exact ⟨h3, h2.trans h4⟩
/-- a target that takes data; the heap is not changed -/
noncomputable def LG (X : Cx) (tg : Expr) (vs : List Nat) (w : DG) : Prop := ∃ g : TG, PG X tg g ∧
  ∀ (bxs : List Addr) (n : Nat) (B H : Hp) (σ : L2.St) (ρ : DEnv) (v : V) (x : PyData) (Qd : DEnv → Prop) (Q : L2.St → Hp → Prop), Good bxs n B H → EnvR X.K bxs n B H σ ρ → Dp X.K B v x → w x ρ Qd →
    (∀ σ' ρ', Qd ρ' → EnvR X.K bxs n B H σ' ρ' → UpdR vs σ σ' ρ ρ' → Q σ' H) → g v σ H Q
noncomputable def LGs (X : Cx) (ts : List Expr) (vs : List Nat) (w : DGs) : Prop := ∃ g : TGs, PGs X ts g ∧
  ∀ (bxs : List Addr) (n : Nat) (B H : Hp) (σ : L2.St) (ρ : DEnv) (us : List V) (xs : List PyData) (Qd : DEnv → Prop) (Q : L2.St → Hp → Prop), Good bxs n B H → EnvR X.K bxs n B H σ ρ → DpAll X.K B us xs → w xs ρ Qd →
    (∀ σ' ρ', Qd ρ' → EnvR X.K bxs n B H σ' ρ' → UpdR vs σ σ' ρ ρ' → Q σ' H) → g us σ H Q
noncomputable def gdName (i : Nat) : DG := fun x ρ Q => Q (ρ.set i (some (.d x)))
noncomputable def gdNil : DGs := fun xs ρ Q => match xs with
  | [] => Q ρ
  | _ => False
noncomputable def gdCons (w : DG) (u : DGs) : DGs := fun xs ρ Q => match xs with
  | x :: r => w x ρ fun ρ' => u r ρ' Q
  | [] => False
noncomputable def gdTup (n : Nat) (u : DGs) : DG := fun x ρ Q => match x with
  | .tuple xs => xs.length = n ∧ u xs ρ Q
  | _ => False
section
variable {X : Cx} {pos : Pos}
theorem lg_name {i : Nat} {x : Str} (hN : X.N.Nodup) (hi : X.N[i]? = some x) (hx : Loc X.env.scope x) (hf : X.fn x = true ∨ X.env.scope.names.lookup x = some .local := by first | exact .inl rfl | exact .inr rfl | assumption) : LG X (.Name x pos) [i] (gdName i) :=
  ⟨gName i, pg_name hN hi hx hf, fun bxs n B H σ ρ v y Qd Q g e h w k => k _ _ w (e.set i h) (UpdR.set σ ρ i v y)⟩
theorem lgs_nil : LGs X [] [] gdNil := ⟨gNil, pgs_nil, fun bxs n B H σ ρ us xs Qd Q g e h w k => by
  cases h with
  | cons _ _ => exact w.elim
  | nil =>
    exact ⟨rfl, k _ _ w e (UpdR.refl σ ρ)⟩⟩
theorem lgs_cons {e : Expr} {es : List Expr} {us vs : List Nat} {w : DG} {u : DGs} (h1 : LG X e us w) (h2 : LGs X es vs u) (hs : (assignEach (e :: es) X.env).map (·.2) = assign e X.env :: (assignEach es X.env).map (·.2) := by rfl) : LGs X (e :: es) (us ++ vs) (gdCons w u) := by
  obtain ⟨g1, p1, q1⟩ := h1
  obtain ⟨g2, p2, q2⟩ := h2
  refine ⟨gCons g1 g2, pgs_cons p1 p2 hs, fun bxs n B H σ ρ vs xs Qd Q g e h ww k => ?_⟩
  cases h with
  | nil => exact ww.elim
  | cons a1 a2 =>
    refine ⟨_, _, rfl, q1 bxs n B H σ ρ _ _ _ _ g e a1 ww fun σ' ρ' w2 e2 u2 => ?_⟩
    exact q2 bxs n B H σ' ρ' _ _ _ _ g e2 a2 w2 fun σ3 ρ3 w3 e3 u3 => k σ3 ρ3 w3 e3 (u2.trans u3)
theorem lg_tup {es : List Expr} {k n : Nat} {vs : List Nat} {u : DGs} (hc : X.calm = true) (h : LGs X es vs u) (hn : (assignEach es X.env).length = n := by rfl) (hst : (assignEach es X.env).findIdx? (·.1) = none := by rfl) : LG X (.Tuple es k pos) vs (gdTup n u) := by
  obtain ⟨g1, p1, q1⟩ := h
  refine ⟨gTup X.K n g1, pg_tup hc p1 hn hst, fun bxs m B H σ ρ v x Qd Q g e hd ww kk => ?_⟩
  cases x <;> try exact ww.elim
  obtain ⟨hl, ww⟩ := ww
  cases hd with
  | tup a1 a2 => exact ⟨_, _, rfl, seqT g.sub a1, by rw [dpLen _ _ a2]; exact hl, q1 bxs m B H σ ρ _ _ _ _ g e a2 ww kk⟩
end

/-! ### list comprehensions -/
noncomputable def wipeD (ρ : DEnv) : List Nat → DEnv
  | [] => ρ
  | v :: vs => (wipeD ρ vs).set v none
theorem wipe_get (σ : L2.St) : ∀ (vs : List Nat) (j : Nat), (wipe σ vs)[j]? = if j ∈ vs then (if j < σ.length then some none else none) else σ[j]?
  | [], j => by simp [wipe]
  | v :: vs, j => by
    unfold wipe
    by_cases h : v = j
    · subst h
      rw [if_pos (List.mem_cons_self ..)]
      by_cases hl : v < σ.length
      · rw [if_pos hl, List.getElem?_set_self (by rw [wipe_length]; exact hl)]
      · rw [if_neg hl, List.getElem?_eq_none (by rw [List.length_set, wipe_length]; omega)]
    · rw [List.getElem?_set_ne h, wipe_get σ vs j]
      by_cases hm : j ∈ vs
      · rw [if_pos hm, if_pos (List.mem_cons_of_mem _ hm)]
      · rw [if_neg hm, if_neg (by
          rw [List.mem_cons, not_or]
          exact ⟨fun q => h q.symm, hm⟩)]
theorem wipeD_length (ρ : DEnv) : ∀ vs : List Nat, (wipeD ρ vs).length = ρ.length
  | [] => rfl
  | v :: vs => by
    unfold wipeD
    rw [List.length_set, wipeD_length ρ vs]
theorem wipeD_some {ρ : DEnv} {i : Nat} {x : RV} : ∀ {vs : List Nat}, (wipeD ρ vs)[i]? = some (some x) → ρ[i]? = some (some x) ∧ i ∉ vs
  | [], h => ⟨h, by simp⟩
  | v :: vs, h => by
    unfold wipeD at h
    by_cases hi : v = i
    · subst hi
      by_cases hv : v < (wipeD ρ vs).length
      · rw [List.getElem?_set_self hv] at h
        cases h
      · rw [List.getElem?_eq_none (by rw [List.length_set]; omega)] at h
        cases h
    · rw [List.getElem?_set_ne hi] at h
      obtain ⟨h1, h2⟩ := wipeD_some h
      exact ⟨h1, by
        rw [List.mem_cons, not_or]
        exact ⟨fun q => hi q.symm, h2⟩⟩
theorem EnvR.wipe {K : PySem.W.Frag} {bxs : List Addr} {n : Nat} {B H : Hp} {σ : L2.St} {ρ : DEnv} (e : EnvR K bxs n B H σ ρ) (vs : List Nat) : EnvR K bxs n B H (wipe σ vs) (wipeD ρ vs) where
  len := by rw [wipe_length, wipeD_length, e.len]
  val := fun i r h => by
    obtain ⟨h1, h2⟩ := wipeD_some h
    obtain ⟨v, h3, h4⟩ := e.val i r h1
    exact ⟨v, by rw [wipe_get, if_neg h2]; exact h3, h4⟩
  own := fun i j r r' p h1 h2 o1 o2 h3 h4 => by
    obtain ⟨a1, a2⟩ := wipeD_some h1
    obtain ⟨b1, b2⟩ := wipeD_some h2
    rw [wipe_get, if_neg a2] at h3
    rw [wipe_get, if_neg b2] at h4
    exact e.own i j r r' p a1 b1 o1 o2 h3 h4
  ok := fun i r h => e.ok i r (wipeD_some h).1
theorem wipe_upd {σ σ' : L2.St} {ρ ρ' : DEnv} {us vs : List Nat} (u : UpdR us (wipe σ vs) σ' ρ ρ') (hs : ∀ j ∈ us, j ∈ vs) : wipe σ' vs = wipe σ vs := by
  apply List.ext_getElem?
  intro j
  have hl : σ'.length = σ.length := by rw [u.len, wipe_length]
  rw [wipe_get, wipe_get, hl]
  by_cases hj : j ∈ vs
  · rw [if_pos hj, if_pos hj]
  · rw [if_neg hj, if_neg hj, u.out j (fun q => hj (hs j q)), wipe_get, if_neg hj]
noncomputable def dat : RV → Option PyData
  | .d x => some x
  | .new xs => some (.list xs)
  | _ => none
theorem dat_fix {r : RV} {y : PyData} (h : dat r = some y) : fixR r = .d y := by
  cases r <;> first | (cases h; rfl) | cases h
noncomputable def dYes : DT := fun _ n Q => Q true n
noncomputable def dLc (wi : DI) (wg : DG) (tt : DT) (we : DE) (vs : List Nat) : DE := fun ρ n Q => wi ρ n fun items n1 => ∃ Inv : Nat → List PyData → Nat → Prop, Inv 0 [] n1 ∧
  (∀ i acc n z, Inv i acc n → items[i]? = some z → wg z (wipeD ρ vs) fun ρ' => tt ρ' n fun b n2 => if b = true then we ρ' n2 fun r n3 => onO (dat r) fun y => acc.length < sizeLine ∧ Inv (i + 1) (acc ++ [y]) n3 else Inv (i + 1) acc n2) ∧
  ∀ acc n, Inv items.length acc n → Q (.new acc) n
noncomputable abbrev LTs (X : Cx) (ifs : List Expr) (w : DT) : Prop := PTs X ifs (upT X.K w)
theorem lts_nil {X : Cx} : LTs X [] dYes := ⟨fun pins s σ H Q I hu => pts_nil.run pins s σ H Q I (by
  obtain ⟨ρ, n, B, bxs, Qd, g, e, w1, q⟩ := hu
  exact q _ _ _ _ w1 g.refl)⟩
theorem lts_one {X : Cx} {c : Expr} {w : DT} (h : LT X c w) : LTs X [c] w := pts_one h
end Dl

namespace Dl
open PySem PySem.Spec PyProof.Rows L2

noncomputable def upG (K : PySem.W.Frag) (vs : List Nat) (w : DG) : TG := fun v σ H Q => ∃ (bxs : List Addr) (n : Nat) (B : Hp) (ρ : DEnv) (x : PyData) (Qd : DEnv → Prop),
  Good bxs n B H ∧ EnvR K bxs n B H σ ρ ∧ Dp K B v x ∧ w x ρ Qd ∧ ∀ σ' ρ', Qd ρ' → EnvR K bxs n B H σ' ρ' → UpdR vs σ σ' ρ ρ' → Q σ' H
theorem lg_up {X : Cx} {tg : Expr} {vs : List Nat} {w : DG} (h : LG X tg vs w) : PG X tg (upG X.K vs w) := by
  obtain ⟨g, p, q⟩ := h
  refine ⟨fun pins s σ H v u Q I r hu => p.run pins s σ H v u Q I r ?_⟩
  obtain ⟨bxs, n, B, ρ, x, Qd, a1, a2, a3, a4, a5⟩ := hu
  exact q bxs n B H σ ρ v x Qd Q a1 a2 a3 a4 a5
/-- an item is laid -/
theorem yr_step {K : PySem.W.Frag} {bxs : List Addr} {n : Nat} {B H H' B0 : Hp} {x : V} {z : PyData} (g : Good bxs n B H) (sb : Same B0 B) (y : YR K B0 H x H' z) : ∃ B', Step bxs n n B H B' H' ∧ Dp K B' x z := by
  rcases y with ⟨rfl, hd⟩ | ⟨T, vs, zs, rfl, rfl, hT, rfl, hd⟩
  · exact ⟨B, g.refl, dpSame sb _ _ hd⟩
  · have hb := (freshB g hT).2
    exact ⟨upd B T (.tup vs), g.refl.lay g hT, .tup (.inl (.inl upd_same)) (dpSameAll (sb.trans (sub_add hb)) _ _ hd)⟩
theorem up_lc {K : PySem.W.Frag} {wi : DI} {wg : DG} {tt : DT} {we : DE} {vs us : List Nat} (hus : ∀ j ∈ us, j ∈ vs) (σ : L2.St) (H : Hp) (Q : VK) (hu : up K (dLc wi wg tt we vs) σ H Q) :
    tLc (upI K wi) (upG K us wg) (upT K tt) (up K we) vs σ H Q := by
  obtain ⟨ρ, n, B, bxs, Qd, g, e, w1, q⟩ := hu
  refine ⟨ρ, n, B, bxs, _, g, e, w1, fun items n1 B1 H1 J hq s1 ji => fun D hD => ?_⟩
  obtain ⟨Iv, h0, ht, hd⟩ := hq
  have g1 := g.step s1
  have fb := freshB g1 hD
  refine ⟨fun i m Hc => m = items.length - i ∧ i ≤ items.length ∧ ∃ (nc : Nat) (Bc : Hp) (acc : List PyData) (av : List V), Iv i acc nc ∧ Step bxs n nc B H Bc Hc ∧ Same B1 Bc ∧ Bc D = none ∧ Hc D = some (.lst av) ∧ DpAll K Bc av acc,
    ⟨_, rfl, Nat.zero_le _, n1, B1, [], [], h0, s1.lay0 hD, Same.refl _, fb.2, upd_same, .nil⟩, ?_⟩
  rintro i m Hc ⟨rfl, hi, nc, Bc, acc, av, iv, sc, sbc, bD, hDc, da⟩
  have gc := g.step sc
  have nD : D ∉ bxs := fb.1
  by_cases hlt : i < items.length
  · refine .inr ⟨ji.go i Hc (sbc.trans gc.sub) hlt, fun Hn => ∃ (nn : Nat) (Bn : Hp) (acn : List PyData) (avn : List V), Iv (i + 1) acn nn ∧ Step bxs n nn B H Bn Hn ∧ Same B1 Bn ∧ Bn D = none ∧ Hn D = some (.lst avn) ∧ DpAll K Bn avn acn,
      fun Hn hn => ⟨items.length - (i + 1), by omega, rfl, hlt, hn⟩, fun x Hy hy => ?_⟩
    have hz : items[i]? = some items[i] := List.getElem?_eq_getElem hlt
    obtain ⟨By, sy, dx⟩ := yr_step gc sbc (ji.yld i Hc x Hy items[i] (sbc.trans gc.sub) hy hz)
    have scy := sc.trans sy
    have gy := g.step scy
    have ey := (e.step scy).wipe vs
    have byD : By D = none := by rw [sy.b3 D (ne_none_of hDc)]; exact bD
    have hyD : Hy D = some (.lst av) := sy.h1 D _ nD hDc
    refine ⟨bxs, nc, By, wipeD ρ vs, items[i], _, gy, ey, dx, ht i acc nc items[i] iv hz, fun σ2 ρ2 hq2 e2 u2 => ⟨wipe_upd u2 hus, ?_⟩⟩
    refine ⟨ρ2, nc, By, bxs, _, gy, e2, hq2, fun b n2 B2 H2 hq3 s2 => ?_⟩
    have sc2 := scy.trans s2
    have g2 := g.step sc2
    have b2D : B2 D = none := by rw [s2.b3 D (ne_none_of hyD)]; exact byD
    have h2D : H2 D = some (.lst av) := s2.h1 D _ nD hyD
    have sb2 : Same B1 B2 := (sbc.trans sy.b1).trans s2.b1
    cases b with
    | false =>
      refine iteF ⟨n2, B2, acc, av, ?_, sc2, sb2, b2D, h2D, dpSameAll (sy.b1.trans s2.b1) _ _ da⟩
      have hq4 := hq3
      rw [if_neg Bool.false_ne_true] at hq4
      exact hq4
    | true =>
      rw [if_pos rfl] at hq3
      refine iteT ⟨ρ2, n2, B2, bxs, _, g2, e2.step s2, hq3, fun r n3 v B3 H3 hq4 s3 vr fr => ?_⟩
      obtain ⟨y, ey', hl, iv'⟩ := onO_ex hq4
      obtain ⟨B4, s4, vr4, sb4⟩ := fix_r g2 s3 vr fr
      rw [dat_fix ey'] at vr4
      have sc4 := sc2.trans s4
      have b4D : B4 D = none := by rw [s4.b3 D (ne_none_of h2D)]; exact b2D
      have h4D : H3 D = some (.lst av) := s4.h1 D _ nD h2D
      have da4 : DpAll K B4 av acc := dpSameAll ((sy.b1.trans s2.b1).trans s4.b1) _ _ da
      refine ⟨av, h4D, by rw [dpLen _ _ da]; exact hl, n3, B4, acc ++ [y], av ++ [v], iv', ?_, sb2.trans s4.b1, b4D, upd_same, dpApp _ _ _ _ da4 (.cons vr4 .nil)⟩
      have hnone : H D = none := s1.free hD
      exact {
        b1 := sc4.b1
        b2 := fun a u h => by
          have na : a ≠ D := fun z => by
            subst z
            rw [b4D] at h
            cases h
          rw [upd_ne na]
          exact sc4.b2 a u h
        b3 := sc4.b3
        h1 := fun a u ha h => by
          rw [upd_ne (ne_of_none h hnone)]
          exact sc4.h1 a u ha h
        bx := fun b hb => (sc4.bx b hb).keep fun u h => by
          have na : b ≠ D := fun z => nD (z ▸ hb)
          rw [upd_ne na]
          exact h
        nn := sc4.nn }
  · have el : i = items.length := by omega
    subst el
    refine .inl ⟨ji.stop Hc (sbc.trans gc.sub), ?_⟩
    exact q _ _ _ _ _ (hd acc nc iv) sc ⟨D, av, rfl, nD, bD, hDc, da⟩ ⟨D, rfl, s1.free hD⟩
section
variable {X : Cx} {elt tg iter : Expr} {ifs : List Expr} {scope : Scope} {own : List (Str × Nat)} {us : List Nat} {pos spos : Pos} {wi : DI} {wg : DG} {tt : DT} {we : DE}
theorem le_lc (hc : X.calm = true) (hN : X.N.Nodup) (hi : LI X tg iter wi) (ok : blkC X.N X.env.scope scope own = true)
    (hg : ∀ (s : Shared) (H : Hp) (C : Addr) (cl : List (Str × Addr)) (fp : List Addr), LG (X.blk s H scope (compEnvC scope cl C X.env) fp) tg us wg) (ht : ∀ (s : Shared) (H : Hp) (C : Addr) (cl : List (Str × Addr)) (fp : List Addr), LTs (X.blk s H scope (compEnvC scope cl C X.env) fp) ifs tt)
    (he : ∀ (s : Shared) (H : Hp) (C : Addr) (cl : List (Str × Addr)) (fp : List Addr), LE (X.blk s H scope (compEnvC scope cl C X.env) fp) elt we) (hus : ∀ j ∈ us, j ∈ own.map (·.2) := by decide) (hs : ∀ x, foldedSetIterable iter X.env x = pure x := by intro _; rfl) :
    LE X (.ListComp elt [⟨tg, iter, ifs, 0⟩] scope pos) (dLc wi wg tt we (own.map (·.2))) :=
  pe_imp (pe_lc hc hN hi (blkOk_by ok) (fun s H C cl fp => lg_up (hg s H C cl fp)) ht he hs) (up_lc hus)
end

/-! ### statements -/
structure Ent where
  B : Hp
  H : Hp
  bxs : List Addr
  n : Nat
structure SInv (K : PySem.W.Frag) (E : Ent) (M : Hp) (n : Nat) (B H : Hp) (bxs : List Addr) (σ : L2.St) (ρ : DEnv) : Prop where
  st : Step E.bxs E.n n E.B E.H B H
  mb : Same M B
  g : Good bxs n B H
  bs : ∀ b ∈ bxs, b ∈ E.bxs ∨ E.H b = none
  sup : ∀ b ∈ E.bxs, b ∈ bxs
  env : EnvR K bxs n B H σ ρ
  ow : ∀ (i : Nat) (r : RV) (p : Addr), ρ[i]? = some (some r) → isOwn r → σ[i]? = some (some (.ref p)) → E.H p = none
structure DEnds where
  nx : DEnv → Nat → Prop
  rt : RV → Nat → Prop
  bk : DEnv → Nat → Prop := fun _ _ => False
  ct : DEnv → Nat → Prop := fun _ _ => False
noncomputable abbrev DS := DEnds → DEnv → Nat → Prop
noncomputable def RetR (K : PySem.W.Frag) (E : Ent) (n : Nat) (B H : Hp) (r : RV) (v : V) : Prop := Step E.bxs E.n n E.B E.H B H ∧ ValR K E.bxs n B H r v ∧ FrR E.H r v ∧ retOk r
structure EndsR (K : PySem.W.Frag) (E : Ent) (M : Hp) (D : Ends) (Dd : DEnds) : Prop where
  nx : ∀ n B H bxs σ ρ, SInv K E M n B H bxs σ ρ → Dd.nx ρ n → D.nx σ H
  rt : ∀ n B H r v, RetR K E n B H r v → Dd.rt r n → D.rt v H
  bk : ∀ n B H bxs σ ρ, SInv K E M n B H bxs σ ρ → Dd.bk ρ n → D.bk σ H
  ct : ∀ n B H bxs σ ρ, SInv K E M n B H bxs σ ρ → Dd.ct ρ n → D.ct σ H
noncomputable def upS (K : PySem.W.Frag) (E : Ent) (w : DS) : TS := fun D σ H => ∃ (ρ : DEnv) (n : Nat) (B M : Hp) (bxs : List Addr) (Dd : DEnds), SInv K E M n B H bxs σ ρ ∧ w Dd ρ n ∧ EndsR K E M D Dd
noncomputable abbrev LS (X : Cx) (E : Ent) (st : Stmt) (w : DS) : Prop := PS X st (upS X.K E w)
noncomputable abbrev LSs (X : Cx) (E : Ent) (st : List Stmt) (w : DS) : Prop := PSs X st (upS X.K E w)
theorem ps_imp {X : Cx} {e : Stmt} {t t' : TS} (h : PS X e t) (i : ∀ D σ H, t' D σ H → t D σ H) : PS X e t' := ⟨fun pins s σ H D I q => h.run pins s σ H D I (i D σ H q)⟩
theorem pss_imp {X : Cx} {e : List Stmt} {t t' : TS} (h : PSs X e t) (i : ∀ D σ H, t' D σ H → t D σ H) : PSs X e t' := ⟨fun pins s σ H D I q => h.run pins s σ H D I (i D σ H q)⟩
theorem SInv.step {K : PySem.W.Frag} {E : Ent} {M : Hp} {n n1 : Nat} {B H B1 H1 : Hp} {bxs : List Addr} {σ : L2.St} {ρ : DEnv} (h : SInv K E M n B H bxs σ ρ) (s : Step bxs n n1 B H B1 H1) : SInv K E M n1 B1 H1 bxs σ ρ :=
  ⟨h.st.then s h.bs fun b hb => .inl (h.sup b hb), h.mb.trans s.b1, h.g.step s, h.bs, h.sup, h.env.step s, h.ow⟩
theorem SInv.upd {K : PySem.W.Frag} {E : Ent} {M : Hp} {n : Nat} {B H : Hp} {bxs : List Addr} {σ σ' : L2.St} {ρ ρ' : DEnv} {vs : List Nat} (h : SInv K E M n B H bxs σ ρ) (e : EnvR K bxs n B H σ' ρ') (u : UpdR vs σ σ' ρ ρ') : SInv K E M n B H bxs σ' ρ' :=
  ⟨h.st, h.mb, h.g, h.bs, h.sup, e, fun i r p h1 o h2 => by
    obtain ⟨a1, a2⟩ := u.own i r h1 o
    rw [a2] at h2
    exact h.ow i r p a1 o h2⟩
noncomputable def dNext : DS := fun D ρ n => D.nx ρ n
noncomputable def dSeq (w u : DS) : DS := fun D ρ n => w { D with nx := u D } ρ n
section
variable {X : Cx} {E : Ent} {st : Stmt} {rest : List Stmt} {w u : DS} {pos : Pos}
theorem lss_nil : LSs X E [] dNext := pss_imp pss_nil fun D σ H hu => by
  obtain ⟨ρ, n, B, M, bxs, Dd, h, w1, q⟩ := hu
  exact q.nx _ _ _ _ _ _ h w1
theorem lss_one (h1 : LS X E st w) : LSs X E [st] w := pss_one h1
theorem lss_cons (h1 : LS X E st w) (h2 : LSs X E rest u) : LSs X E (st :: rest) (dSeq w u) := pss_imp (pss_cons h1 h2) fun D σ H hu => by
  obtain ⟨ρ, n, B, M, bxs, Dd, h, w1, q⟩ := hu
  refine ⟨ρ, n, B, M, bxs, { Dd with nx := u Dd }, h, w1, ⟨fun n1 B1 H1 b1 σ1 ρ1 h1 w2 => ?_, q.rt, q.bk, q.ct⟩⟩
  exact ⟨ρ1, n1, B1, M, b1, Dd, h1, w2, q⟩
/-! assignment to a name -/
noncomputable def setR (r : RV) (F : RV → Prop) : Prop := match r with
  | .d x => F (.d x)
  | .new xs => F (.d (.list xs))
  | .box => F .box
  | .nbox => F .box
  | .bor _ => False
  | .own _ => False
  | .obj _ => False
noncomputable def dSet (i : Nat) (w : DE) : DS := fun D ρ n => w ρ n fun r n1 => setR r fun r' => D.nx (ρ.set i (some r')) n1
/-- the name owns the new list -/
noncomputable def onN (r : RV) (F : List PyData → Prop) : Prop := match r with
  | .new b => F b
  | _ => False
theorem onN_ex {r : RV} {F : List PyData → Prop} (h : onN r F) : ∃ b, r = .new b ∧ F b := by
  unfold onN at h
  split at h
  · exact ⟨_, rfl, h⟩
  · exact h.elim
noncomputable def dOwn (i : Nat) (w : DE) : DS := fun D ρ n => w ρ n fun r n1 => onN r fun xs => D.nx (ρ.set i (some (.new xs))) n1
theorem EnvR.setBox {K : PySem.W.Frag} {bxs : List Addr} {n : Nat} {B H : Hp} {σ : L2.St} {ρ : DEnv} (e : EnvR K bxs n B H σ ρ) (i : Nat) {b : Addr} (h : b ∈ bxs) : EnvR K bxs n B H (σ.set i (some (.ref b))) (ρ.set i (some .box)) where
  len := by rw [List.length_set, List.length_set, e.len]
  val := fun j r hr => by
    by_cases hij : i = j
    · subst hij
      have hi : i < ρ.length := by
        have := (List.getElem?_eq_some_iff.mp hr).1
        rwa [List.length_set] at this
      rw [List.getElem?_set_self hi] at hr
      cases hr
      exact ⟨.ref b, List.getElem?_set_self (by rw [e.len]; exact hi), b, rfl, h⟩
    · rw [List.getElem?_set_ne hij] at hr
      rw [List.getElem?_set_ne hij]
      exact e.val j r hr
  own := fun j k r r' p h1 h2 o1 o2 h3 h4 => by
    have nn : ∀ (m : Nat) (z : RV), isOwn z → (ρ.set i (some RV.box))[m]? = some (some z) → i ≠ m := fun m z o hm q => by
      subst q
      have hi : i < ρ.length := by
        have := (List.getElem?_eq_some_iff.mp hm).1
        rwa [List.length_set] at this
      rw [List.getElem?_set_self hi] at hm
      cases hm
      exact o.elim
    have nj := nn j r o1 h1
    have nk := nn k r' o2 h2
    rw [List.getElem?_set_ne nj] at h1 h3
    rw [List.getElem?_set_ne nk] at h2 h4
    exact e.own j k r r' p h1 h2 o1 o2 h3 h4
  ok := ok_set e.ok trivial
theorem ow_set {K : PySem.W.Frag} {σ : L2.St} {ρ : DEnv} {i : Nat} {r : RV} {v : V} (hr : ¬ isOwn r) {E : Ent} (h : ∀ (i : Nat) (r : RV) (p : Addr), ρ[i]? = some (some r) → isOwn r → σ[i]? = some (some (.ref p)) → E.H p = none) :
    ∀ (j : Nat) (z : RV) (p : Addr), (ρ.set i (some r))[j]? = some (some z) → isOwn z → (σ.set i (some v))[j]? = some (some (.ref p)) → E.H p = none := fun j z p h1 o h2 => by
  have nj : i ≠ j := fun q => by
    subst q
    have hi : i < ρ.length := by
      have := (List.getElem?_eq_some_iff.mp h1).1
      rwa [List.length_set] at this
    rw [List.getElem?_set_self hi] at h1
    cases h1
    exact hr o
  rw [List.getElem?_set_ne nj] at h1 h2
  exact h j z p h1 o h2
/-- what a value stored at slot i leaves -/
theorem set_inv {K : PySem.W.Frag} {M : Hp} {n n1 : Nat} {B H B1 H1 : Hp} {bxs : List Addr} {σ : L2.St} {ρ : DEnv} {i : Nat} {r : RV} {v : V} {F : RV → Prop} (h : SInv K E M n B H bxs σ ρ) (s : Step bxs n n1 B H B1 H1) (vr : ValR K bxs n1 B1 H1 r v) (fr : FrR H r v) (hf : setR r F) :
    ∃ r' B2 bxs2, F r' ∧ SInv K E M n1 B2 H1 bxs2 (σ.set i (some v)) (ρ.set i (some r')) := by
  cases r with
  | d x =>
    have h1 := h.step s
    exact ⟨.d x, B1, bxs, hf, h1.upd (h1.env.set i vr) (UpdR.set σ ρ i v x)⟩
  | new xs =>
    obtain ⟨B2, s2, vr2, _⟩ := fix_r h.g s vr fr
    have h1 := h.step s2
    exact ⟨_, B2, bxs, hf, h1.upd (h1.env.set i vr2) (UpdR.set σ ρ i v (.list xs))⟩
  | bor xs => exact hf.elim
  | own T => exact hf.elim
  | box =>
    obtain ⟨b, rfl, hb⟩ := vr
    have h1 := h.step s
    exact ⟨.box, B1, bxs, hf, h1.st, h1.mb, h1.g, h1.bs, h1.sup, h1.env.setBox i hb, ow_set (K := K) (r := .box) (fun q => q) h1.ow⟩
  | obj o0 => exact hf.elim
  | nbox =>
    obtain ⟨b, rfl, hb, hB, hbox⟩ := vr
    obtain ⟨b', eb, hfr⟩ := fr
    cases eb
    have h1 := h.step s
    have e2 : EnvR K (b :: bxs) n1 B1 H1 σ ρ := ⟨h1.env.len, fun j r hj => by
      obtain ⟨u, e1, e2⟩ := h.env.val j r hj
      obtain ⟨u', e1', e3⟩ := h1.env.val j r hj
      rw [e1] at e1'
      cases e1'
      refine ⟨u, e1, ?_⟩
      cases r with
      | d x => exact e3
      | new xs =>
        obtain ⟨p, vs, rfl, a1, a2, a3, a4⟩ := e3
        obtain ⟨p', vs', ep, c1, c2, c3, c4⟩ := e2
        cases ep
        refine ⟨p, vs, rfl, ?_, a2, a3, a4⟩
        rw [List.mem_cons, not_or]
        exact ⟨fun q => (by subst q; rw [hfr] at c3; cases c3), a1⟩
      | bor xs =>
        obtain ⟨p, vs, rfl, a1, a2, a3, a4⟩ := e3
        obtain ⟨p', vs', ep, c1, c2, c3, c4⟩ := e2
        cases ep
        refine ⟨p, vs, rfl, ?_, a2, a3, a4⟩
        rw [List.mem_cons, not_or]
        exact ⟨fun q => (by subst q; rw [hfr] at c3; cases c3), a1⟩
      | own T =>
        obtain ⟨p, o, rfl, a1, a2, a3, a4⟩ := e3
        obtain ⟨p', o', ep, c1, c2, c3, c4⟩ := e2
        cases ep
        refine ⟨p, o, rfl, ?_, a2, a3, a4⟩
        rw [List.mem_cons, not_or]
        exact ⟨fun q => (by subst q; rw [hfr] at c3; cases c3), a1⟩
      | box =>
        obtain ⟨p, rfl, a1⟩ := e3
        exact ⟨p, rfl, .tail _ a1⟩
      | obj o0 => exact e3
      | nbox =>
        obtain ⟨p, rfl, a1, a2, a3⟩ := e3
        obtain ⟨p', ep, c1, c2, c3⟩ := e2
        cases ep
        refine ⟨p, rfl, ?_, a2, a3⟩
        rw [List.mem_cons, not_or]
        exact ⟨fun q => by subst q; exact c3.ne hfr, a1⟩, h1.env.own, h1.env.ok⟩
    refine ⟨.box, B1, b :: bxs, hf, h1.st, h1.mb, ⟨h1.g.sub, fun c hc => ?_⟩, fun c hc => ?_, fun c hc => .tail _ (h1.sup c hc), e2.setBox i (.head _), ow_set (K := K) (r := .box) (fun q => q) h1.ow⟩
    · rcases List.mem_cons.mp hc with q | q
      · subst q
        exact ⟨hB, hbox⟩
      · exact h1.g.box c q
    · rcases List.mem_cons.mp hc with q | q
      · subst q
        exact .inr (h.st.free hfr)
      · exact h1.bs c q
theorem up_set {K : PySem.W.Frag} {i : Nat} {we : DE} (D : Ends) (σ : L2.St) (H : Hp) (hu : upS K E (dSet i we) D σ H) : tAsg (up K we) (gName i) D σ H := by
  obtain ⟨ρ, n, B, M, bxs, Dd, h, w1, q⟩ := hu
  refine ⟨ρ, n, B, bxs, _, h.g, h.env, w1, fun r n1 v B1 H1 hq s1 vr fr => ?_⟩
  obtain ⟨r', B2, bxs2, hf, h2⟩ := set_inv (i := i) h s1 vr fr hq
  exact q.nx _ _ _ _ _ _ h2 hf
theorem EnvR.setOwn {K : PySem.W.Frag} {bxs : List Addr} {n : Nat} {B H H0 : Hp} {σ : L2.St} {ρ : DEnv} (e : EnvR K bxs n B H σ ρ) (i : Nat) {p : Addr} {rn : RV} (hsl : slotOk rn) (h : ValR K bxs n B H rn (.ref p)) (hp : H0 p = none)
    (ho : ∀ (j : Nat) (r : RV) (q : Addr), ρ[j]? = some (some r) → isOwn r → σ[j]? = some (some (.ref q)) → H0 q ≠ none) : EnvR K bxs n B H (σ.set i (some (.ref p))) (ρ.set i (some rn)) where
  len := by rw [List.length_set, List.length_set, e.len]
  val := fun j r hr => by
    by_cases hij : i = j
    · subst hij
      have hi : i < ρ.length := by
        have := (List.getElem?_eq_some_iff.mp hr).1
        rwa [List.length_set] at this
      rw [List.getElem?_set_self hi] at hr
      cases hr
      exact ⟨.ref p, List.getElem?_set_self (by rw [e.len]; exact hi), h⟩
    · rw [List.getElem?_set_ne hij] at hr
      rw [List.getElem?_set_ne hij]
      exact e.val j r hr
  own := fun j k r r' q h1 h2 o1 o2 h3 h4 => by
    by_cases hj : i = j
    · by_cases hk : i = k
      · exact hj.symm.trans hk
      · subst hj
        rw [List.getElem?_set_ne hk] at h2 h4
        have hi : i < ρ.length := by
          have := (List.getElem?_eq_some_iff.mp h1).1
          rwa [List.length_set] at this
        rw [List.getElem?_set_self (by rw [e.len]; exact hi)] at h3
        cases h3
        exact absurd hp (ho k r' p h2 o2 h4)
    · by_cases hk : i = k
      · subst hk
        rw [List.getElem?_set_ne hj] at h1 h3
        have hi : i < ρ.length := by
          have := (List.getElem?_eq_some_iff.mp h2).1
          rwa [List.length_set] at this
        rw [List.getElem?_set_self (by rw [e.len]; exact hi)] at h4
        cases h4
        exact absurd hp (ho j r p h1 o1 h3)
      · rw [List.getElem?_set_ne hj] at h1 h3
        rw [List.getElem?_set_ne hk] at h2 h4
        exact e.own j k r r' q h1 h2 o1 o2 h3 h4
  ok := ok_set e.ok hsl
/-- an own thing stands -/
theorem own_at {K : PySem.W.Frag} {bxs : List Addr} {n : Nat} {B H : Hp} {r : RV} {q : Addr} (h : ValR K bxs n B H r (.ref q)) (o : isOwn r) : q ∉ bxs ∧ B q = none ∧ ∃ u, H q = some u := by
  cases r with
  | new xs =>
    obtain ⟨p, vs, e, h1, h2, h3, h4⟩ := h
    cases e
    exact ⟨h1, h2, _, h3⟩
  | own T =>
    obtain ⟨p, vs, e, h1, h2, h3, h4⟩ := h
    cases e
    exact ⟨h1, h2, _, h3⟩
  | d x => exact o.elim
  | bor x => exact o.elim
  | box => exact o.elim
  | obj o0 => exact o.elim
  | nbox => exact o.elim
theorem own_ref {K : PySem.W.Frag} {bxs : List Addr} {n : Nat} {B H : Hp} {r : RV} {v : V} (h : ValR K bxs n B H r v) (o : isOwn r) : ∃ p, v = .ref p := by
  cases r with
  | new xs => exact ⟨_, h.choose_spec.choose_spec.1⟩
  | own T => exact ⟨_, h.choose_spec.choose_spec.1⟩
  | d x => exact o.elim
  | bor x => exact o.elim
  | box => exact o.elim
  | obj o0 => exact o.elim
  | nbox => exact o.elim
theorem own_fr {H : Hp} {r : RV} {q : Addr} (h : FrR H r (.ref q)) (o : isOwn r) : H q = none := by
  cases r with
  | new xs =>
    obtain ⟨p, e, h1⟩ := h
    cases e
    exact h1
  | own T =>
    obtain ⟨p, e, h1⟩ := h
    cases e
    exact h1
  | d x => exact o.elim
  | bor x => exact o.elim
  | box => exact o.elim
  | obj o0 => exact o.elim
  | nbox => exact o.elim
theorem own_slot {r : RV} (o : isOwn r) : slotOk r := by
  cases r <;> first | trivial | exact o.elim
theorem own_inv {K : PySem.W.Frag} {M : Hp} {n n1 : Nat} {B H B1 H1 : Hp} {bxs : List Addr} {σ : L2.St} {ρ : DEnv} {i : Nat} {r : RV} {v : V} (ow : isOwn r) (h : SInv K E M n B H bxs σ ρ) (s1 : Step bxs n n1 B H B1 H1) (vr : ValR K bxs n1 B1 H1 r v) (fr : FrR H r v) :
    SInv K E M n1 B1 H1 bxs (σ.set i (some v)) (ρ.set i (some r)) := by
  obtain ⟨p, rfl⟩ := own_ref vr ow
  have hp := own_fr fr ow
  have h1 := h.step s1
  have ho : ∀ (j : Nat) (r : RV) (q : Addr), ρ[j]? = some (some r) → isOwn r → σ[j]? = some (some (.ref q)) → H q ≠ none := fun j r z e1 o e2 => by
    obtain ⟨u, e3, e4⟩ := h.env.val j _ e1
    rw [e2] at e3
    cases e3
    obtain ⟨_, _, o, e5⟩ := own_at e4 o
    exact ne_none_of e5
  refine ⟨h1.st, h1.mb, h1.g, h1.bs, h1.sup, h1.env.setOwn i (own_slot ow) vr hp ho, fun j r z e1 o e2 => ?_⟩
  by_cases hj : i = j
  · subst hj
    have hi : i < ρ.length := by
      have := (List.getElem?_eq_some_iff.mp e1).1
      rwa [List.length_set] at this
    rw [List.getElem?_set_self (by rw [h.env.len]; exact hi)] at e2
    cases e2
    exact h.st.free hp
  · rw [List.getElem?_set_ne hj] at e1 e2
    exact h.ow j r z e1 o e2
theorem up_own {K : PySem.W.Frag} {i : Nat} {we : DE} (D : Ends) (σ : L2.St) (H : Hp) (hu : upS K E (dOwn i we) D σ H) : tAsg (up K we) (gName i) D σ H := by
  obtain ⟨ρ, n, B, M, bxs, Dd, h, w1, q⟩ := hu
  refine ⟨ρ, n, B, bxs, _, h.g, h.env, w1, fun r n1 v B1 H1 hq s1 vr fr => ?_⟩
  obtain ⟨xs, rfl, hq⟩ := onN_ex hq
  exact q.nx n1 B1 H1 bxs _ _ (own_inv (r := .new xs) trivial h s1 vr fr) hq
/-- the name owns the new thing -/
noncomputable def dOwnT (i : Nat) (w : DE) : DS := fun D ρ n => w ρ n fun r n1 => isOwn r ∧ D.nx (ρ.set i (some r)) n1
variable {x : Str} {e : Expr} {we : DE} {pos' : Pos}
theorem ls_set (i : Nat) (hN : X.N.Nodup) (he : LE X e we) (hi : X.N[i]? = some x := by rfl) (hx : Loc X.env.scope x := by first | exact Or.inl rfl | exact Or.inr rfl) (hs : swapsWith e (some (.Name x pos')) pos.line X.env = pure false := by rfl)
    (hf : X.fn x = true ∨ X.env.scope.names.lookup x = some .local := by first | exact .inl rfl | exact .inr rfl | assumption) : LS X E (.Assign [.Name x pos'] e pos) (dSet i we) := ps_imp (ps_set hN hi hx he hs hf) up_set
theorem ls_own (i : Nat) (hN : X.N.Nodup) (he : LE X e we) (hi : X.N[i]? = some x := by rfl) (hx : Loc X.env.scope x := by first | exact Or.inl rfl | exact Or.inr rfl) (hs : swapsWith e (some (.Name x pos')) pos.line X.env = pure false := by rfl)
    (hf : X.fn x = true ∨ X.env.scope.names.lookup x = some .local := by first | exact .inl rfl | exact .inr rfl | assumption) : LS X E (.Assign [.Name x pos'] e pos) (dOwn i we) := ps_imp (ps_set hN hi hx he hs hf) up_own
end
section
variable {X : Cx} {E : Ent} {elt tg iter : Expr} {ifs : List Expr} {scope : Scope} {own : List (Str × Nat)} {us : List Nat} {pos spos py : Pos} {wi : DI} {wg : DG} {tt : DT} {we : DE} {y : Str}
theorem ps_lcAny (i : Nat) (hc : X.calm = true) (hN : X.N.Nodup) (hi : LI X tg iter wi) (ok : blkC X.N X.env.scope scope own = true)
    (hg : ∀ (s : Shared) (H : Hp) (C : Addr) (cl : List (Str × Addr)) (fp : List Addr), LG (X.blk s H scope (compEnvC scope cl C X.env) fp) tg us wg) (ht : ∀ (s : Shared) (H : Hp) (C : Addr) (cl : List (Str × Addr)) (fp : List Addr), LTs (X.blk s H scope (compEnvC scope cl C X.env) fp) ifs tt)
    (he : ∀ (s : Shared) (H : Hp) (C : Addr) (cl : List (Str × Addr)) (fp : List Addr), LE (X.blk s H scope (compEnvC scope cl C X.env) fp) elt we) (hus : ∀ j ∈ us, j ∈ own.map (·.2)) (hy : X.N[i]? = some y) (hyl : X.env.scope.names.lookup y = some .local)
    (hsw : swapsWith (.ListComp elt [⟨tg, iter, ifs, 0⟩] scope pos) (some (.Name y py)) spos.line X.env = pure true) (hs : ∀ x, foldedSetIterable iter X.env x = pure x := by intro _; rfl) :
    PS X (.Assign [.Name y py] (.ListComp elt [⟨tg, iter, ifs, 0⟩] scope pos) spos) (tAsg (up X.K (dLc wi wg tt we (own.map (·.2)))) (gName i)) := by
  refine ps_imp (ps_setLc (te := up X.K we) (tt := upT X.K tt) (g := upG X.K us wg) hc hN hy hyl hsw hi (blkOk_by ok) (fun s H C cl fp => lg_up (hg s H C cl fp)) ht he hs) fun D σ H hu => ?_
  exact up_lc hus σ H _ hu
theorem ls_setLc (i : Nat) (hc : X.calm = true) (hN : X.N.Nodup) (hi : LI X tg iter wi) (ok : blkC X.N X.env.scope scope own = true)
    (hg : ∀ (s : Shared) (H : Hp) (C : Addr) (cl : List (Str × Addr)) (fp : List Addr), LG (X.blk s H scope (compEnvC scope cl C X.env) fp) tg us wg) (ht : ∀ (s : Shared) (H : Hp) (C : Addr) (cl : List (Str × Addr)) (fp : List Addr), LTs (X.blk s H scope (compEnvC scope cl C X.env) fp) ifs tt)
    (he : ∀ (s : Shared) (H : Hp) (C : Addr) (cl : List (Str × Addr)) (fp : List Addr), LE (X.blk s H scope (compEnvC scope cl C X.env) fp) elt we) (hsw : swapsWith (.ListComp elt [⟨tg, iter, ifs, 0⟩] scope pos) (some (.Name y py)) spos.line X.env = pure true) (hus : ∀ j ∈ us, j ∈ own.map (·.2) := by decide)
    (hy : X.N[i]? = some y := by rfl) (hyl : X.env.scope.names.lookup y = some .local := by rfl) (hs : ∀ x, foldedSetIterable iter X.env x = pure x := by intro _; rfl) :
    LS X E (.Assign [.Name y py] (.ListComp elt [⟨tg, iter, ifs, 0⟩] scope pos) spos) (dSet i (dLc wi wg tt we (own.map (·.2)))) := ps_imp (ps_lcAny i hc hN hi ok hg ht he hus hy hyl hsw hs) up_set
theorem ls_ownLc (i : Nat) (hc : X.calm = true) (hN : X.N.Nodup) (hi : LI X tg iter wi) (ok : blkC X.N X.env.scope scope own = true)
    (hg : ∀ (s : Shared) (H : Hp) (C : Addr) (cl : List (Str × Addr)) (fp : List Addr), LG (X.blk s H scope (compEnvC scope cl C X.env) fp) tg us wg) (ht : ∀ (s : Shared) (H : Hp) (C : Addr) (cl : List (Str × Addr)) (fp : List Addr), LTs (X.blk s H scope (compEnvC scope cl C X.env) fp) ifs tt)
    (he : ∀ (s : Shared) (H : Hp) (C : Addr) (cl : List (Str × Addr)) (fp : List Addr), LE (X.blk s H scope (compEnvC scope cl C X.env) fp) elt we) (hsw : swapsWith (.ListComp elt [⟨tg, iter, ifs, 0⟩] scope pos) (some (.Name y py)) spos.line X.env = pure true) (hus : ∀ j ∈ us, j ∈ own.map (·.2) := by decide)
    (hy : X.N[i]? = some y := by rfl) (hyl : X.env.scope.names.lookup y = some .local := by rfl) (hs : ∀ x, foldedSetIterable iter X.env x = pure x := by intro _; rfl) :
    LS X E (.Assign [.Name y py] (.ListComp elt [⟨tg, iter, ifs, 0⟩] scope pos) spos) (dOwn i (dLc wi wg tt we (own.map (·.2)))) := ps_imp (ps_lcAny i hc hN hi ok hg ht he hus hy hyl hsw hs) up_own
end
end Dl

namespace Dl
open PySem PySem.Spec PyProof.Rows L2

theorem SInv.weak {K : PySem.W.Frag} {E : Ent} {M M' : Hp} {n : Nat} {B H : Hp} {bxs : List Addr} {σ : L2.St} {ρ : DEnv} (h : SInv K E M' n B H bxs σ ρ) (s : Same M M') : SInv K E M n B H bxs σ ρ :=
  ⟨h.st, s.trans h.mb, h.g, h.bs, h.sup, h.env, h.ow⟩
/-- an own thing is changed -/
theorem SInv.writeT {K : PySem.W.Frag} {E : Ent} {M : Hp} {n : Nat} {B H : Hp} {bxs : List Addr} {σ : L2.St} {ρ : DEnv} (h : SInv K E M n B H bxs σ ρ) {i : Nat} {r0 r1 : RV} {p : Addr} (hi : ρ[i]? = some (some r0)) (o0 : isOwn r0) (o1 : isOwn r1) (hs : σ[i]? = some (some (.ref p)))
    {ob : HO} (hd : ValR K bxs n B (L2.upd H p ob) r1 (.ref p)) : SInv K E M n B (L2.upd H p ob) bxs σ (ρ.set i (some r1)) := by
  obtain ⟨v, e1, e0⟩ := h.env.val i _ hi
  rw [hs] at e1
  cases e1
  obtain ⟨a1, a2, ou, a3⟩ := own_at e0 o0
  have hE := h.ow i r0 p hi o0 hs
  have nB : ∀ a o, B a = some o → a ≠ p := fun a o e q => by
    subst q
    rw [a2] at e
    cases e
  have hil : i < ρ.length := (List.getElem?_eq_some_iff.mp hi).1
  refine ⟨⟨h.st.b1, fun a o e => by rw [upd_ne (nB a o e)]; exact h.st.b2 a o e, h.st.b3, fun a o ha e => ?_, fun b hb => ?_, h.st.nn⟩, h.mb, ⟨fun a o e => by rw [upd_ne (nB a o e)]; exact h.g.sub a o e, fun b hb => ⟨(h.g.box b hb).1, ?_⟩⟩, h.bs, h.sup, ⟨?_, ?_, ?_, ok_set h.env.ok (own_slot o1)⟩, ?_⟩
  · rw [upd_ne (ne_of_none e hE)]
    exact h.st.h1 a o ha e
  · refine (h.st.bx b hb).keep fun o e => ?_
    rw [upd_ne (show b ≠ p from fun q => a1 (by rw [← q]; exact h.sup b hb))]
    exact e
  · refine (h.g.box b hb).2.keep fun o e => ?_
    rw [upd_ne (show b ≠ p from fun q => a1 (by rw [← q]; exact hb))]
    exact e
  · rw [List.length_set]
    exact h.env.len
  · intro j r hj
    by_cases hij : i = j
    · subst hij
      rw [List.getElem?_set_self hil] at hj
      cases hj
      exact ⟨.ref p, hs, hd⟩
    · rw [List.getElem?_set_ne hij] at hj
      obtain ⟨u, e2, e3⟩ := h.env.val j r hj
      refine ⟨u, e2, ?_⟩
      cases r with
      | d x => exact e3
      | new ys =>
        obtain ⟨q, us, rfl, c1, c2, c3, c4⟩ := e3
        have nq : q ≠ p := fun z => hij (h.env.own i j _ _ p hi hj o0 trivial hs (z ▸ e2))
        exact ⟨q, us, rfl, c1, c2, by rw [upd_ne nq]; exact c3, c4⟩
      | own T =>
        obtain ⟨q, us, rfl, c1, c2, c3, c4⟩ := e3
        have nq : q ≠ p := fun z => hij (h.env.own i j _ _ p hi hj o0 trivial hs (z ▸ e2))
        exact ⟨q, us, rfl, c1, c2, by rw [upd_ne nq]; exact c3, c4⟩
      | bor ys =>
        exact (h.env.ok j _ hj).elim
      | box => exact e3
      | obj o0 => exact e3
      | nbox => exact (h.env.ok j _ hj).elim
  · intro j k r r' q h1 h2 w1 w2 h3 h4
    have f : ∀ (m : Nat) (z : RV), isOwn z → (ρ.set i (some r1))[m]? = some (some z) → ∃ z', isOwn z' ∧ ρ[m]? = some (some z') := fun m z oz hm => by
      by_cases him : i = m
      · subst him
        exact ⟨r0, o0, hi⟩
      · rw [List.getElem?_set_ne him] at hm
        exact ⟨z, oz, hm⟩
    obtain ⟨z1, y1, f1⟩ := f j r w1 h1
    obtain ⟨z2, y2, f2⟩ := f k r' w2 h2
    exact h.env.own j k z1 z2 q f1 f2 y1 y2 h3 h4
  · intro j r q h1 o h2
    by_cases him : i = j
    · subst him
      exact h.ow i r0 q hi o0 h2
    · rw [List.getElem?_set_ne him] at h1
      exact h.ow j r q h1 o h2
/-- an owned list is changed -/
theorem SInv.write {K : PySem.W.Frag} {E : Ent} {M : Hp} {n : Nat} {B H : Hp} {bxs : List Addr} {σ : L2.St} {ρ : DEnv} (h : SInv K E M n B H bxs σ ρ) {i : Nat} {xs : List PyData} {p : Addr} (hi : ρ[i]? = some (some (.new xs))) (hs : σ[i]? = some (some (.ref p)))
    {vs' : List V} {xs' : List PyData} (hd : DpAll K B vs' xs') : SInv K E M n B (L2.upd H p (.lst vs')) bxs σ (ρ.set i (some (.new xs'))) := by
  obtain ⟨v, e1, e0⟩ := h.env.val i _ hi
  rw [hs] at e1
  cases e1
  obtain ⟨a1, a2, _⟩ := own_at e0 trivial
  exact h.writeT (r0 := .new xs) (r1 := .new xs') hi trivial trivial hs ⟨p, vs', rfl, a1, a2, upd_same, hd⟩
section
variable {X : Cx} {E : Ent} {pos apos cpos p1 p2 : Pos} {e c o j tg iter : Expr} {we wj : DE} {x : Str} {w : DT} {wa wb : DS} {a b body : List Stmt}
/-! ### append, items stored -/
noncomputable def onS (r : Option (Option RV)) (F : List PyData → Prop) : Prop := match r with
  | some (some (.new b)) => F b
  | _ => False
theorem onS_ex {r : Option (Option RV)} {F : List PyData → Prop} (h : onS r F) : ∃ b, r = some (some (.new b)) ∧ F b := by
  unfold onS at h
  split at h
  · exact ⟨_, rfl, h⟩
  · exact h.elim
noncomputable def dAppend (i : Nat) (we : DE) : DS := fun D ρ n => onS ρ[i]? fun xs => we ρ n fun r n1 => onO (dat r) fun y => xs.length < sizeLine ∧ D.nx (ρ.set i (some (.new (xs ++ [y])))) n1
theorem ls_append (i : Nat) (he : LE X e we) (hN : X.N[i]? = some x := by rfl) (hv : Vis X.env.scope x := by first | exact Or.inl rfl | exact Or.inr (Or.inl rfl) | exact Or.inr (Or.inr rfl)) (hd : (x == ("__debug__" : Str)) = false := by decide) (hcd : (x == ("__classdict__" : Str)) = false := by decide)
    (hbase : attributeBase (.Name x p1) "append" X.env (eval (.Name x p1) X.env) = eval (.Name x p1) X.env := by rfl)
    (hfew : ((backTo cpos (starEach [e] X.env)).all (fun x => !x.1) && (backToKw cpos (keywordEach [] X.env)).all (fun x => x.1.isSome)
      && decide ([e].length + ([] : List Keyword).length + (if ([] : List Keyword).isEmpty then 0 else 1) < 30)) = true := by rfl)
    (hline : (apos.endLine == cpos.line) = true := by rfl) (hs : starEach [e] X.env = (false, eval e X.env) :: starEach [] X.env := by rfl) (hpl : (backTo cpos (starEach [] X.env)).any (·.1) = false := by rfl)
    (hsw : swapsWith (.Call (.Attribute (.Name x p1) "append" apos) [e] [] cpos) none pos.line X.env = pure false := by rfl) :
    LS X E (.Expr (.Call (.Attribute (.Name x p1) "append" apos) [e] [] cpos) pos) (dAppend i we) := by
  refine ps_imp (ps_expr (pe_bm PySem.F.plainAttrs_list PySem.F.slot_list_append PySem.F.type_list_append mt_append (pe_var hN hv hd hcd) (pa_cons he pa_nil hs) hbase hfew hline hs hpl) hsw) fun D σ H hu => ?_
  obtain ⟨ρ, n, B, M, bxs, Dd, h, w1, q⟩ := hu
  obtain ⟨xs, e1, w1⟩ := onS_ex w1
  obtain ⟨u, e3, p, vs, rfl, a1, a2, a3, a4⟩ := h.env.val i _ e1
  refine ⟨.ref p, e3, .inl ⟨rfl, _, .inl (.inl a3)⟩, ?_⟩
  refine ⟨ρ, n, B, bxs, _, h.g, h.env, w1, fun r n1 v B1 H1 hq s1 vr fr => ?_⟩
  obtain ⟨y, e2, hl, hq⟩ := onO_ex hq
  obtain ⟨B2, s2, vr2, sb⟩ := fix_r h.g s1 vr fr
  rw [dat_fix e2] at vr2
  have h2 := h.step s2
  have b3 : H1 p = some (.lst vs) := s2.h1 p _ a1 a3
  have b4 : DpAll X.K B2 vs xs := dpSameAll s2.b1 _ _ a4
  exact ⟨p, vs, v, rfl, rfl, b3, by rw [dpLen _ _ a4]; exact hl, q.nx _ _ _ _ _ _ (h2.write e1 e3 (dpApp _ _ _ _ b4 (.cons vr2 .nil))) hq⟩
/-- x[j] = e, x an own list: e first -/
noncomputable def dSetIx (i : Nat) (wj we : DE) : DS := fun D ρ n => we ρ n fun r n1 => onO (dat r) fun y => onS ρ[i]? fun xs => wj ρ n1 fun rj n2 => onI rj fun k => ∃ m, ixN xs.length k = some m ∧ D.nx (ρ.set i (some (.new (xs.set m y)))) n2
theorem ls_setIx (i : Nat) (he : LE X e we) (hj : LE X j wj) (hN : X.N[i]? = some x := by rfl) (hv : Vis X.env.scope x := by first | exact Or.inl rfl | exact Or.inr (Or.inl rfl) | exact Or.inr (Or.inr rfl)) (hd : (x == ("__debug__" : Str)) = false := by decide) (hcd : (x == ("__classdict__" : Str)) = false := by decide)
    (ha : ∀ v, assign (.Subscript (.Name x p1) j p2) X.env v = (do
      let ov ← holding [v] (eval (.Name x p1) X.env)
      let iv ← holding [v, ov] (eval j X.env)
      standAt p2
      holding [v, ov, iv] (setItem ov iv v)
      release [v, ov, iv] []) := by intro _; rfl) (hs : swapsWithSole [.Subscript (.Name x p1) j p2] e pos.line X.env = pure false := by rfl) (hw : swappedStores [.Subscript (.Name x p1) j p2] e X.env = pure none := by rfl)
    (h1 : (assignEach [.Subscript (.Name x p1) j p2] X.env).map (·.2) = [assign (.Subscript (.Name x p1) j p2) X.env] := by rfl) :
    LS X E (.Assign [.Subscript (.Name x p1) j p2] e pos) (dSetIx i wj we) := by
  refine ps_imp (ps_asg he (pg_sub (pe_var hN hv hd hcd) hj set_list ha) hs hw h1) fun D σ H hu => ?_
  obtain ⟨ρ, n, B, M, bxs, Dd, h, w1, q⟩ := hu
  refine ⟨ρ, n, B, bxs, _, h.g, h.env, w1, fun r n1 v B1 H1 hq s1 vr fr => ?_⟩
  obtain ⟨y, e2, hq⟩ := onO_ex hq
  obtain ⟨xs, e1, w2⟩ := onS_ex hq
  obtain ⟨B2, s2, vr2, sb⟩ := fix_r h.g s1 vr fr
  rw [dat_fix e2] at vr2
  have h2 := h.step s2
  obtain ⟨u, e3, p, vs, rfl, a1, a2, a3, a4⟩ := h2.env.val i _ e1
  refine ⟨.ref p, e3, ρ, n1, B2, bxs, _, h2.g, h2.env, w2, fun rj n2 vj B3 H3 hq s3 vrj fj => ?_⟩
  obtain ⟨k, rfl, m, hm, hq⟩ := onI_ex hq
  cases vrj
  have h3 := h2.step s3
  have b3 : H3 p = some (.lst vs) := s3.h1 p _ a1 a3
  have b4 : DpAll X.K B3 vs xs := dpSameAll s3.b1 _ _ a4
  have b5 : Dp X.K B3 v y := dpSame s3.b1 _ _ vr2
  exact ⟨p, vs, k, m, rfl, rfl, b3, by rw [dpLen _ _ a4]; exact hm, q.nx _ _ _ _ _ _ (h3.write e1 e3 (dpSet b5 m _ _ b4)) hq⟩
/-! ### return, if, loops -/
noncomputable def retR (r : RV) (F : RV → Prop) : Prop := match r with
  | .d x => F (.d x)
  | .new xs => F (.new xs)
  | .nbox => F .nbox
  | _ => False
noncomputable def dRet (we : DE) : DS := fun D ρ n => we ρ n fun r n1 => retR r fun r' => D.rt r' n1
theorem ret_inv {K : PySem.W.Frag} {M : Hp} {n n1 : Nat} {B H B1 H1 : Hp} {bxs : List Addr} {σ : L2.St} {ρ : DEnv} {r : RV} {v : V} {F : RV → Prop} (h : SInv K E M n B H bxs σ ρ) (s : Step bxs n n1 B H B1 H1) (vr : ValR K bxs n1 B1 H1 r v) (fr : FrR H r v) (hf : retR r F) : RetR K E n1 B1 H1 r v ∧ F r := by
  have h1 := h.step s
  cases r with
  | d x => exact ⟨⟨h1.st, vr, trivial, trivial⟩, hf⟩
  | new xs =>
    obtain ⟨p, vs, rfl, a1, a2⟩ := vr
    obtain ⟨p', ep, hp⟩ := fr
    cases ep
    exact ⟨⟨h1.st, ⟨p, vs, rfl, fun q => a1 (h.sup p q), a2⟩, ⟨p, rfl, h.st.free hp⟩, trivial⟩, hf⟩
  | obj o0 => exact hf.elim
  | nbox =>
    obtain ⟨p, rfl, a1, a2⟩ := vr
    obtain ⟨p', ep, hp⟩ := fr
    cases ep
    exact ⟨⟨h1.st, ⟨p, rfl, fun q => a1 (h.sup p q), a2⟩, ⟨p, rfl, h.st.free hp⟩, trivial⟩, hf⟩
  | bor xs => exact hf.elim
  | own T => exact hf.elim
  | box => exact hf.elim
theorem ls_ret (he : LE X e we) : LS X E (.Return (some e) pos) (dRet we) := ps_imp (ps_ret he) fun D σ H hu => by
  obtain ⟨ρ, n, B, M, bxs, Dd, h, w1, q⟩ := hu
  refine ⟨ρ, n, B, bxs, _, h.g, h.env, w1, fun r n1 v B1 H1 hq s1 vr fr => ?_⟩
  obtain ⟨h1, h2⟩ := ret_inv h s1 vr fr hq
  exact q.rt _ _ _ _ _ h1 h2
/-- return of an own list -/
noncomputable def dRetO (i : Nat) : DS := fun D ρ n => onS ρ[i]? fun xs => D.rt (.new xs) n
noncomputable def dIfS (w : DT) (wa wb : DS) : DS := fun D ρ n => w ρ n fun b n1 => if b = true then wa D ρ n1 else wb D ρ n1
theorem ls_if (hc : LT X c w) (ha : LSs X E a wa) (hb : LSs X E b wb) : LS X E (.If c a b pos) (dIfS w wa wb) := ps_imp (ps_if hc ha hb) fun D σ H hu => by
  obtain ⟨ρ, n, B, M, bxs, Dd, h, w1, q⟩ := hu
  refine ⟨ρ, n, B, bxs, _, h.g, h.env, w1, fun bv n1 B1 H1 hq s1 => ?_⟩
  cases bv with
  | true => exact iteT ⟨ρ, n1, B1, M, bxs, Dd, h.step s1, hq, q⟩
  | false => exact iteF ⟨ρ, n1, B1, M, bxs, Dd, h.step s1, hq, q⟩
noncomputable def dFor (wi : DI) (wg : DG) (wb : DS) : DS := fun D ρ n => wi ρ n fun items n1 => ∃ Inv : Nat → DEnv → Nat → Prop, Inv 0 ρ n1 ∧
  (∀ i ρ n z, Inv i ρ n → items[i]? = some z → wg z ρ fun ρ' => wb { nx := Inv (i + 1), ct := Inv (i + 1), bk := D.nx, rt := D.rt } ρ' n) ∧ ∀ ρ n, Inv items.length ρ n → D.nx ρ n
theorem ls_for {us : List Nat} {wi : DI} {wg : DG} (hp : PassesOwn (model X.prog X.w) X.A X.env X.xe) (hc : X.calm = true) (hi : LI X tg iter wi) (hg : LG X tg us wg) (hb : LSs X E body wb) (hs : ∀ x, foldedSetIterable iter X.env x = pure x := by intro _; rfl) :
    LS X E (.For tg iter body [] pos) (dFor wi wg wb) := ps_imp (ps_for hp hc hi (lg_up hg) hb hs) fun D σ H hu => by
  obtain ⟨ρ, n, B, M, bxs, Dd, h, w1, q⟩ := hu
  refine ⟨ρ, n, B, bxs, _, h.g, h.env, w1, fun items n1 B1 H1 J hq s1 ji => ?_⟩
  obtain ⟨Iv, h0, ht, hd⟩ := hq
  have h1 := h.step s1
  have hM : Same M B1 := h1.mb
  have h1' : SInv X.K E B1 n1 B1 H1 bxs σ ρ := ⟨h1.st, Same.refl _, h1.g, h1.bs, h1.sup, h1.env, h1.ow⟩
  refine ⟨fun i m σ' H' => m = items.length - i ∧ i ≤ items.length ∧ ∃ (ρ' : DEnv) (n' : Nat) (B' : Hp) (bxs' : List Addr), SInv X.K E B1 n' B' H' bxs' σ' ρ' ∧ Iv i ρ' n', ⟨_, rfl, Nat.zero_le _, ρ, n1, B1, bxs, h1', h0⟩, ?_⟩
  rintro i m σ' H' ⟨rfl, hle, ρ', n', B', bxs', hv, iv⟩
  by_cases hlt : i < items.length
  · refine .inr ⟨ji.go i H' (hv.mb.trans hv.g.sub) hlt, fun σ2 H2 => ∃ (ρ2 : DEnv) (n2 : Nat) (B2 : Hp) (bxs2 : List Addr), SInv X.K E B1 n2 B2 H2 bxs2 σ2 ρ2 ∧ Iv (i + 1) ρ2 n2, fun σ2 H2 hn => ⟨items.length - (i + 1), by omega, rfl, hlt, hn⟩, fun xv Hy hy => ?_⟩
    have hz : items[i]? = some items[i] := List.getElem?_eq_getElem hlt
    obtain ⟨By, sy, dx⟩ := yr_step hv.g hv.mb (ji.yld i H' xv Hy items[i] (hv.mb.trans hv.g.sub) hy hz)
    have hy' := hv.step sy
    refine ⟨bxs', n', By, ρ', items[i], _, hy'.g, hy'.env, dx, ht i ρ' n' items[i] iv hz, fun σ2 ρ2 hq2 e2 u2 => ?_⟩
    refine ⟨ρ2, n', By, B1, bxs', _, hy'.upd e2 u2, hq2, ⟨fun n3 B3 H3 b3 σ3 ρ3 h3 w3 => ⟨ρ3, n3, B3, b3, h3, w3⟩, q.rt, fun n3 B3 H3 b3 σ3 ρ3 h3 w3 => q.nx _ _ _ _ _ _ (h3.weak hM) w3, fun n3 B3 H3 b3 σ3 ρ3 h3 w3 => ⟨ρ3, n3, B3, b3, h3, w3⟩⟩⟩
  · have el : i = items.length := by omega
    subst el
    exact .inl ⟨ji.stop H' (hv.mb.trans hv.g.sub), q.nx _ _ _ _ _ _ (hv.weak hM) (hd ρ' n' iv)⟩
noncomputable def dWhile (w : DT) (wb : DS) : DS := fun D ρ n => ∃ Inv : Nat → DEnv → Nat → Prop, (∃ m, Inv m ρ n) ∧ ∀ m ρ n, Inv m ρ n →
  w ρ n fun b n1 => if b = true then wb { nx := fun ρ' n' => ∃ m', m' < m ∧ Inv m' ρ' n', ct := fun ρ' n' => ∃ m', m' < m ∧ Inv m' ρ' n', bk := D.nx, rt := D.rt } ρ n1 else D.nx ρ n1
theorem ls_while (hp : PassesOwn (model X.prog X.w) X.A X.env X.xe) (hc : LT X c w) (hb : LSs X E body wb) : LS X E (.While c body [] pos) (dWhile w wb) := ps_imp (ps_while hp hc hb) fun D σ H hu => by
  obtain ⟨ρ, n, B, M, bxs, Dd, h, ⟨Iv, ⟨m0, i0⟩, turn⟩, q⟩ := hu
  refine ⟨fun m σ' H' => ∃ (ρ' : DEnv) (n' : Nat) (B' : Hp) (bxs' : List Addr), SInv X.K E M n' B' H' bxs' σ' ρ' ∧ Iv m ρ' n', ⟨m0, ρ, n, B, bxs, h, i0⟩, ?_⟩
  rintro m σ' H' ⟨ρ', n', B', bxs', hv, iv⟩
  refine ⟨ρ', n', B', bxs', _, hv.g, hv.env, turn m ρ' n' iv, fun bv n1 B1 H1 hq s1 => ?_⟩
  have h1 := hv.step s1
  cases bv with
  | true =>
    refine iteT ⟨fun σ2 H2 => ∃ (m' : Nat) (ρ2 : DEnv) (n2 : Nat) (B2 : Hp) (bxs2 : List Addr), m' < m ∧ SInv X.K E M n2 B2 H2 bxs2 σ2 ρ2 ∧ Iv m' ρ2 n2, fun σ2 H2 ⟨m', ρ2, n2, B2, b2, hm, hs, hi⟩ => ⟨m', hm, ρ2, n2, B2, b2, hs, hi⟩, ?_⟩
    exact ⟨ρ', n1, B1, M, bxs', _, h1, hq, ⟨fun n3 B3 H3 b3 σ3 ρ3 h3 ⟨m', hm, w3⟩ => ⟨m', ρ3, n3, B3, b3, hm, h3, w3⟩, q.rt, q.nx, fun n3 B3 H3 b3 σ3 ρ3 h3 ⟨m', hm, w3⟩ => ⟨m', ρ3, n3, B3, b3, hm, h3, w3⟩⟩⟩
  | false => exact iteF (q.nx _ _ _ _ _ _ h1 hq)
noncomputable def dPass : DS := fun D ρ n => D.nx ρ n
noncomputable def dBreak : DS := fun D ρ n => D.bk ρ n
noncomputable def dCont : DS := fun D ρ n => D.ct ρ n
/-! ### several targets -/
/-- a, b = e: the value is a tuple -/
noncomputable def dUnp (we : DE) (wg : DG) : DS := fun D ρ n => we ρ n fun r n1 => onO (dat r) fun y => wg y ρ fun ρ' => D.nx ρ' n1
theorem ls_unp {us : List Nat} {wg : DG} (he : LE X e we) (hg : LG X tg us wg) (hs : swapsWithSole [tg] e pos.line X.env = pure false := by rfl) (hw : swappedStores [tg] e X.env = pure none := by rfl)
    (h1 : (assignEach [tg] X.env).map (·.2) = [assign tg X.env] := by rfl) : LS X E (.Assign [tg] e pos) (dUnp we wg) := ps_imp (ps_asg he (lg_up hg) hs hw h1) fun D σ H hu => by
  obtain ⟨ρ, n, B, M, bxs, Dd, h, w1, q⟩ := hu
  refine ⟨ρ, n, B, bxs, _, h.g, h.env, w1, fun r n1 v B1 H1 hq s1 vr fr => ?_⟩
  obtain ⟨y, e2, hq⟩ := onO_ex hq
  obtain ⟨B2, s2, vr2, sb⟩ := fix_r h.g s1 vr fr
  rw [dat_fix e2] at vr2
  have h2 := h.step s2
  exact ⟨bxs, n1, B2, ρ, y, _, h2.g, h2.env, vr2, hq, fun σ' ρ' hq' e' u' => q.nx _ _ _ _ _ _ (h2.upd e' u') hq'⟩
noncomputable def on2 (r : Option (List PyData)) (F : PyData → PyData → Prop) : Prop := match r with
  | some [x, y] => F x y
  | _ => False
theorem on2_ex {r : Option (List PyData)} {F : PyData → PyData → Prop} (h : on2 r F) : ∃ x y, r = some [x, y] ∧ F x y := by
  unfold on2 at h
  split at h
  · exact ⟨_, _, rfl, h⟩
  · exact h.elim
noncomputable def on3 (r : Option (List PyData)) (F : PyData → PyData → PyData → Prop) : Prop := match r with
  | some [x, y, z] => F x y z
  | _ => False
/-- a, b = e1, e2 stored without a tuple -/
noncomputable def dPar2 (i j : Nat) (wr : DA) : DS := fun D ρ n => wr ρ n fun rs n1 => on2 (datas rs) fun x y => D.nx ((ρ.set i (some (.d x))).set j (some (.d y))) n1
noncomputable def dPar3 (i j l : Nat) (wr : DA) : DS := fun D ρ n => wr ρ n fun rs n1 => on3 (datas rs) fun x y z => D.nx (((ρ.set i (some (.d x))).set j (some (.d y))).set l (some (.d z))) n1
variable {y z : Str} {px py pz pt : Pos} {wr : DA} {ea eb ec : Expr} {kt k2 : Nat} {pt2 : Pos}
theorem ls_par2 (i j' : Nat) (hN : X.N.Nodup) (ha : LA X [ea, eb] wr) (hw : swappedStores [.Tuple [.Name x px, .Name y py] kt pt] (.Tuple [ea, eb] k2 pt2) X.env = pure (some [x, y])) (hc : X.calm = true := by rfl) (hi : X.N[i]? = some x := by rfl) (hj : X.N[j']? = some y := by rfl) (hij : i ≠ j' := by decide)
    (hx : X.env.scope.names.lookup x = some .local := by rfl) (hy : X.env.scope.names.lookup y = some .local := by rfl)
    (hs : swapsWithSole [.Tuple [.Name x px, .Name y py] kt pt] (.Tuple [ea, eb] k2 pt2) pos.line X.env = pure false := by rfl) :
    LS X E (.Assign [.Tuple [.Name x px, .Name y py] kt pt] (.Tuple [ea, eb] k2 pt2) pos) (dPar2 i j' wr) := ps_imp (ps_par hc hN hi hj hij hx hy ha hw hs) fun D σ H hu => by
  obtain ⟨ρ, n, B, M, bxs, Dd, h, w1, q⟩ := hu
  refine ⟨ρ, n, B, bxs, _, h.g, h.env, w1, fun rs n1 vs B1 H1 hq s1 vr fr => ?_⟩
  obtain ⟨xd, yd, e2, hq⟩ := on2_ex hq
  have h1 := h.step s1
  cases datas_r _ _ _ vr e2 with
  | cons a1 a2 =>
    cases a2 with
    | cons a3 a4 =>
      cases a4
      refine ⟨_, _, rfl, q.nx _ _ _ _ _ _ ((h1.upd (h1.env.set i a1) (UpdR.set _ _ i _ _)).upd ((h1.env.set i a1).set j' a3) (UpdR.set _ _ j' _ _)) hq⟩
/-- an own list that is only read from here on -/
noncomputable def dFrz (i : Nat) (w : DS) : DS := fun D ρ n => onS ρ[i]? fun xs => w D (ρ.set i (some (.d (.list xs)))) n
end
/-! ### a def by its body -/
noncomputable def startD (N : List Str) (rs : List RV) : DEnv := rs.map some ++ List.replicate (N.length - rs.length) none
theorem argIn_get : ∀ {rs : List RV} {i : Nat} {r : RV}, argsIn rs → rs[i]? = some r → argIn r
  | [], i, r, _, e => by simp at e
  | r :: rs, 0, r', h, e => by
    have e' : r = r' := Option.some.inj e
    subst e'
    exact h.1
  | r :: rs, i + 1, r', h, e => argIn_get (rs := rs) (i := i) h.2 (by simpa using e)
theorem vals_get {K : PySem.W.Frag} {bxs : List Addr} {n : Nat} {B H : Hp} : ∀ {rs : List RV} {vs : List V} {i : Nat} {r : RV}, ValsR K bxs n B H rs vs → rs[i]? = some r → ∃ v, vs[i]? = some v ∧ ValR K bxs n B H r v
  | [], _, i, r, _, e => by simp at e
  | _ :: _, [], _, _, h, _ => h.elim
  | r :: rs, v :: vs, 0, r', h, e => by
    have e' : r = r' := Option.some.inj e
    subst e'
    exact ⟨v, rfl, h.1⟩
  | r :: rs, v :: vs, i + 1, r', h, e => by
    obtain ⟨u, e1, e2⟩ := vals_get (i := i) h.2 (by simpa using e)
    exact ⟨u, by simpa using e1, e2⟩
theorem vals_len {K : PySem.W.Frag} {bxs : List Addr} {n : Nat} {B H : Hp} : ∀ {rs : List RV} {vs : List V}, ValsR K bxs n B H rs vs → rs.length = vs.length
  | [], [], _ => rfl
  | [], _ :: _, h => h.elim
  | _ :: _, [], h => h.elim
  | _ :: rs, _ :: vs, h => by
    rw [List.length_cons, List.length_cons, vals_len h.2]
theorem startD_get {N : List Str} {rs : List RV} {i : Nat} {r : RV} (h : (startD N rs)[i]? = some (some r)) : rs[i]? = some r := by
  unfold startD at h
  by_cases hi : i < rs.length
  · rw [List.getElem?_append_left (by simpa using hi), List.getElem?_map] at h
    cases e : rs[i]? with
    | none => rw [e] at h; cases h
    | some r' =>
      rw [e] at h
      cases h
      rfl
  · rw [List.getElem?_append_right (by simpa using hi), List.getElem?_replicate] at h
    split at h <;> cases h
section
variable {P : Program} {w : World} {K : PySem.W.Frag} {mg : Str → Option Value} {base : Heap}
theorem fng_mk {x qual : Str} {st : Stmt} {f : Addr} {fd : FuncData} {N ps : List Str} {k : Nat} {c : DSp} {wb : DS} (F : Fun K x qual st f fd) (S : FnScope N ps (defScope st))
    (hlen : ∀ rs n Q, c rs n Q → rs.length = ps.length)
    (hbody : ∀ (cdv : Value) (A : Around) (outer : List Env) (s : Shared) (H : Hp) (E : Ent), Here k (A.deeper (envOfC qual (defScope st) s.heap.objs.size f cdv)) → LSs (cxOf CX0 P w K mg base N qual (defScope st) f cdv A outer s H E0).nox E (defBody st) wb)
    (hd : ∀ rs n Qd, argsIn rs → c rs n Qd → wb { nx := fun _ n' => Qd (.d .none) n', rt := Qd } (startD N rs) n) : FnG P w K mg base (k + 1) f fd ps (lift K c) := by
  refine fng_of F S (fun vs H Q E h => ?_) (fun cdv A outer s H vs Q hr hg h => ?_)
  · obtain ⟨rs, n, B, bxs, Qd, g, vr, ai, hc, q⟩ := h
    rw [← vals_len vr]
    exact hlen _ _ _ hc
  · obtain ⟨rs, n, B, bxs, Qd, g, vr, ai, hc, q⟩ := h
    have hl := vals_len vr
    refine ⟨_, hbody cdv A outer s H ⟨B, H, bxs, n⟩ ⟨hr, hg⟩, ?_⟩
    refine ⟨startD N rs, n, B, B, bxs, _, ⟨g.refl, Same.refl _, g, fun b hb => .inl hb, fun b hb => hb, ⟨?_, ?_, ?_, ?_⟩, ?_⟩, hd rs n Qd ai hc, ⟨?_, ?_, ?_, ?_⟩⟩
    · unfold startD L2.start
      rw [List.length_append, List.length_append, List.length_map, List.length_map, List.length_replicate, List.length_replicate, hl]
    · intro i r h
      obtain ⟨v, e1, e2⟩ := vals_get vr (startD_get h)
      refine ⟨v, ?_, e2⟩
      unfold L2.start
      have hi : i < vs.length := (List.getElem?_eq_some_iff.mp e1).1
      rw [List.getElem?_append_left (by simpa using hi), List.getElem?_map, e1]
      rfl
    · intro i j r r' p h1 h2 o1 o2 h3 h4
      have := argIn_get ai (startD_get h1)
      cases r <;> first | exact o1.elim | exact this.elim
    · intro i r h
      have := argIn_get ai (startD_get h)
      cases r <;> first | trivial | exact this.elim
    · intro i r p h1 o1 h2
      have := argIn_get ai (startD_get h1)
      cases r <;> first | exact o1.elim | exact this.elim
    · intro n1 B1 H1 b1 σ1 ρ1 h1 w1
      exact q _ _ _ _ _ w1 trivial h1.st .non trivial
    · intro n1 B1 H1 r v h1 w1
      exact q _ _ _ _ _ w1 h1.2.2.2 h1.1 h1.2.1 h1.2.2.1
    · intro n1 B1 H1 b1 σ1 ρ1 h1 w1
      exact w1.elim
    · intro n1 B1 H1 b1 σ1 ρ1 h1 w1
      exact w1.elim
theorem def_mk {x qual : Str} {st : Stmt} {f : Addr} {fd : FuncData} {N ps : List Str} {k : Nat} {c : DSp} {wb : DS} (F : Fun K x qual st f fd) (S : FnScope N ps (defScope st)) (hm : mg x = some (.ref f)) (hb : Binds K fd ps [])
    (hlen : ∀ rs n Q, c rs n Q → rs.length = ps.length)
    (hbody : ∀ (cdv : Value) (A : Around) (outer : List Env) (s : Shared) (H : Hp) (E : Ent), Here k (A.deeper (envOfC qual (defScope st) s.heap.objs.size f cdv)) → LSs (cxOf CX0 P w K mg base N qual (defScope st) f cdv A outer s H E0).nox E (defBody st) wb)
    (hd : ∀ rs n Qd, argsIn rs → c rs n Qd → wb { nx := fun _ n' => Qd (.d .none) n', rt := Qd } (startD N rs) n) : Def P w K mg base (k + 1) x ps c :=
  ⟨f, fd, fng_mk F S hlen hbody hd, hm, F.kp, hb⟩
end
/-! ### the law -/
noncomputable def spLaw : DSp := fun rs n Q => ∃ ns : List Int, rs = [.d (.list (ns.map PyData.int))] ∧ ns.length ≤ 63 ∧ (∀ z ∈ ns, Builtin.Int.intBits z ≤ 1048576) ∧ n = 0 ∧ ∀ n', Q (.d (.bool true)) n'
theorem law_g {P : Program} {w : World} {K : PySem.W.Frag} {mg mb : Str → Option Value} {k : Nat} {fa a : Addr} {fd : FuncData} {x : Str} {s1 : Shared} {vs : List Value} {ns : List Int}
    (KX : K.In s1.heap) (hns : s1.heap.Ns mainGlobals mg) (hb : s1.heap.Ns builtinsNs mb) (hbb : ∀ x : Str, x ≠ "__name__" → mb x = bootBuiltins x) (hlim : s1.heap.NoLimit) (hsm : Sm s1.heap) (hg : s1.gens = #[])
    (ha : s1.heap.get? a = some { cls := .type "list", data := .seq vs.toArray }) (hi : IntsAre vs ns) (hl : ns.length ≤ sizeLine) (hr : Room k callerA)
    (F : ∀ base : Heap, K.In base → base.Ns mainGlobals mg → Sm base → FnG P w K mg base k fa fd [x] (lift K spLaw)) (hbind : ∀ (s : Shared) (u : Value), BindsTo s fd ⟨[u], []⟩ [(x, u)])
    (h63 : ns.length ≤ 63) (hbits : ∀ z ∈ ns, Builtin.Int.intBits z ≤ 1048576) :
    codeAny (model P w) callerA (.call (.ref fa) ⟨[.ref a], []⟩) (fun r s' => r = .ok (.ret (.bool true)) ∧ OldK s1.heap s'.heap ∧ s'.os = s1.os ∧ AllBare s'.gens) s1 := by
  have relI := vals_ints hi
  have main : ∀ G : Hp, Only G → SqL K G a (ns.map V.int) → HOk P w G s1.heap → (∀ b, G b ≠ none → b = a) → (G a ≠ none → K.lookup a = none) →
      codeAny (model P w) callerA (.call (.ref fa) ⟨[.ref a], []⟩) (fun r s' => r = .ok (.ret (.bool true)) ∧ OldK s1.heap s'.heap ∧ s'.os = s1.os ∧ AllBare s'.gens) s1 := by
    intro G hO hS hok hA hK
    have out : ∀ {b : Addr} {o : Obj}, s1.heap.get? b = some o → G b = none → (hidT s1.heap G).get? b = some o := fun e1 e2 => hidT_get e1 e2
    have noD : ∀ {b : Addr} {o : Obj} {es : Array DictEntry} {ep : Nat}, s1.heap.get? b = some o → o.data = .dict es ep → G b = none := by
      intro b o es ep e1 e2
      cases q : G b with
      | none => rfl
      | some z =>
        obtain rfl := hA b (by rw [q]; simp)
        rw [ha] at e1
        cases e1
        cases e2
    have nsOut : ∀ {b : Addr} {m : Str → Option Value}, s1.heap.Ns b m → (hidT s1.heap G).Ns b m := by
      rintro b m ⟨o, es, ep, e1, e2, r⟩
      exact ⟨o, es, ep, out e1 (noD e1 e2), e2, r⟩
    have kOut : K.In (hidT s1.heap G) := by
      intro b o e1
      refine out (KX b o e1) ?_
      cases q : G b with
      | none => rfl
      | some z =>
        obtain rfl := hA b (by rw [q]; simp)
        rw [hK (by rw [q]; simp)] at e1
        cases e1
    have md : Mod K mg (hidT s1.heap G) := ⟨kOut, nsOut hns, ⟨mb, nsOut hb, hbb⟩, by
      obtain ⟨mc, c1, c2⟩ := hlim
      exact ⟨mc, nsOut c1, c2⟩⟩
    have e0 : Env0 P w K mg (hidT s1.heap G) callerA [] s1 G := ⟨rfl, md, fun b o e => of_hidT e, Nat.le_of_eq (hidT_size _ _), trivial, fun b hb => (nomatch hb), hok, .of_eq hg⟩
    have sp0 : lift K spLaw [.ref a] G (fun v _ => v = .bl true) E0 := by
      refine ⟨[.d (.list (ns.map PyData.int))], 0, G, [], fun r _ => r = .d (.bool true), ⟨Same.refl _, fun b hb => (nomatch hb)⟩, ⟨.lst hS (dpInts ns), trivial⟩, ⟨trivial, trivial⟩, ⟨ns, rfl, h63, hbits, rfl, fun _ => rfl⟩, ?_⟩
      rintro r n1 v B1 H1 rfl _ _ vr _
      cases vr
      rfl
    refine codeAny_mono ((F _ kOut (nsOut hns) (by obtain ⟨o, es, ep, e1, e2⟩ := hsm; exact ⟨o, es, ep, out e1 (noD e1 e2), e2⟩)).run callerA [] s1 G ⟨[.ref a], []⟩ [.ref a] [.ref a] _ hr rfl e0 (hbind s1 (.ref a)) (.cons rfl .nil) sp0) ?_
    intro r s' hq
    cases r with
    | error e => exact False.elim hq
    | ok fl =>
      cases fl with
      | next => exact False.elim hq
      | brk => exact False.elim hq
      | cont => exact False.elim hq
      | ret u =>
        obtain ⟨v, G', os, bare, un, hok', r', q⟩ := hq
        obtain rfl : v = .bl true := q
        obtain rfl : u = Value.bool true := r'
        refine ⟨rfl, OldK.of_keep ?_, os, bare⟩
        intro b o e1
        cases q : G b with
        | none => exact un.keep b o e1 q (fun z => (nomatch z)) (by simp)
        | some z =>
          rcases hO b with y | ⟨ob, xs, y⟩
          · rw [q] at y
            cases y
          · obtain ⟨f1, _⟩ := hok b _ y
            obtain ⟨f2, _⟩ := hok' b _ (un.frzs b ob _ y)
            rw [e1] at f1
            cases f1
            exact f2
  have lenV := hi.length
  cases hk : K.lookup a with
  | some o =>
    have e1 := KX a o hk
    rw [ha] at e1
    cases e1
    refine main (fun _ => none) (fun _ => .inl rfl) (.inr ⟨_, vs.toArray, _, hk, rfl, rfl, rfl, ?_, ?_⟩) (fun b u z => (nomatch z)) (fun b z => absurd rfl z) fun z => absurd rfl z
    · rw [List.size_toArray, lenV]
      exact hl
    · simpa using relI
  | none =>
    refine main (fun b => if b = a then some (.frz { cls := .type "list", data := .seq vs.toArray } (.lst (ns.map V.int))) else none) ?_ (.inl (.inr ⟨_, if_pos rfl⟩)) ?_ ?_ fun _ => hk
    · intro b
      by_cases q : b = a
      · exact .inr ⟨_, _, if_pos q⟩
      · exact .inl (if_neg q)
    · intro b u z
      by_cases q : b = a
      · have y := (if_pos q).symm.trans z
        cases y
        subst q
        refine ⟨ha, ?_, vs, _, relI, ha⟩
        rw [List.length_map]
        exact hl
      · have y := (if_neg q).symm.trans z
        cases y
    · intro b z
      by_cases q : b = a
      · exact q
      · exact absurd (if_neg q) z
/-- the goal behind k_head -/
theorem walk_g {l : PySem.W.OpenLaw} {k : Nat} {q : Program} {loose : List Str} {XP : (Str → Option Value) → Heap → Prop} {YP : World → Heap → Prop} {d : DefRec} {K : Params → PySem.W.Frag} {x : Str}
    (hn : l.most = some 63) (hdf : d.params.defaults = []) (hi : importsNone q = true) (hr : Room k callerA) (hY : ∀ (w : World) (h : Heap), YP w h → (K w.params).In h)
    (F : ∀ (w : World) (mg : Str → Option Value) (fa : Addr) (h : Heap), (K w.params).In h → h.Ns mainGlobals mg → mg d.name = some (.ref fa) →
      ∃ fd : FuncData, (∀ (s : Shared) (u : Value), BindsTo s fd ⟨[u], []⟩ [(x, u)]) ∧ ∀ base : Heap, (K w.params).In base → base.Ns mainGlobals mg → Sm base → FnG l.prog w (K w.params) mg base k fa fd [x] (lift (K w.params) spLaw)) :
    PySem.W.WalkO q loose XP YP l.row.toRowW d [] (fun f vs => PySem.call f vs) := by
  refine Att.attach_callB hn hdf ?_
  intro w s0 s1 mg mb fa o pm cd doc a vs ns G Y ho hd hcd hmg hobj hints hlen hbits hg
  have KX := hY w _ Y
  obtain ⟨fd, hb, hF⟩ := F w mg fa _ KX G.T.g hmg
  exact law_g KX G.T.g G.T.b G.T.builtins G.T.nolimit (by obtain ⟨mm, ⟨o, es, ep, e1, e2, _⟩, _⟩ := (G.T.seer hi).mods; exact ⟨o, es, ep, e1, e2⟩) hg hobj hints (Nat.le_trans hlen (by decide)) hr hF hb hlen hbits
end Dl

namespace Dl
open PySem PySem.Spec PyProof.Rows L2

/-! ### numbers of any size -/
theorem natAbs_lt {i : Int} {a : Nat} (h0 : 0 ≤ i) (h : i < 2 ^ a) : i.natAbs < 2 ^ a := by
  have e : ((2 : Int) ^ a) = ((2 ^ a : Nat) : Int) := by simp
  omega
theorem mulOk {i j : Int} (a b : Nat) (ha : i.natAbs < 2 ^ a) (hb : j.natAbs < 2 ^ b) (h : a + b ≤ 900000 := by decide) (h0 : 0 < a := by decide) (h1 : 0 < b := by decide) : CMulW i j := wide_mul ha hb h0 h1 (by omega)
theorem divOk {i j : Int} (b : Nat) (h : 0 < j) (hb : j < 2 ^ b) (h0 : 0 < b := by decide) (h9 : b ≤ 9000 := by decide) : CDivW i j := wide_div h (natAbs_lt (by omega) hb) h0 h9
noncomputable def CPowW (i j : Int) : Prop := 0 ≤ j ∧ (Builtin.Int.intBits i : Int) * j ≤ 1000000
theorem op_powW {X : Cx} : OpR X (binaryOp .Pow) (rI CPowW fun i j => .int (i ^ j.toNat)) := opI fun i j _ _ _ _ _ hc q => pow_int hc.1 (by
  have := hc.2
  first | omega | (exact Int.le_trans this (by decide))) q
theorem lo_powW {X : Cx} : LOp X (binaryOp .Pow) (wIC CPowW fun i j => i ^ j.toNat) := lo_wIC op_powW

/-! ### boxes -/
theorem box_step {bxs : List Addr} {n : Nat} {B H : Hp} (g : Good bxs n B H) {b : Addr} (hb : b ∈ bxs) {o z : Int} {c : Nat} (h0 : 0 ≤ o) (h1 : o < 2 ^ 1000) (h2 : 0 ≤ z) (h3 : z < 2 ^ 62) (h4 : c ≤ n + 1) :
    Step bxs n (n + 1) B H B (L2.upd H b (.lst [.int o, .int z, .int (c : Int)])) where
  b1 := Same.refl _
  b2 := fun a u h => by
    have na : a ≠ b := fun q => by
      subst q
      rw [(g.box a hb).1] at h
      cases h
    rw [upd_ne na]
    exact g.sub a u h
  b3 := fun _ _ => rfl
  h1 := fun a u ha h => by
    rw [upd_ne (show a ≠ b from fun q => ha (by rw [q]; exact hb))]
    exact h
  bx := fun b' hb' => by
    by_cases q : b' = b
    · subst q
      exact ⟨o, z, c, upd_same, h0, h1, h2, h3, h4⟩
    · refine ((g.box b' hb').2.keep fun u h => ?_).mono (Nat.le_succ _)
      rw [upd_ne q]
      exact h
  nn := Nat.le_succ _
/-- a draw: a number below m -/
noncomputable def spTake : DSp := fun rs n Q => ∃ m : Int, rs = [.box, .d (.int m)] ∧ 0 < m ∧ m < 2 ^ 64 ∧ n < 2 ^ 60 ∧ ∀ k : Int, 0 ≤ k → k < m → Q (.d (.int k)) (n + 1)
/-- a new box -/
noncomputable def spBox : DSp := fun rs n Q => ∃ (ns : List Int) (k : Int), rs = [.d (.list (ns.map PyData.int)), .d (.int k)] ∧ ns.length ≤ 63 ∧ (∀ z ∈ ns, Builtin.Int.intBits z ≤ 1048576) ∧ 0 ≤ k ∧ k ≤ 1000 ∧ Q .nbox n
/-- what the text of a box hands back -/
noncomputable def spBox0 : DSp := fun rs n Q => ∃ (ns : List Int) (k : Int), rs = [.d (.list (ns.map PyData.int)), .d (.int k)] ∧ ns.length ≤ 63 ∧ (∀ z ∈ ns, Builtin.Int.intBits z ≤ 1048576) ∧ 0 ≤ k ∧ k ≤ 1000 ∧
  ∀ o z : Int, 0 ≤ o → o < 2 ^ 1000 → 0 ≤ z → z < 2 ^ 62 → Q (.new [.int o, .int z, .int 0]) n
theorem box_of {P : Program} {w : World} {K : PySem.W.Frag} {mg : Str → Option Value} {base : Heap} {k : Nat} {x : Str} {ps : List Str} (D : Def P w K mg base k x ps spBox0) : Def P w K mg base k x ps spBox := by
  obtain ⟨f, fd, F, r⟩ := D.ex
  have imp : ∀ vs H Q E, lift K spBox vs H Q E → lift K spBox0 vs H Q E := by
    intro vs H Q E h
    obtain ⟨rs, n, B, bxs, Qd, g, vr, ai, ⟨ns, k, e, h1, h2, h3, h4, hq⟩, q⟩ := h
    refine ⟨rs, n, B, bxs, fun r n1 => ∃ o z : Int, 0 ≤ o ∧ o < 2 ^ 1000 ∧ 0 ≤ z ∧ z < 2 ^ 62 ∧ r = .new [.int o, .int z, .int 0] ∧ n1 = n, g, vr, ai, ⟨ns, k, e, h1, h2, h3, h4, fun o z a1 a2 a3 a4 => ⟨o, z, a1, a2, a3, a4, rfl, rfl⟩⟩, ?_⟩
    rintro r n1 v B1 H1 ⟨o, z, a1, a2, a3, a4, rfl, rfl⟩ _ s1 v1 f1
    obtain ⟨p, us, rfl, c1, c2, c3, c4⟩ := v1
    have eu := ofInts [o, z, 0] us c4
    subst eu
    exact q .nbox _ _ B1 H1 hq trivial s1 ⟨p, rfl, c1, c2, o, z, 0, c3, a1, a2, a3, a4, Nat.zero_le _⟩ f1
  exact ⟨f, fd, ⟨fun vs H Q E h => F.len vs H Q E (imp _ _ _ _ h), fun A outer s H args us vs Q hr hg e b v h => F.run A outer s H args us vs Q hr hg e b v (imp _ _ _ _ h)⟩, r⟩
end Dl
namespace Dl
open PySem PySem.Spec PyProof.Rows L2
/-- one statement at a time: the rest is a letter -/
theorem seq_def (w u : DS) (D : DEnds) (ρ : DEnv) (n : Nat) (h : ∀ R : DEnv → Nat → Prop, (∀ ρ n, R ρ n = u D ρ n) → w { D with nx := R } ρ n) : dSeq w u D ρ n := h _ fun _ _ => rfl
theorem if_bool {c : Bool} {A B : Prop} (h1 : c = true → A) (h2 : c = false → B) : if c = true then A else B := by
  cases c with
  | true => exact iteT (h1 rfl)
  | false => exact iteF (h2 rfl)
end Dl

namespace Dl
open PySem PySem.Spec PyProof.Rows L2
theorem atI_of {α : Type} {xs : List α} {i : Int} {x : α} (h0 : 0 ≤ i) (h : xs[i.toNat]? = some x) : atI xs i = some x := by
  have e := atI_nat h
  have e2 : ((i.toNat : Nat) : Int) = i := by omega
  rw [e2] at e
  exact e
theorem range_get {lo : Int} {m i : Nat} {z : PyData} (h : (rangeD lo m)[i]? = some z) : i < m ∧ z = .int (lo + i) := by
  unfold rangeD at h
  rw [List.getElem?_map] at h
  cases e : (List.range m)[i]? with
  | none => rw [e] at h; cases h
  | some j =>
    rw [e] at h
    obtain ⟨h1, h2⟩ := List.getElem?_eq_some_iff.mp e
    rw [List.length_range] at h1
    rw [List.getElem_range] at h2
    subst h2
    exact ⟨h1, (Option.some.inj h).symm⟩
theorem range_len (lo : Int) (m : Nat) : (rangeD lo m).length = m := by
  unfold rangeD
  rw [List.length_map, List.length_range]
end Dl
namespace Dl
open PySem PySem.Spec PyProof.Rows L2
/-! ### how long a repr is -/
mutual
noncomputable def rc : PyData → Nat
  | .none => 4
  | .bool _ => 5
  | .int i => i.natAbs.log2 + 2
  | .str x => (reprText x).length
  | .list xs => 2 + rcAll xs
  | .tuple xs => 4 + rcAll xs
  | .dict kvs => (PyData.shown (.dict kvs)).length
noncomputable def rcAll : List PyData → Nat
  | [] => 0
  | x :: xs => rc x + 2 + rcAll xs
end
theorem app_len (a b : Str) : (a ++ b).length = a.length + b.length := by
  first | exact PySem.Str.length_append a b | exact PySem.StrLaws.length_append a b | simp [Str.length]
theorem textFrom_up : ∀ (ts : List Str) (k : Nat) (acc : Str), (textFrom k acc ts).length ≤ acc.length + piled ts
  | [], k, acc => Nat.le_refl _
  | t :: ts, k, acc => by
    have ih := textFrom_up ts (k + 1) (acc ++ (if k > 0 then ", " else "" : String) ++ t)
    rw [app_len, app_len] at ih
    rw [piled_cons]
    have h2 : (Str.ofString (if k > 0 then ", " else "" : String)).length ≤ 2 := by
      split <;> decide
    show (textFrom (k + 1) (acc ++ (if k > 0 then ", " else "" : String) ++ t) ts).length ≤ _
    omega
theorem ofString_len (s : String) : (Str.ofString s).length = s.length := by
  exact PySem.ofString_length s
mutual
theorem shown_rc : ∀ x : PyData, x.shown.length ≤ rc x
  | .none => by decide
  | .bool b => by cases b <;> decide
  | .int i => by
    show (Str.ofString (toString i)).length ≤ i.natAbs.log2 + 2
    rw [ofString_len]
    exact int_text_length_le (k := i.natAbs.log2 + 1) (Nat.succ_pos _) (Nat.lt_succ_self _)
  | .str s => Nat.le_refl _
  | .list xs => by
    have h := shown_rcAll xs
    show (listText (PyData.shownAll xs)).length ≤ 2 + rcAll xs
    have h2 := textFrom_up (PyData.shownAll xs) 0 "["
    have h3 : (listText (PyData.shownAll xs)).length = (textFrom 0 "[" (PyData.shownAll xs)).length + 1 := by
      unfold listText
      rw [app_len]
      rfl
    have h4 : (Str.ofString "[").length = 1 := by decide
    omega
  | .tuple xs => by
    have h := shown_rcAll xs
    show (tupleText (PyData.shownAll xs)).length ≤ 4 + rcAll xs
    unfold tupleText
    rw [app_len, app_len]
    have h4 : (Str.ofString "(").length = 1 := by decide
    have h5 : (Str.ofString (if (PyData.shownAll xs).length == 1 then ",)" else ")" : String)).length ≤ 2 := by
      split <;> decide
    have h6 : (Str.join ", " (PyData.shownAll xs)).length ≤ piled (PyData.shownAll xs) := by
      cases e : PyData.shownAll xs with
      | nil => exact Nat.le_refl _
      | cons a b =>
        have := join_length_add (a :: b) (by simp)
        omega
    omega
  | .dict kvs => Nat.le_refl _
theorem shown_rcAll : ∀ xs : List PyData, piled (PyData.shownAll xs) ≤ rcAll xs
  | [] => Nat.le_refl _
  | x :: xs => by
    have h1 := shown_rc x
    have h2 := shown_rcAll xs
    unfold PyData.shownAll rcAll
    rw [piled_cons]
    omega
end
/-- a repr of at most c signs, d deep -/
structure RO (c d : Nat) (x : PyData) : Prop where
  sh : x.showable = true
  co : rc x ≤ c
  de : x.depth ≤ d
theorem RO.ok {c d : Nat} {x : PyData} (h : RO c d x) (hc : c ≤ 10000000 := by decide) (hd : d ≤ 60 := by decide) : ReprOk x :=
  ⟨h.sh, Nat.le_trans (shown_rc x) (Nat.le_trans h.co (Nat.le_trans hc (by decide))), Nat.le_trans h.de hd⟩
theorem RO.mono {c d c' d' : Nat} {x : PyData} (h : RO c d x) (hc : c ≤ c') (hd : d ≤ d') : RO c' d' x := ⟨h.sh, Nat.le_trans h.co hc, Nat.le_trans h.de hd⟩
end Dl
namespace Dl
open PySem PySem.Spec PyProof.Rows L2
/-! ### loops, one step at a time -/
theorem for_def (wi : DI) (wg : DG) (wb : DS) (D : DEnds) (ρ : DEnv) (n : Nat) (h : ∀ F : List PyData → Nat → Prop, (∀ items n1, (∃ Inv : Nat → DEnv → Nat → Prop, Inv 0 ρ n1 ∧
  (∀ i ρ n z, Inv i ρ n → items[i]? = some z → wg z ρ fun ρ' => wb { nx := Inv (i + 1), ct := Inv (i + 1), bk := D.nx, rt := D.rt } ρ' n) ∧ ∀ ρ n, Inv items.length ρ n → D.nx ρ n) → F items n1) → wi ρ n F) : dFor wi wg wb D ρ n :=
  h _ fun _ _ q => q
theorem lc_def (wi : DI) (wg : DG) (tt : DT) (we : DE) (vs : List Nat) (ρ : DEnv) (n : Nat) (Q : RV → Nat → Prop) (h : ∀ F : List PyData → Nat → Prop, (∀ items n1, (∃ Inv : Nat → List PyData → Nat → Prop, Inv 0 [] n1 ∧
  (∀ i acc n z, Inv i acc n → items[i]? = some z → wg z (wipeD ρ vs) fun ρ' => tt ρ' n fun b n2 => if b = true then we ρ' n2 fun r n3 => onO (dat r) fun y => acc.length < sizeLine ∧ Inv (i + 1) (acc ++ [y]) n3 else Inv (i + 1) acc n2) ∧
  ∀ acc n, Inv items.length acc n → Q (.new acc) n) → F items n1) → wi ρ n F) : dLc wi wg tt we vs ρ n Q := h _ fun _ _ q => q
theorem size_ok {n : Nat} (h : n ≤ 10000000) : n ≤ sizeLine := Nat.le_trans h (by decide)
theorem size_lt {n : Nat} (h : n ≤ 10000000) : n < sizeLine := Nat.lt_of_le_of_lt h (by decide)
end Dl
namespace Dl
theorem inv3 {α β γ : Type} (P : α → β → γ → Prop) : ∃ I : α → β → γ → Prop, ∀ a b c, I a b c ↔ P a b c := ⟨P, fun _ _ _ => Iff.rfl⟩
end Dl

namespace Dl
open PySem PySem.Spec PyProof.Rows L2
/-! ### tuple * int, all numbers -/
theorem tmul_same (l : Addr) (items : Array Value) (n : Nat) (sl : Array (Option Value)) (dd : Option Addr) (x : Int) (u : Tok) (c0 : (decide (x < -(2 ^ 63)) || decide (x ≥ 2 ^ 63)) = false) (c1 : (items.isEmpty || x == 1) = true) :
    Meets (Builtin.«tuple.__mul__» ⟨[.ref l, .int x u], []⟩) (fun _ R s => s.heap.get? l = some { cls := .type "tuple", dict := dd, data := .seq items n, slots := sl } ∧ R (.ok (.ret (Value.ref l))) s) :=
  .of_wp fun prog w A R s h => by
    obtain ⟨hp, g, d, tk, os⟩ := s
    obtain ⟨hl, h⟩ := h
    have f1 := AutoSeq1.idx_int
    wp_walk using wpAny_loadPart' hl
    repeat (first
      | (refine wpAny_ite_false (decide_eq_false (by rw [c0]; exact Bool.false_ne_true)) ?_; wp_walk using wpAny_loadPart' hl)
      | (refine wpAny_ite_true (decide_eq_true c1) ?_; wp_walk using wpAny_loadPart' hl))
    exact ⟨_, rfl, h⟩
theorem tmul_none (l : Addr) (items : Array Value) (n : Nat) (sl : Array (Option Value)) (dd : Option Addr) (x : Int) (u : Tok) (c0 : (decide (x < -(2 ^ 63)) || decide (x ≥ 2 ^ 63)) = false) (c1 : (items.isEmpty || x == 1) = false) (c2 : (decide (x ≤ 0) || items.isEmpty) = true) :
    Meets (Builtin.«tuple.__mul__» ⟨[.ref l, .int x u], []⟩) (fun _ R s => s.heap.get? l = some { cls := .type "tuple", dict := dd, data := .seq items n, slots := sl } ∧
      R (.ok (.ret (Value.ref s.heap.objs.size))) { s with heap := s.heap.push { cls := Value.type "tuple", data := Data.seq #[] }, toks := s.toks }) :=
  .of_wp fun prog w A R s h => by
    obtain ⟨hp, g, d, tk, os⟩ := s
    obtain ⟨hl, h⟩ := h
    have f1 := AutoSeq1.idx_int
    wp_walk using wpAny_loadPart' hl
    repeat (first
      | (refine wpAny_ite_false (decide_eq_false (by rw [c0]; exact Bool.false_ne_true)) ?_; wp_walk using wpAny_loadPart' hl)
      | (refine wpAny_ite_false (decide_eq_false (by rw [c1]; exact Bool.false_ne_true)) ?_; wp_walk using wpAny_loadPart' hl)
      | (refine wpAny_ite_true (decide_eq_true c2) ?_; wp_walk using wpAny_loadPart' hl))
    exact ⟨_, rfl, h⟩
section
variable {X : Cx}
theorem op_repA : OpR X (binaryOp .Mult) (fun x y H Q => ∃ l k xs, x = .ref l ∧ y = .int k ∧ SqT X.K H l xs ∧ -1000 ≤ k ∧ k ≤ 1000 ∧ (k ≤ 1 ∨ xs = []) ∧ (xs = [] ∨ k = 1 → Q (.ref l) H) ∧ (¬ (xs = [] ∨ k = 1) → ∀ p, H p = none → Q (.ref p) (L2.upd H p (.tup [])))) := by
  intro pins s σ H x y v u Q I rx ry h
  obtain ⟨l, k, xs, rfl, rfl, hT, h1, h2, h3, q1, q2⟩ := h
  cases rx
  obtain ⟨t, rfl⟩ := ry
  obtain ⟨its, r, ⟨⟨cls, dd, data, sl⟩, ho, hc, n, hd⟩, hs⟩ := I.tuple hT
  simp only at hc hd
  subst hc hd
  have c0 : (decide (k < -(2 ^ 63)) || decide (k ≥ 2 ^ 63)) = false := by
    rw [decide_eq_false (by omega), decide_eq_false (by omega)] <;> rfl
  have hem : its.toArray.isEmpty = xs.isEmpty := by
    cases r with
    | nil => rfl
    | cons _ _ => rfl
  by_cases hc1 : xs = [] ∨ k = 1
  · have c1 : (its.toArray.isEmpty || k == 1) = true := by
      rw [hem]
      rcases hc1 with e | e
      · rw [e]; rfl
      · rw [e]; simp
    refine wpAny_binaryOp_repeat_ref (T := "tuple") (U := "int") (by decide) ⟨_, ho, rfl⟩ (fun s' => typeIs_int s' k t) noFill_tuple_mul F.fills_int_mul F.slot_int_rmul repeat_tuple F.slot_int_index.lookup
      (call_meets F.slot_int_rmul (typeIs_int s k t) F.entry_int_rmul (F.args_int_rmul_2 _ _) (int_rmul_tuple k t l its.toArray n dd sl)
        ⟨ho, rfl, ⟨_, ho, rfl⟩, call_meets F.slot_tuple_mul ⟨_, ho, rfl⟩ F.entry_tuple_mul (F.args_tuple_mul_2 _ _) (tmul_same l its.toArray n sl dd k t c0 c1) ⟨ho, ?_⟩⟩)
    exact ⟨.ref l, H, I, rfl, q1 hc1⟩
  · have c1 : (its.toArray.isEmpty || k == 1) = false := by
      rw [hem, Bool.or_eq_false_iff]
      refine ⟨?_, beq_eq_false_iff_ne.mpr fun e => hc1 (.inr e)⟩
      cases xs with
      | nil => exact absurd (.inl rfl) hc1
      | cons a b => rfl
    have c2 : (decide (k ≤ 0) || its.toArray.isEmpty) = true := by
      have : k ≤ 0 := by
        have : k ≠ 1 := fun e => hc1 (.inr e)
        rcases h3 with h3 | h3
        · omega
        · exact absurd (.inl h3) hc1
      rw [decide_eq_true this]
      rfl
    refine wpAny_binaryOp_repeat_ref (T := "tuple") (U := "int") (by decide) ⟨_, ho, rfl⟩ (fun s' => typeIs_int s' k t) noFill_tuple_mul F.fills_int_mul F.slot_int_rmul repeat_tuple F.slot_int_index.lookup
      (call_meets F.slot_int_rmul (typeIs_int s k t) F.entry_int_rmul (F.args_int_rmul_2 _ _) (int_rmul_tuple k t l its.toArray n dd sl)
        ⟨ho, rfl, ⟨_, ho, rfl⟩, call_meets F.slot_tuple_mul ⟨_, ho, rfl⟩ F.entry_tuple_mul (F.args_tuple_mul_2 _ _) (tmul_none l its.toArray n sl dd k t c0 c1 c2) ⟨ho, ?_⟩⟩)
    refine ⟨.ref s.heap.objs.size, _, I.laid (t' := s.toks) (o := .tup []) (fun b ob z => Heap.get?_push_of_some _ z) (Nat.le_refl _) ?_, rfl, q2 hc1 _ (I.hok.fresh (Nat.le_refl _))⟩
    exact ⟨Nat.zero_le _, _, .nil, IsTup.new _ _⟩
/-- times a number: all kinds -/
noncomputable def wMulA : DOp := fun x y Q => match x, y with
  | .int i, .int j => CMulW i j ∧ Q (.d (.int (i * j)))
  | .str z, .int k => (k ≤ 100000 ∧ -100000 ≤ k ∧ z.length ≤ 1000 ∧ z.length * k.toNat ≤ sizeLine) ∧ Q (.d (.str ⟨(List.replicate k.toNat z.cps.toList).flatten.toArray⟩))
  | .list xs, .int k => (-(2 ^ 63) ≤ k ∧ k < 2 ^ 63 ∧ xs.length * k.toNat ≤ sizeLine) ∧ Q (.new (List.replicate k.toNat xs).flatten)
  | .tuple xs, .int k => (-1000 ≤ k ∧ k ≤ 1000 ∧ xs.length ≤ 1000) ∧ Q (.d (.tuple (List.replicate k.toNat xs).flatten))
  | _, _ => False
theorem flat_nil : ∀ n : Nat, (List.replicate n ([] : List PyData)).flatten = []
  | 0 => rfl
  | n + 1 => by
    rw [List.replicate_succ, List.flatten_cons, flat_nil n]
    rfl
theorem lo_mulA : LOp X (binaryOp .Mult) wMulA := by
  obtain ⟨r0, h0, k0⟩ := lo_mul (X := X)
  refine ⟨_, OpR.or h0 (op_repA), fun bxs n B H x y v u Qd Q g dx dy w k => ?_⟩
  cases x <;> cases y <;> try exact w.elim
  · exact .inl (k0 bxs n B H _ _ v u Qd Q g dx dy w k)
  · exact .inl (k0 bxs n B H _ _ v u Qd Q g dx dy w k)
  · exact .inl (k0 bxs n B H _ _ v u Qd Q g dx dy w k)
  · rename_i xs m
    obtain ⟨⟨m0, m1, m2⟩, w⟩ := w
    by_cases hb : xs ≠ [] ∧ 2 ≤ m
    · exact .inl (k0 bxs n B H _ _ v u Qd Q g dx dy ⟨⟨hb.1, hb.2, m1, m2⟩, w⟩ k)
    · obtain ⟨p, vs, rfl, a1, a2⟩ := dx.tuple g.sub
      have hdp : Dp X.K B (.ref p) (.tuple xs) := by
        rcases dx with h | ⟨_, _, _, _, e, _⟩
        · exact h
        · cases e
      by_cases hx : xs = []
      · subst hx
        cases a2
        rw [flat_nil] at w
        exact .inr ⟨p, m, [], rfl, dy.int, a1, m0, m1, .inr rfl, fun _ => k _ _ B H w g.refl hdp trivial, fun z => absurd (.inl rfl) z⟩
      · have h1 : m ≤ 1 := by
          have := hb
          simp only [ne_eq, not_and] at this
          have := this hx
          omega
        refine .inr ⟨p, m, vs, rfl, dy.int, a1, m0, m1, .inl h1, fun z => ?_, fun z q hq => ?_⟩
        · have e1 : m = 1 := by
            rcases z with z | z
            · subst z
              cases a2
              exact absurd rfl hx
            · exact z
          subst e1
          refine k _ _ B H w g.refl ?_ trivial
          have : (List.replicate (Int.toNat 1) xs).flatten = xs := by simp
          rw [this]
          exact hdp
        · have e1 : m.toNat = 0 := by
            have : m ≠ 1 := fun e => z (.inr e)
            omega
          rw [e1] at w
          exact give_tup g .nil w k q hq
/-! ### x += e -/
noncomputable def dAug (i : Nat) (f : Int → Int → Int) (we : DE) : DS := fun D ρ n => match ρ[i]? with
  | some (some (.d (.int a))) => we ρ n fun r n1 => onI r fun b => D.nx (ρ.set i (some (.d (.int (f a b))))) n1
  | _ => False
end
end Dl

namespace Dl
open PySem PySem.Spec PyProof.Rows L2
/-! ### enumerate of a tuple, a text -/
theorem meets_enum1 {v : Value} {o : Obj} {G : Heap → Prop} (B : Begins v o G) :
    Meets (Builtin.«enumerate.__new__» ⟨[.type "enumerate", v], []⟩) (fun _ R s => G s.heap ∧
      R (.ok (.ret (.ref (s.heap.push o).objs.size))) { s with heap := (s.heap.push o).push { cls := .type "enumerate", data := .fields #[.none, .bool false, .ref s.heap.objs.size, rawInt 0, .none, .none] } }) :=
  .of_wp fun prog w A R s h => by
    obtain ⟨hp, g, d, tk, os⟩ := s
    obtain ⟨h1, h⟩ := h
    have hsub := sub_enumerate
    have qit : ∀ {A' : Around} {E : Value → Shared → Prop} {Q : Value → Shared → Prop}, Q (.ref hp.objs.size) ⟨hp.push o, g, d, tk, os⟩ → wpAny (model prog w) A' (pyIter v) Q E ⟨hp, g, d, tk, os⟩ :=
      fun q => B.iter prog w _ _ ⟨hp, g, d, tk, os⟩ _ h1 q
    wp_walk using qit
    refine wpAny_stack_any fun st => wpAny_pure ?_
    split
    · rename_i c _ _ _ _ _
      cases (c == Value.type "enumerate")
      · wp_walk using qit
        exact ⟨_, rfl, h⟩
      · wp_walk using qit
        exact ⟨_, rfl, h⟩
    · wp_walk using qit
      exact ⟨_, rfl, h⟩
theorem call_enum1 {prog : Program} {w : World} {A : Around} {E : Value → Shared → Prop} {s : Shared} {v : Value} {o : Obj} {G : Heap → Prop} {Q : Value → Shared → Prop} (B : Begins v o G) (h1 : G s.heap)
    (h : ∀ h', IsEnum h' (s.heap.objs.size + 1) s.heap.objs.size 0 .none → h'.get? s.heap.objs.size = some o → h'.objs.size = s.heap.objs.size + 2 → (∀ b o, s.heap.get? b = some o → h'.get? b = some o) → Q (.ref (s.heap.objs.size + 1)) { s with heap := h' }) :
    wpAny (model prog w) A (call (.type "enumerate") [v]) Q E s := by
  refine callType_new F.called_enumerate (by decide) (F.typeCall_enumerate_1 _) (F.newCall_enumerate_1 _) (fun obj => F.args_object_init_2 obj _) F.entry_enumerate_new (meets_enum1 B) ⟨h1, ?_⟩
  have hz : (s.heap.push o).objs.size = s.heap.objs.size + 1 := Heap.size_push ..
  show _ ∧ _
  rw [hz]
  have he : IsEnum ((s.heap.push o).push { cls := .type "enumerate", data := .fields #[.none, .bool false, .ref s.heap.objs.size, rawInt 0, .none, .none] }) (s.heap.objs.size + 1) s.heap.objs.size 0 .none := by
    have q := Heap.get?_push_size (s.heap.push o) (o := { cls := .type "enumerate", data := .fields #[.none, .bool false, .ref s.heap.objs.size, rawInt 0, .none, .none] }) rfl
    rw [hz] at q
    exact q
  refine ⟨⟨_, he, rfl⟩, h _ he (Heap.get?_push_of_some _ (Heap.get?_push_size _ B.free)) (by rw [Heap.size_push, hz]) fun b o' y => Heap.get?_push_of_some _ (Heap.get?_push_of_some _ y)⟩
noncomputable def ItEnT (K : PySem.W.Frag) (a : Addr) : It :=
  ⟨fun i H => ∃ (xs : List V) (x : V), SqT K H a xs ∧ xs[i]? = some x, fun i H v H' => ∃ T x, v = .ref T ∧ H T = none ∧ H' = L2.upd H T (.tup [.int (i : Nat), x]) ∧ ∀ xs, SqT K H a xs → xs[i]? = some x, fun i H => ∃ xs : List V, SqT K H a xs ∧ xs.length = i⟩
noncomputable def ItEnS (z : Str) : It :=
  ⟨fun i _ => i < z.cps.size, fun i H v H' => ∃ T c, v = .ref T ∧ H T = none ∧ H' = L2.upd H T (.tup [.int (i : Nat), .str ⟨#[c]⟩]) ∧ z.cps[i]? = some c, fun i _ => z.cps.size = i⟩
theorem turn_enT {P : Program} {w : World} {K : PySem.W.Frag} {elts : List Expr} {kk : Nat} {tpos : Pos} (a e it : Addr) (hei : e ≠ it) (hea : e ≠ a) (hai : a ≠ it) :
    Turn P w K (.Tuple elts kk tpos) (ItEnT K a) [e, it] e (fun i h => (∃ old, IsEnum h e it ((i : Nat) : Int) old) ∧ h.IsTupleIter it a i) where
  mem := by simp
  obj := fun i h st b hb => by
    obtain ⟨⟨old, he⟩, ⟨o, ho, hc, hd⟩⟩ := st
    have e' : b = e ∨ b = it := by simpa using hb
    rcases e' with z | z
    · rw [z]
      exact ⟨_, he, fun v q => nomatch q⟩
    · rw [z]
      exact ⟨o, ho, fun v q => by rw [hd] at q; cases q⟩
  keep := fun i h h' st k => by
    obtain ⟨⟨old, he⟩, hi⟩ := st
    exact ⟨⟨old, k e (by simp) _ he⟩, hi.at fun o q => k it (by simp) o q⟩
  item := by
    intro X hP hw hK hc i pins s σ H E I hf st hg
    subst hP hw hK
    obtain ⟨⟨old, he⟩, hit⟩ := st
    obtain ⟨xs, x, hq, hx⟩ := hg
    obtain ⟨its, rv, p, hz⟩ := I.tuple hq
    obtain ⟨u, hu, ru⟩ := rv.get hx
    have hel : e < s.heap.objs.size := Heap.lt_size he
    have hil : it < s.heap.objs.size := by
      obtain ⟨_, q, _⟩ := hit
      exact Heap.lt_size q
    have hlt : i < its.toArray.size := by
      have := (List.getElem?_eq_some_iff.mp hu).1
      simpa using this
    refine wpAny_pyNext_enum_itemD (Draws.tuple (A := X.A.in1) (show X.A.in1.handled = none from I.ok.hd hc) it a hai its.toArray) he ⟨hit, p⟩ hlt hei (by simp [hei, hea]) fun xv h' tk hxv ho hst hT hsz hk => ?_
    have exu : xv = u := by
      have h1 : its[i]? = some xv := by simpa using hxv
      rw [hu] at h1
      exact (Option.some.inj h1).symm
    subst exu
    refine ⟨_, rfl, wpAny_letOwnedTupleGo_enum (s := { s with heap := h', toks := tk + 1 }) ho fun h2 he2 sb => ?_⟩
    have hT2 : h2.get? s.heap.objs.size = some { cls := .type "tuple", data := .seq #[.int i tk, xv] } := (sb.2 _ (Nat.ne_of_gt hel)).trans hT
    have new : ObjOk X.prog X.w (L2.upd H s.heap.objs.size (.tup [.int (i : Nat), x])) h2 s.heap.objs.size (.tup [.int (i : Nat), x]) :=
      ⟨by show 2 ≤ sizeLine; decide, [.int i tk, xv], .cons ⟨_, rfl⟩ (.cons ru .nil), ⟨_, hT2, rfl, _, rfl⟩⟩
    have J : Inv X pins σ (L2.upd H s.heap.objs.size (.tup [.int (i : Nat), x])) { s with heap := h2, toks := tk + 1 } :=
      I.turnedNew (ch := [e, it]) (fun b ob hb q => (sb.2 b (fun z => hb (by simp [z]))).trans (hk b ob (fun z => hb (by simp [z])) (fun z => hb (by simp [z])) q)) hf (Nat.le_refl _) new
    refine ⟨.ref s.heap.objs.size, _, J, rfl, ⟨_, x, rfl, I.hok.fresh (Nat.le_refl _), rfl, fun ys hy => by rw [I.tuple_inj hy hq]; exact hx⟩, ⟨⟨xv, ?_⟩, hst.1.at fun o q => (sb.2 it (Ne.symm hei)).trans q⟩, fun b hb => ?_⟩
    · have e1 : ((i + 1 : Nat) : Int) = (i : Int) + 1 := by omega
      rw [e1]
      exact he2
    · have hb' : b < s.heap.objs.size := by
        have e' : b = e ∨ b = it := by simpa using hb
        rcases e' with z | z
        · rw [z]; exact hel
        · rw [z]; exact hil
      rw [upd_ne (Nat.ne_of_lt hb')]
      exact (hf b hb).1
  done := by
    intro X hP hw hK hc i pins s σ H E I hf st hg
    subst hP hw hK
    obtain ⟨⟨old, he⟩, hit⟩ := st
    obtain ⟨xs, hq, hx⟩ := hg
    obtain ⟨its, rv, p, hz⟩ := I.tuple hq
    obtain ⟨f0, f1, f2, f3, f4, f5⟩ := hf it (by simp)
    have hl := rv.length
    have hn : i = its.toArray.size := by
      rw [List.size_toArray, ← hl, hx]
    subst hn
    exact wpAny_pyNext_enum_endD (Draws.tuple (A := X.A.in1) (show X.A.in1.handled = none from I.ok.hd hc) it a hai its.toArray) he ⟨hit, p⟩ fun h' eb => ⟨rfl, I.turned (t' := s.toks) (fun b o hb q => eb b o hb q) f0 f1 f3 f4 f5⟩
  self := fun A i s Q E st h => by
    obtain ⟨⟨_, he⟩, _⟩ := st
    exact wpAny_pyIter_enum he h
theorem sit_at {h h' : Heap} {it : Addr} {n : String} {z : Str} {tz : Tok} {i : Nat} (x : h.IsStrIter it n z tz i) (e : ∀ o, h.get? it = some o → h'.get? it = some o) : h'.IsStrIter it n z tz i := by
  obtain ⟨o, ho, r⟩ := x
  exact ⟨o, e o ho, r⟩
theorem turn_enS {P : Program} {w : World} {K : PySem.W.Frag} {elts : List Expr} {kk : Nat} {tpos : Pos} (z : Str) (tz : Tok) (e it : Addr) (hei : e ≠ it) :
    Turn P w K (.Tuple elts kk tpos) (ItEnS z) [e, it] e (fun i h => (∃ old, IsEnum h e it ((i : Nat) : Int) old) ∧ h.IsStrIter it (strIterType z) z tz i) where
  mem := by simp
  obj := fun i h st b hb => by
    obtain ⟨⟨old, he⟩, ⟨o, ho, hc, hd⟩⟩ := st
    have e' : b = e ∨ b = it := by simpa using hb
    rcases e' with q | q
    · rw [q]
      exact ⟨_, he, fun v q => nomatch q⟩
    · rw [q]
      exact ⟨o, ho, fun v q => by rw [hd] at q; cases q⟩
  keep := fun i h h' st k => by
    obtain ⟨⟨old, he⟩, hi⟩ := st
    exact ⟨⟨old, k e (by simp) _ he⟩, sit_at hi fun o q => k it (by simp) o q⟩
  item := by
    intro X hP hw hK hc i pins s σ H E I hf st hg
    subst hP hw hK
    obtain ⟨⟨old, he⟩, hit⟩ := st
    have hel : e < s.heap.objs.size := Heap.lt_size he
    have hil : it < s.heap.objs.size := by
      obtain ⟨_, q, _⟩ := hit
      exact Heap.lt_size q
    refine wpAny_pyNext_enum_itemD (Draws.text (A := X.A.in1) (show X.A.in1.handled = none from I.ok.hd hc) it z tz) he hit hg hei (by simp [hei]) fun xv h' tk hxv ho hst hT hsz hk => ?_
    obtain ⟨c, tu, hc1, rfl⟩ := hxv
    refine ⟨_, rfl, wpAny_letOwnedTupleGo_enum (s := { s with heap := h', toks := tk + 1 }) ho fun h2 he2 sb => ?_⟩
    have hT2 : h2.get? s.heap.objs.size = some { cls := .type "tuple", data := .seq #[.int i tk, .str ⟨#[c]⟩ tu] } := (sb.2 _ (Nat.ne_of_gt hel)).trans hT
    have new : ObjOk X.prog X.w (L2.upd H s.heap.objs.size (.tup [.int (i : Nat), .str ⟨#[c]⟩])) h2 s.heap.objs.size (.tup [.int (i : Nat), .str ⟨#[c]⟩]) :=
      ⟨by show 2 ≤ sizeLine; decide, [.int i tk, .str ⟨#[c]⟩ tu], .cons ⟨_, rfl⟩ (.cons ⟨_, rfl⟩ .nil), ⟨_, hT2, rfl, _, rfl⟩⟩
    have J : Inv X pins σ (L2.upd H s.heap.objs.size (.tup [.int (i : Nat), .str ⟨#[c]⟩])) { s with heap := h2, toks := tk + 1 } :=
      I.turnedNew (ch := [e, it]) (fun b ob hb q => (sb.2 b (fun y => hb (by simp [y]))).trans (hk b ob (fun y => hb (by simp [y])) (fun y => hb (by simp [y])) q)) hf (Nat.le_refl _) new
    refine ⟨.ref s.heap.objs.size, _, J, rfl, ⟨_, c, rfl, I.hok.fresh (Nat.le_refl _), rfl, hc1⟩, ⟨⟨.str ⟨#[c]⟩ tu, ?_⟩, sit_at hst fun o q => (sb.2 it (Ne.symm hei)).trans q⟩, fun b hb => ?_⟩
    · have e1 : ((i + 1 : Nat) : Int) = (i : Int) + 1 := by omega
      rw [e1]
      exact he2
    · have hb' : b < s.heap.objs.size := by
        have e' : b = e ∨ b = it := by simpa using hb
        rcases e' with y | y
        · rw [y]; exact hel
        · rw [y]; exact hil
      rw [upd_ne (Nat.ne_of_lt hb')]
      exact (hf b hb).1
  done := by
    intro X hP hw hK hc i pins s σ H E I hf st hg
    subst hP hw hK
    obtain ⟨⟨old, he⟩, hit⟩ := st
    obtain ⟨f0, f1, f2, f3, f4, f5⟩ := hf it (by simp)
    have hn : z.cps.size = i := hg
    subst hn
    exact wpAny_pyNext_enum_endD (Draws.text (A := X.A.in1) (show X.A.in1.handled = none from I.ok.hd hc) it z tz) he hit fun h' eb => ⟨rfl, I.turned (t' := s.toks) (fun b o hb q => eb b o hb q) f0 f1 f3 f4 f5⟩
  self := fun A i s Q E st h => by
    obtain ⟨⟨_, he⟩, _⟩ := st
    exact wpAny_pyIter_enum he h
noncomputable def tEnumA (K : PySem.W.Frag) (ta : TA) : TI := fun σ H R => ta σ H fun vs H1 =>
  (∃ a xs, vs = [.ref a] ∧ SqL K H1 a xs ∧ R (Ite K a) H1) ∨ (∃ a xs, vs = [.ref a] ∧ SqT K H1 a xs ∧ R (ItEnT K a) H1) ∨ ∃ z, vs = [.str z] ∧ R (ItEnS z) H1
theorem pi_enumA {X : Cx} {e : Expr} {ta : TA} {p pos tpos : Pos} {elts : List Expr} {kk : Nat} (hg : Gl X "enumerate") (hm : X.mg "enumerate" = none) (ha : PA X [e] ta) (hs : starEach [e] X.env = [(false, eval e X.env)] := by rfl) :
    PI X (.Tuple elts kk tpos) (.Call (.Name "enumerate" p) [e] [] pos) (tEnumA X.K ta) := by
  refine ⟨fun pins s σ H R I h => ?_⟩
  refine Call_ (ld_blt I hg hm boot_enumerate (PyProof.Rows.callWith_type1 (thn (ha.run pos pins s σ H _ I h) fun us s1 ⟨vs, H1, I1, r1, q1⟩ => ?_) hs rfl))
  have fp2 : ∀ b ∈ [s1.heap.objs.size + 1, s1.heap.objs.size], FpOk X pins H1 b := fun b hb => by
    have e' : b = s1.heap.objs.size + 1 ∨ b = s1.heap.objs.size := by simpa using hb
    have hle : s1.heap.objs.size ≤ b := by
      rcases e' with z | z
      · rw [z]; exact Nat.le_add_right _ _
      · rw [z]; exact Nat.le_refl _
    exact I1.fpOk hle (I1.hok.fresh hle)
  rcases q1 with ⟨a, xs, rfl, hq, q⟩ | ⟨a, xs, rfl, hq, q⟩ | ⟨z, rfl, q⟩
  · cases r1 with
    | cons r rr =>
      cases rr
      cases r
      obtain ⟨its, rv, pl, hz⟩ := I1.list hq
      refine call_enumerate_list pl.isList fun h' he hit hsz hk => wpAny_pyIter_enum he ?_
      have J : Inv X pins σ H1 { s1 with heap := h' } := I1.kept (t' := s1.toks) hk
      exact ⟨s1.heap.objs.size + 1, [s1.heap.objs.size + 1, s1.heap.objs.size], _, _, H1, rfl, J, turn_enum a (s1.heap.objs.size + 1) s1.heap.objs.size, ⟨⟨.none, he⟩, hit, Nat.succ_ne_self _⟩, fp2, q⟩
  · cases r1 with
    | cons r rr =>
      cases rr
      cases r
      obtain ⟨its, rv, pl, hz⟩ := I1.tuple hq
      have hal : a < s1.heap.objs.size := pl.lt
      refine call_enum1 (begins_tuple a its.toArray) (show s1.heap.IsTuple a its.toArray from pl) fun h' he ho hsz hk => wpAny_pyIter_enum he ?_
      have J : Inv X pins σ H1 { s1 with heap := h' } := I1.kept (t' := s1.toks) hk
      exact ⟨s1.heap.objs.size + 1, [s1.heap.objs.size + 1, s1.heap.objs.size], _, _, H1, rfl, J, turn_enT a (s1.heap.objs.size + 1) s1.heap.objs.size (Nat.succ_ne_self _) (Nat.ne_of_gt (Nat.lt_succ_of_lt hal)) (Nat.ne_of_lt hal), ⟨⟨.none, he⟩, ⟨_, ho, rfl, rfl⟩⟩, fp2, q⟩
  · cases r1 with
    | cons r rr =>
      cases rr
      obtain ⟨tz, rfl⟩ := r
      refine call_enumerate_str fun h' he hit hsz hk => wpAny_pyIter_enum he ?_
      have J : Inv X pins σ H1 { s1 with heap := h' } := I1.kept (t' := s1.toks) hk
      exact ⟨s1.heap.objs.size + 1, [s1.heap.objs.size + 1, s1.heap.objs.size], _, _, H1, rfl, J, turn_enS z tz (s1.heap.objs.size + 1) s1.heap.objs.size (Nat.succ_ne_self _), ⟨⟨.none, he⟩, hit⟩, fp2, q⟩
/-- the items of enumerate -/
noncomputable def enumFrom : Nat → List PyData → List PyData
  | _, [] => []
  | k, x :: xs => .tuple [.int (k : Int), x] :: enumFrom (k + 1) xs
theorem enum_len : ∀ (k : Nat) (xs : List PyData), (enumFrom k xs).length = xs.length
  | _, [] => rfl
  | k, x :: xs => by
    show (enumFrom (k + 1) xs).length + 1 = xs.length + 1
    rw [enum_len (k + 1) xs]
theorem enum_get : ∀ (k : Nat) (xs : List PyData) (i : Nat) (z : PyData), (enumFrom k xs)[i]? = some z → ∃ x, xs[i]? = some x ∧ z = .tuple [.int ((k + i : Nat) : Int), x]
  | _, [], i, z, h => by simp [enumFrom] at h
  | k, x :: xs, 0, z, h => ⟨x, rfl, (Option.some.inj h).symm⟩
  | k, x :: xs, i + 1, z, h => by
    obtain ⟨y, e1, e2⟩ := enum_get (k + 1) xs i z (by simpa [enumFrom] using h)
    refine ⟨y, by simpa using e1, ?_⟩
    rw [e2]
    have : k + 1 + i = k + (i + 1) := by omega
    rw [this]
noncomputable def dEnum (w : DA) : DI := fun ρ n Q => w ρ n fun rs n1 => match rs with
  | [.d x] => onO (itemsOf x) fun ys => Q (enumFrom 0 ys) n1
  | _ => False
theorem itr_en {K : PySem.W.Frag} {B : Hp} {xs : List PyData} {J : It} (go : ∀ i H, Same B H → i < xs.length → J.go i H) (stop : ∀ H, Same B H → J.stop xs.length H)
    (yl : ∀ i H v H' x, Same B H → J.yld i H v H' → xs[i]? = some x → ∃ T y, v = .ref T ∧ H T = none ∧ H' = L2.upd H T (.tup [.int (i : Nat), y]) ∧ Dp K B y x) : ItR K B (enumFrom 0 xs) J where
  go := fun i H sm hi => go i H sm (by rw [enum_len] at hi; exact hi)
  stop := fun H sm => by rw [enum_len]; exact stop H sm
  yld := fun i H x H' z sm hy hz => by
    obtain ⟨y, e1, e2⟩ := enum_get 0 xs i z hz
    obtain ⟨T, u, rfl, hT, rfl, hd⟩ := yl i H x H' y sm hy e1
    rw [Nat.zero_add] at e2
    exact .inr ⟨T, _, _, rfl, e2, hT, rfl, .cons (.int _) (.cons hd .nil)⟩
theorem li_enum {X : Cx} {e : Expr} {wr : DA} {p pos tpos : Pos} {elts : List Expr} {kk : Nat} (hg : Gl X "enumerate") (hm : X.mg "enumerate" = none) (ha : LA X [e] wr) (hs : starEach [e] X.env = [(false, eval e X.env)] := by rfl) :
    LI X (.Tuple elts kk tpos) (.Call (.Name "enumerate" p) [e] [] pos) (dEnum wr) := pi_imp (pi_enumA hg hm ha hs) fun σ H R hu => by
  obtain ⟨ρ, n, B, bxs, Qd, g, e, w1, q⟩ := hu
  refine ⟨ρ, n, B, bxs, _, g, e, w1, fun rs n1 vs B1 H1 hq s1 vr f1 => ?_⟩
  have g1 := g.step s1
  split at hq
  · rename_i x
    obtain ⟨ys, ei, hq⟩ := onO_ex hq
    obtain ⟨v, rfl, hd⟩ : ∃ v, vs = [v] ∧ Dp X.K B1 v x := by
      match vs, vr with
      | [v], h => exact ⟨v, rfl, h.1⟩
    cases x with
    | none => cases ei
    | bool _ => cases ei
    | int _ => cases ei
    | dict _ => cases ei
    | str z =>
      cases ei
      cases hd
      refine .inr (.inr ⟨z, rfl, q _ _ _ _ _ hq s1 (itr_en (fun i H _ hi => by show i < z.cps.size; simpa using hi) (fun H _ => by show z.cps.size = _; simp) fun i H v H' y sm hy he => ?_)⟩)
      obtain ⟨T, c, rfl, hT, rfl, hc⟩ := hy
      refine ⟨T, _, rfl, hT, rfl, ?_⟩
      rw [List.getElem?_map, Array.getElem?_toList, hc] at he
      cases he
      exact .str _
    | list xs =>
      cases ei
      cases hd with
      | lst h1 h2 =>
        have hl := dpLen _ _ h2
        refine .inl ⟨_, _, rfl, g1.sub.seq h1, q _ _ _ _ _ hq s1 (itr_en (fun i H sm hi => ⟨_, _, sm.seq h1, List.getElem?_eq_getElem (by rw [hl]; exact hi)⟩) (fun H sm => ⟨_, sm.seq h1, by rw [hl]; exact Nat.le_refl _⟩) fun i H v H' y sm hy he => ?_)⟩
        obtain ⟨T, u, rfl, hT, rfl, hu⟩ := hy
        obtain ⟨v, e1, e2⟩ := dpGet _ _ _ _ h2 he
        have e3 := hu _ (sm.seq h1)
        rw [e1] at e3
        cases e3
        exact ⟨T, _, rfl, hT, rfl, e2⟩
    | tuple xs =>
      cases ei
      cases hd with
      | tup h1 h2 =>
        have hl := dpLen _ _ h2
        refine .inr (.inl ⟨_, _, rfl, seqT g1.sub h1, q _ _ _ _ _ hq s1 (itr_en (fun i H sm hi => ⟨_, _, seqT sm h1, List.getElem?_eq_getElem (by rw [hl]; exact hi)⟩) (fun H sm => ⟨_, seqT sm h1, hl⟩) fun i H v H' y sm hy he => ?_)⟩)
        obtain ⟨T, u, rfl, hT, rfl, hu⟩ := hy
        obtain ⟨v, e1, e2⟩ := dpGet _ _ _ _ h2 he
        have e3 := hu _ (seqT sm h1)
        rw [e1] at e3
        cases e3
        exact ⟨T, _, rfl, hT, rfl, e2⟩
  · exact hq.elim
end Dl

namespace Dl
open PySem PySem.Spec PyProof.Rows L2
/-! ### comprehensions that reckon the same at every time -/
theorem lc_filter {wg : DG} {tt : DT} {we : DE} {vs : List Nat} {ρ : DEnv} {n : Nat} {Q : List PyData → Nat → Prop} {items : List PyData} (t : Nat → Bool) (f : Nat → PyData) (hl : items.length ≤ 10000000)
    (turn : ∀ (i : Nat) (z : PyData) (J : List PyData → Nat → Prop) (acc : List PyData), items[i]? = some z → acc.length < sizeLine → (t i = true → J (acc ++ [f i]) n) → (t i = false → J acc n) →
      wg z (wipeD ρ vs) fun ρ' => tt ρ' n fun b n2 => if b = true then we ρ' n2 fun r n3 => onO (dat r) fun y => acc.length < sizeLine ∧ J (acc ++ [y]) n3 else J acc n2)
    (hq : Q (((List.range items.length).filter t).map f) n) :
    ∃ Inv : Nat → List PyData → Nat → Prop, Inv 0 [] n ∧
      (∀ i acc n z, Inv i acc n → items[i]? = some z → wg z (wipeD ρ vs) fun ρ' => tt ρ' n fun b n2 => if b = true then we ρ' n2 fun r n3 => onO (dat r) fun y => acc.length < sizeLine ∧ Inv (i + 1) (acc ++ [y]) n3 else Inv (i + 1) acc n2) ∧
      ∀ acc n, Inv items.length acc n → Q acc n := by
  refine ⟨fun i acc m => m = n ∧ acc = ((List.range i).filter t).map f, ⟨rfl, rfl⟩, ?_, ?_⟩
  · rintro i acc m z ⟨rfl, rfl⟩ hz
    have hi : i < items.length := (List.getElem?_eq_some_iff.mp hz).1
    have hlen : (((List.range i).filter t).map f).length < sizeLine := by
      rw [List.length_map]
      have := List.length_filter_le t (List.range i)
      rw [List.length_range] at this
      exact Nat.lt_of_le_of_lt this (size_lt (by omega))
    refine turn i z (fun acc m' => m' = m ∧ acc = ((List.range (i + 1)).filter t).map f) _ hz hlen (fun ht => ⟨rfl, ?_⟩) (fun ht => ⟨rfl, ?_⟩)
    · rw [List.range_succ, List.filter_append, List.map_append]
      simp [ht]
    · rw [List.range_succ, List.filter_append, List.map_append]
      simp [ht]
  · rintro acc m ⟨rfl, rfl⟩
    exact hq
theorem lc_map {wg : DG} {tt : DT} {we : DE} {vs : List Nat} {ρ : DEnv} {n : Nat} {Q : List PyData → Nat → Prop} {items : List PyData} (f : Nat → PyData) (hl : items.length ≤ 10000000)
    (turn : ∀ (i : Nat) (z : PyData) (J : List PyData → Nat → Prop) (acc : List PyData), items[i]? = some z → acc.length < sizeLine → J (acc ++ [f i]) n →
      wg z (wipeD ρ vs) fun ρ' => tt ρ' n fun b n2 => if b = true then we ρ' n2 fun r n3 => onO (dat r) fun y => acc.length < sizeLine ∧ J (acc ++ [y]) n3 else J acc n2)
    (hq : Q ((List.range items.length).map f) n) :
    ∃ Inv : Nat → List PyData → Nat → Prop, Inv 0 [] n ∧
      (∀ i acc n z, Inv i acc n → items[i]? = some z → wg z (wipeD ρ vs) fun ρ' => tt ρ' n fun b n2 => if b = true then we ρ' n2 fun r n3 => onO (dat r) fun y => acc.length < sizeLine ∧ Inv (i + 1) (acc ++ [y]) n3 else Inv (i + 1) acc n2) ∧
      ∀ acc n, Inv items.length acc n → Q acc n := by
  refine lc_filter (fun _ => true) f hl (fun i z J acc hz ha h1 _ => turn i z J acc hz ha (h1 rfl)) ?_
  rw [List.filter_eq_self.mpr fun _ _ => rfl]
  exact hq
/-- all of the runs are right -/
theorem lc_all_true {wg : DG} {we : DE} {vs : List Nat} {ρ : DEnv} {n : Nat} {Q : List PyData → Nat → Prop} {items : List PyData} (k : Nat) (hl : items.length ≤ 10000)
    (turn : ∀ (i : Nat) (z : PyData) (J : List PyData → Nat → Prop) (acc : List PyData) (m : Nat), items[i]? = some z → i < items.length → m ≤ n + k * i → acc.length < sizeLine → (∀ m', m' ≤ n + k * (i + 1) → J (acc ++ [.bool true]) m') →
      wg z (wipeD ρ vs) fun ρ' => dYes ρ' m fun b n2 => if b = true then we ρ' n2 fun r n3 => onO (dat r) fun y => acc.length < sizeLine ∧ J (acc ++ [y]) n3 else J acc n2)
    (hq : ∀ m, m ≤ n + k * items.length → Q (List.replicate items.length (.bool true)) m) :
    ∃ Inv : Nat → List PyData → Nat → Prop, Inv 0 [] n ∧
      (∀ i acc n z, Inv i acc n → items[i]? = some z → wg z (wipeD ρ vs) fun ρ' => dYes ρ' n fun b n2 => if b = true then we ρ' n2 fun r n3 => onO (dat r) fun y => acc.length < sizeLine ∧ Inv (i + 1) (acc ++ [y]) n3 else Inv (i + 1) acc n2) ∧
      ∀ acc n, Inv items.length acc n → Q acc n := by
  refine ⟨fun i acc m => m ≤ n + k * i ∧ acc = List.replicate i (.bool true), ⟨by omega, rfl⟩, ?_, ?_⟩
  · rintro i acc m z ⟨hm, rfl⟩ hz
    have hi : i < items.length := (List.getElem?_eq_some_iff.mp hz).1
    exact turn i z (fun acc m' => m' ≤ n + k * (i + 1) ∧ acc = List.replicate (i + 1) (.bool true)) _ m hz hi hm (by rw [List.length_replicate]; exact size_lt (by omega)) fun m' hm' => ⟨hm', by rw [List.replicate_succ']⟩
  · rintro acc m ⟨hm, rfl⟩
    exact hq m hm
end Dl


namespace Dl
open PySem PySem.Spec PyProof.Rows L2
/-! ### while (x := e) op f -/
/-! ### zip of two lists or two tuples -/
noncomputable def zipD : List PyData → List PyData → List PyData
  | x :: xs, y :: ys => .tuple [x, y] :: zipD xs ys
  | _, _ => []
theorem zip_len : ∀ (xs ys : List PyData), (zipD xs ys).length = min xs.length ys.length
  | [], _ => by simp [zipD]
  | _ :: _, [] => by simp [zipD]
  | x :: xs, y :: ys => by
    show (zipD xs ys).length + 1 = min (xs.length + 1) (ys.length + 1)
    rw [zip_len xs ys]
    omega
theorem zip_get : ∀ (xs ys : List PyData) (i : Nat) (z : PyData), (zipD xs ys)[i]? = some z → ∃ x y, xs[i]? = some x ∧ ys[i]? = some y ∧ z = .tuple [x, y]
  | [], _, i, z, h => by simp [zipD] at h
  | _ :: _, [], i, z, h => by simp [zipD] at h
  | x :: xs, y :: ys, 0, z, h => ⟨x, y, rfl, rfl, (Option.some.inj h).symm⟩
  | x :: xs, y :: ys, i + 1, z, h => by
    obtain ⟨u, v, e1, e2, e3⟩ := zip_get xs ys i z (by simpa [zipD] using h)
    exact ⟨u, v, by simpa using e1, by simpa using e2, e3⟩
noncomputable def dZip (w : DA) : DI := fun ρ n Q => w ρ n fun rs n1 => match rs with
  | [.d (.list xs), .d (.list ys)] => Q (zipD xs ys) n1
  | [.d (.tuple xs), .d (.tuple ys)] => Q (zipD xs ys) n1
  | _ => False
end Dl

namespace Dl
open PySem PySem.Spec PyProof.Rows L2
/-! ### x[::-1] of a list, a tuple; x[lo:hi:step] of a text -/
section
variable {prog : Program} {w : World} {A : Around} {E : Value → Shared → Prop} {s : Shared}
theorem sliceApplied_rev {sl : Addr} {n : Nat} {Q : Int × Int × Nat → Shared → Prop} {vs : Value} (hs : s.heap.IsSliceOf sl .none .none vs) (ps : IsPart vs (some (-1)))
    (h : Q ((n : Int) - 1, -1, n) s) : wpAny (model prog w) A (Builtin.Slice.sliceApplied (.ref sl) (pure (n : Int))) Q E s := by
  obtain ⟨os, hos, hcs, hds⟩ := id hs
  unfold Builtin.Slice.sliceApplied Builtin.Slice.sliceFields
  refine wpAny_bind (wpAny_bind (wpAny_field hos hds (x := .none) rfl (wpAny_bind (wpAny_field hos hds (x := .none) rfl (wpAny_bind (wpAny_field hos hds (x := vs) rfl (wpAny_pure ?_)))))))
  refine wpAny_bind (HT.slicePart_ ps ?_)
  show wpAny _ _ (if ((-1 : Int) == 0) = true then _ else _) _ _ s
  rw [if_neg (by decide)]
  refine wpAny_bind (HT.slicePart_ .none (wpAny_bind (HT.slicePart_ .none (wpAny_bind (wpAny_pure ?_)))))
  show wpAny _ _ (pure (((n : Int) - 1), (-1 : Int), Builtin.Slice.slicePlaces ((n : Int) - 1) (-1) (-1))) _ _ s
  have e : Builtin.Slice.slicePlaces ((n : Int) - 1) (-1) (-1) = n := by
    unfold Builtin.Slice.slicePlaces
    rw [if_neg (by decide)]
    split
    · rw [show (- -1 : Int) = 1 by decide, Int.ediv_one]; omega
    · omega
  rw [e]
  exact wpAny_pure h
theorem fm_congr {α β : Type} {f g : α → Option β} : ∀ {l : List α}, (∀ x ∈ l, f x = g x) → l.filterMap f = l.filterMap g
  | [], _ => rfl
  | x :: l, h => by
    rw [List.filterMap_cons, List.filterMap_cons, h x (.head _), fm_congr fun y hy => h y (.tail _ hy)]
theorem pick_rev (xs : Array Value) : ((List.range xs.size).filterMap fun (k : Nat) => xs[((xs.size : Int) - 1 + (k : Int) * -1).toNat]?).toArray = xs.toList.reverse.toArray := by
  have e1 : (List.range xs.size).filterMap (fun (k : Nat) => xs[((xs.size : Int) - 1 + (k : Int) * -1).toNat]?) = ((List.range xs.size).map fun k => xs.size - 1 - k).filterMap (xs[·]?) := by
    rw [List.filterMap_map]
    refine fm_congr fun k hk => ?_
    have := List.mem_range.mp hk
    show xs[_]? = xs[_]?
    rw [show ((xs.size : Int) - 1 + (k : Int) * -1).toNat = xs.size - 1 - k by omega]
  rw [e1, PySem.W.krv_range, List.filterMap_reverse, PySem.W.krv_all]
theorem getItem_tuple_rev {t sl : Addr} {items : Array Value} {vs : Value} {Q : Value → Shared → Prop} (ht : IsTup s.heap t items) (hs : s.heap.IsSliceOf sl .none .none vs) (ps : IsPart vs (some (-1)))
    (h : Q (.ref s.heap.objs.size) { s with heap := s.heap.push { cls := .type "tuple", data := .seq items.toList.reverse.toArray } }) (hsz : items.size ≤ sizeLine) : wpAny (model prog w) A (getItem (.ref t) (.ref sl)) Q E s := by
  have htake : sizeOk (.seq items.toList.reverse.toArray) := by
    show items.toList.reverse.toArray.size ≤ sizeLine
    rw [List.size_toArray, List.length_reverse, Array.length_toList]
    exact hsz
  obtain ⟨os, hos, hcs, hds⟩ := id hs
  have hTs : s.TypeIs (.ref sl) "slice" := ⟨os, hos, hcs⟩
  unfold getItem
  try with_reducible refine wpAny_holding ?_
  first | refine wpAny_bind (wpAny_pure ?_) | skip
  refine wpAny_bind (wpAny_sequenceKey ht.typeIs (by decide) ?_)
  refine wpAny_bind (wpAny_callSpecial?_slot (name := Str.ofString "__getitem__") ht.typeIs PyProof.Rows.slot_tuple_getitem
    (wpAny_call_entry PyProof.Rows.slot_tuple_getitem ht.typeIs PyProof.Rows.entry_tuple_getitem ?_ (PyProof.Rows.args_tuple_getitem _ _)))
  show wpAny _ _ (Builtin.Tuple.tupleItemsOf (.ref t) >>= _) _ _ s
  refine wpAny_bind (tupleItemsOf_ ht ?_)
  refine wpAny_bind (wpAny_typeOf hTs ?_)
  rw [if_pos (by decide)]
  refine wpAny_bind (sliceApplied_rev hs ps ?_)
  have hno : ¬ ((((items.size : Int) - 1) == 0 && (-1 : Int) == 1 && items.size == items.size) = true) := by
    intro q
    rw [Bool.and_eq_true, Bool.and_eq_true] at q
    exact absurd q.1.2 (by decide)
  show wpAny _ _ (if ((((items.size : Int) - 1) == 0 && (-1 : Int) == 1 && items.size == items.size)) = true then _ else _) _ _ s
  rw [if_neg hno, pick_rev]
  first
    | exact wpAny_bind (m := Builtin.Tuple.tupleExact _) (wpAny_newObj_type (wpAny_pure ⟨_, rfl, wpAny_pure h⟩) htake)
    | exact wpAny_bind (m := Builtin.Tuple.tupleExact _) (wpAny_newObj_type (wpAny_bind (wpAny_pure (wpAny_pure ⟨_, rfl, wpAny_pure h⟩))) htake)
    | exact wpAny_bind (wpAny_bind (m := Builtin.Tuple.tupleExact _) (wpAny_newObj_type (wpAny_pure (wpAny_pure ⟨_, rfl, wpAny_pure h⟩)) htake))
    | exact wpAny_bind (wpAny_bind (m := Builtin.Tuple.tupleExact _) (wpAny_newObj_type (wpAny_pure ⟨_, rfl, wpAny_pure h⟩) htake))
end
noncomputable def stepS (z : Str) (lo hi : Option Int) (st : Int) : Str := Txt.sliceBy z (lo.map (·, 0)) (hi.map (·, 0)) (st, 0)
section
variable {X : Cx}
noncomputable def rStep (K : PySem.W.Frag) : V → Option Int → Option Int → Int → Hp → VK → Prop := fun x lo hi st H Q =>
  (∃ a xs, x = .ref a ∧ lo = none ∧ hi = none ∧ st = -1 ∧ SqL K H a xs ∧ ∀ p, H p = none → Q (.ref p) (upd H p (.lst xs.reverse))) ∨
  (∃ a xs, x = .ref a ∧ lo = none ∧ hi = none ∧ st = -1 ∧ SqT K H a xs ∧ ∀ p, H p = none → Q (.ref p) (upd H p (.tup xs.reverse))) ∨
  ∃ z, x = .str z ∧ st ≠ 0 ∧ z.length ≤ sizeLine ∧ Q (.str (stepS z lo hi st)) H
noncomputable def tStep (K : PySem.W.Frag) (te : TE) (tl th ts : TO) : TE := fun σ H Q => te σ H fun x H1 => tl σ H1 fun l H2 => th σ H2 fun u H3 => ts σ H3 fun c H4 => ∃ st, c = some st ∧ rStep K x l u st H4 Q
theorem pe_step {e ex : Expr} {lo hi : Option Expr} {te : TE} {tl th ts : TO} {p2 pos : Pos} (he : PE X e te) (hl : PO X lo tl) (hu : PO X hi th) (hst : PO X (some ex) ts)
    (hb1 : ∀ a b c : Value, True := by intros; trivial) : PE X (.Subscript e (.Slice lo hi (some ex) p2) pos) (tStep X.K te tl th ts) := by
  refine ⟨fun pins s σ H Q I h => ?_⟩
  refine Subscript_ (thn (he.run pins s σ H _ I h) fun v s1 ⟨x, H1, I1, r1, q1⟩ => ?_)
  refine wpAny_Slice (thn (hl.run pins s1 σ H1 _ I1 q1) fun vl s2 ⟨l, H2, I2, pl, q2⟩ => thn (hu.run pins s2 σ H2 _ I2 q2) fun vu s3 ⟨u, H3, I3, pu, q3⟩ => ?_)
  refine thn (hst.run pins s3 σ H3 _ I3 q3) fun vs s4 ⟨o, H4, I4, ps, st, eo, q4⟩ => ?_
  subst eo
  have I5 : Inv X pins σ H4 { s4 with heap := s4.heap.push { cls := .type "slice", data := .fields #[vl, vu, vs] } } := I4.kept (t' := s4.toks) fun b ob q => Heap.get?_push_of_some _ q
  show wpAny (model X.prog X.w) X.A (subscriptTail e (.Slice lo hi (some ex) p2) v (.ref s4.heap.objs.size)) (EP X pins σ Q) X.xe { s4 with heap := s4.heap.push { cls := .type "slice", data := .fields #[vl, vu, vs] } }
  rcases q4 with ⟨a, xs, rfl, rfl, rfl, rfl, hx, q⟩ | ⟨a, xs, rfl, rfl, rfl, rfl, hx, q⟩ | ⟨z, rfl, h0, hz, q⟩
  · cases r1
    obtain ⟨its, r, ht, hz⟩ := I5.list hx
    have hlen := r.length
    refine tail_any (ops := [.ref a, .ref s4.heap.objs.size]) ht.isList.typeIs (PySem.slot_list_getitem.lookup) ?_ (by with_unfolding_all rfl)
    refine wpAny_getItem_list_slice ht.isList (Heap.IsSliceOf.new _ vl vu vs) pl pu ps (by decide) ?_ (by rw [List.size_toArray]; omega)
    rw [PySem.W.krv_pick]
    refine ⟨.ref _, _, I5.laid (t' := s4.toks) (o := .lst xs.reverse) (fun b ob q => Heap.get?_push_of_some _ q) (Nat.le_refl _) ?_, rfl, q _ (I5.hok.fresh (Nat.le_refl _))⟩
    exact ⟨by rw [List.length_reverse]; exact hz, _, 0, r.reverse, Heap.get?_push_size _ rfl⟩
  · cases r1
    cases pl
    cases pu
    obtain ⟨its, r, ht, hz⟩ := I5.tuple hx
    have hlen := r.length
    refine tail_any (ops := [.ref a, .ref s4.heap.objs.size]) ht.typeIs PyProof.Rows.slot_tuple_getitem.lookup ?_ (by with_unfolding_all rfl)
    refine getItem_tuple_rev ht (Heap.IsSliceOf.new _ .none .none vs) ps ?_ (by rw [List.size_toArray]; omega)
    refine ⟨.ref _, _, I5.laid (t' := s4.toks) (o := .tup xs.reverse) (fun b ob q => Heap.get?_push_of_some _ q) (Nat.le_refl _) ?_, rfl, q _ (I5.hok.fresh (Nat.le_refl _))⟩
    exact ⟨by rw [List.length_reverse]; exact hz, _, r.reverse, IsTup.new _ _⟩
  · obtain ⟨t, rfl⟩ := r1
    obtain ⟨l', rfl, rfl⟩ := IsPart.raw pl
    obtain ⟨u', rfl, rfl⟩ := IsPart.raw pu
    obtain ⟨st', rfl, est⟩ := IsPart.raw ps
    refine tail_any (ops := [.str z t, .ref s4.heap.objs.size]) (typeIs_str _ _ _) F.slot_str_getitem.lookup ?_ (by with_unfolding_all rfl)
    cases st' with
    | none => cases est
    | some c =>
      obtain ⟨c, ct⟩ := c
      have est' : st = c := (Option.some.inj est).symm
      subst est'
      refine wpAny_getItem_str_slice (l := l') (u := u') (st := some (st, ct)) ⟨_, Heap.get?_push_size _ rfl, rfl, rfl⟩ (by simpa using h0) ?_
      have hle : (Txt.sliceBy z l' u' (st, ct)).length ≤ z.length := Txt.sliceBy_le z l' u' (st, ct) h0
      have ee : stepS z (l'.map (·.1)) (u'.map (·.1)) st = Txt.sliceBy z l' u' (st, ct) := by
        unfold stepS
        cases l' <;> cases u' <;> rfl
      rw [ee] at q
      unfold Txt.sliceBy at q hle
      unfold sliceMade
      by_cases hc : (((some (st, ct)).map (·.1)).getD 1 == 1 && (slicePicked z l' u' (some (st, ct))).length == z.length) = true
      · rw [if_pos hc] at q ⊢
        exact ⟨.str z, H4, I5, ⟨t, rfl⟩, q⟩
      · rw [if_neg hc] at q hle ⊢
        exact ⟨Nat.le_trans hle hz, .str _, H4, I5.tok _, ⟨_, rfl⟩, q⟩
variable {a ex : Expr} {lo hi : Option Expr} {wa : DE} {wl wh ws : DO} {pos p2 : Pos}
noncomputable def wStep (x : PyData) (lo hi : Option Int) (st : Int) (Q : RV → Prop) : Prop := match x with
  | .list xs => lo = none ∧ hi = none ∧ st = -1 ∧ Q (.new xs.reverse)
  | .tuple xs => lo = none ∧ hi = none ∧ st = -1 ∧ Q (.d (.tuple xs.reverse))
  | .str z => st ≠ 0 ∧ z.length ≤ sizeLine ∧ Q (.d (.str (stepS z lo hi st)))
  | _ => False
noncomputable def dStep (wa : DE) (wl wh ws : DO) : DE := fun ρ n Q => wa ρ n fun r n1 => wl ρ n1 fun lo n2 => wh ρ n2 fun hi n3 => ws ρ n3 fun c n4 => onO c fun st => onO (view r) fun x => wStep x lo hi st fun r' => Q r' n4
theorem dpRev {K : PySem.W.Frag} {B : Hp} : ∀ (xs : List PyData) (vs : List V), DpAll K B vs xs → DpAll K B vs.reverse xs.reverse
  | [], vs, h => by cases h; exact .nil
  | x :: xs, vs, h => by
    cases h with
    | cons h1 h2 =>
      rw [List.reverse_cons, List.reverse_cons]
      exact dpApp _ _ _ _ (dpRev xs _ h2) (.cons h1 .nil)
theorem le_step (ha : LE X a wa) (hl : LO X lo wl) (hh : LO X hi wh) (hs : LO X (some ex) ws) : LE X (.Subscript a (.Slice lo hi (some ex) p2) pos) (dStep wa wl wh ws) := by
  refine pe_imp (pe_step ha hl hh hs) fun σ H Q hu => ?_
  obtain ⟨ρ, n, B, bxs, Qd, g, e, w1, q⟩ := hu
  refine ⟨ρ, n, B, bxs, _, g, e, w1, fun r n1 v B1 H1 hq s1 vr f1 => ?_⟩
  refine ⟨ρ, n1, B1, bxs, _, g.step s1, e.step s1, hq, fun lo n2 B2 H2 hq s2 => ?_⟩
  have s12 := s1.trans s2
  refine ⟨ρ, n2, B2, bxs, _, g.step s12, e.step s12, hq, fun hi n3 B3 H3 hq s3 => ?_⟩
  have s13 := s12.trans s3
  refine ⟨ρ, n3, B3, bxs, _, g.step s13, e.step s13, hq, fun c n4 B4 H4 hq s4 => ?_⟩
  have s14 := s13.trans s4
  have g4 := g.step s14
  obtain ⟨st, rfl, hq2⟩ := onO_ex hq
  obtain ⟨x, ex, w⟩ := onO_ex hq2
  refine ⟨st, rfl, ?_⟩
  have dx := view_r (vr.step ((s2.trans s3).trans s4)) ex
  have k : ∀ res v' B1 H1, (fun r' => Qd r' n4) res → Step bxs n4 n4 B4 H4 B1 H1 → ValR X.K bxs n4 B1 H1 res v' → FrR H4 res v' → Q v' H1 := fun res v' B5 H5 hq s5 vr f5 => q _ _ _ _ _ hq (s14.trans s5) vr (f5.back s14)
  cases x <;> try exact w.elim
  · exact .inr (.inr ⟨_, dx.str, w.1, w.2.1, k _ _ B4 H4 w.2.2 g4.refl (.str _) trivial⟩)
  · obtain ⟨p, vs, rfl, h1, h2⟩ := dx.list g4.sub
    exact .inl ⟨p, vs, rfl, w.1, w.2.1, w.2.2.1, h1, give_new g4 (dpRev _ _ h2) w.2.2.2 k⟩
  · obtain ⟨p, vs, rfl, h1, h2⟩ := dx.tuple g4.sub
    exact .inr (.inl ⟨p, vs, rfl, w.1, w.2.1, w.2.2.1, h1, give_tup g4 (dpRev _ _ h2) w.2.2.2 k⟩)
theorem rev_text (z : Str) : (stepS z none none (-1)).cps.toList = z.cps.toList.reverse := by
  have h := step_rev_list z 0
  have e : stepS z none none (-1) = Txt.sliceBy z none none (-1, 0) := rfl
  rw [e, h]
  apply List.ext_getElem
  · simp [Str.length]
  · intro i h1 h2
    rw [List.getElem_map, List.getElem_range, List.getElem_reverse]
    have hi : i < z.cps.size := by simpa [Str.length] using h1
    have : z.length - 1 - i < z.cps.size := by show z.cps.size - 1 - i < z.cps.size; omega
    have e2 : z.length - 1 - i = z.cps.size - 1 - i := rfl
    rw [Array.getD, dif_pos this]
    simp only [Array.length_toList, Array.getElem_toList]
    rfl
end
end Dl

namespace Dl
open PySem PySem.Spec PyProof.Rows L2
/-! ### plain data: no bools, no dicts: == is equality -/
mutual
noncomputable def plain : PyData → Bool
  | .none => true
  | .bool _ => false
  | .int _ => true
  | .str s => PyData.canLay0 (.str s)
  | .list xs => plainAll xs
  | .tuple xs => plainAll xs
  | .dict _ => false
noncomputable def plainAll : List PyData → Bool
  | [] => true
  | x :: xs => plain x && plainAll xs
end
mutual
theorem eqv_eq : ∀ (x y : PyData), plain x = true → plain y = true → PyData.eqv x y = true → x = y
  | .none, y, _, hy, h => by cases y <;> first | rfl | (cases h; done)
  | .bool _, _, hx, _, _ => by cases hx
  | .int i, y, _, hy, h => by
    cases y
    all_goals first | (cases h; done) | (cases hy; done) | skip
    rename_i j
    exact congrArg _ (eq_of_beq (show (i == j) = true from h))
  | .str i, y, _, hy, h => by
    cases y
    all_goals first | (cases h; done) | skip
    rename_i j
    exact congrArg _ (eq_of_beq (show (i == j) = true from h))
  | .list xs, y, hx, hy, h => by
    cases y
    all_goals first | (cases h; done) | (cases hy; done) | skip
    rename_i ys
    exact congrArg _ (eqvAll_eq xs ys hx hy h)
  | .tuple xs, y, hx, hy, h => by
    cases y
    all_goals first | (cases h; done) | (cases hy; done) | skip
    rename_i ys
    exact congrArg _ (eqvAll_eq xs ys hx hy h)
  | .dict _, _, hx, _, _ => by cases hx
theorem eqvAll_eq : ∀ (xs ys : List PyData), plainAll xs = true → plainAll ys = true → PyData.eqvAll xs ys = true → xs = ys
  | [], [], _, _, _ => rfl
  | [], _ :: _, _, _, h => by cases h
  | _ :: _, [], _, _, h => by cases h
  | x :: xs, y :: ys, hx, hy, h => by
    have h1 : (plain x && plainAll xs) = true := hx
    have h2 : (plain y && plainAll ys) = true := hy
    have h3 : (PyData.eqv x y && PyData.eqvAll xs ys) = true := h
    rw [Bool.and_eq_true] at h1 h2 h3
    rw [eqv_eq x y h1.1 h2.1 h3.1, eqvAll_eq xs ys h1.2 h2.2 h3.2]
end
mutual
theorem eqv_refl : ∀ (x : PyData), plain x = true → PyData.eqv x x = true
  | .none, _ => rfl
  | .bool _, hx => by cases hx
  | .int i, _ => show (i == i) = true from beq_self_eq_true i
  | .str i, _ => show (i == i) = true from beq_self_eq_true i
  | .list xs, hx => eqvAll_refl xs hx
  | .tuple xs, hx => eqvAll_refl xs hx
  | .dict _, hx => by cases hx
theorem eqvAll_refl : ∀ (xs : List PyData), plainAll xs = true → PyData.eqvAll xs xs = true
  | [], _ => rfl
  | x :: xs, hx => by
    have h1 : (plain x && plainAll xs) = true := hx
    rw [Bool.and_eq_true] at h1
    show (PyData.eqv x x && PyData.eqvAll xs xs) = true
    rw [eqv_refl x h1.1, eqvAll_refl xs h1.2]
    rfl
end
theorem plainAll_iff : ∀ {xs : List PyData}, plainAll xs = true ↔ ∀ x ∈ xs, plain x = true
  | [] => ⟨fun _ x hx => (by cases hx), fun _ => rfl⟩
  | y :: ys => by
    show (plain y && plainAll ys) = true ↔ _
    rw [Bool.and_eq_true, plainAll_iff]
    constructor
    · rintro ⟨h1, h2⟩ x hx
      rcases List.mem_cons.mp hx with rfl | hx
      · exact h1
      · exact h2 x hx
    · intro h
      exact ⟨h y (.head _), fun x hx => h x (.tail _ hx)⟩
theorem eqv_tup {xs ys : List PyData} (hx : plainAll xs = true) (hy : plainAll ys = true) : PyData.eqv (.tuple xs) (.tuple ys) = true ↔ xs = ys := by
  constructor
  · intro h
    exact eqvAll_eq xs ys hx hy h
  · rintro rfl
    exact eqvAll_refl xs hx
/-! shaped: no dicts, shallow -/
mutual
theorem lay_plain : ∀ x : PyData, plain x = true → PyData.canLay0 x = true
  | .none, _ => rfl
  | .bool _, h => by cases h
  | .int _, _ => rfl
  | .str _, h => h
  | .list xs, h => by
    unfold PyData.canLay0
    exact lay_plainAll xs h
  | .tuple xs, h => by
    unfold PyData.canLay0
    exact lay_plainAll xs h
  | .dict _, h => by cases h
theorem lay_plainAll : ∀ xs : List PyData, plainAll xs = true → PyData.canLayAll0 xs = true
  | [], _ => rfl
  | x :: xs, h => by
    have h1 : (plain x && plainAll xs) = true := h
    rw [Bool.and_eq_true] at h1
    unfold PyData.canLayAll0
    rw [lay_plain x h1.1, lay_plainAll xs h1.2]
    rfl
end
theorem depth_all {d : Nat} : ∀ {xs : List PyData}, (∀ x ∈ xs, PyData.depth x ≤ d) → PyData.depthAll xs ≤ d
  | [], _ => Nat.zero_le _
  | x :: xs, h => by
    have h1 := h x (.head _)
    have h2 := depth_all (xs := xs) fun y hy => h y (.tail _ hy)
    unfold PyData.depthAll
    omega
end Dl

namespace Dl
open PySem PySem.Spec PyProof.Rows L2
section
variable {X : Cx} {o e a b c : Expr} {es : List Expr} {wo we wa wb wc : DE} {wr : DA} {pos apos : Pos}
/-! ### methods of texts -/
noncomputable def onT (r : RV) (F : Str → Prop) : Prop := match r with
  | .d (.str z) => F z
  | _ => False
theorem onT_ex {r : RV} {F : Str → Prop} (h : onT r F) : ∃ z, r = .d (.str z) ∧ F z := by
  unfold onT at h
  split at h
  · exact ⟨_, rfl, h⟩
  · exact h.elim
noncomputable abbrev DMt := Str → List PyData → (RV → Prop) → Prop
noncomputable def dMs (w : DMt) (wo : DE) (wr : DA) : DE := fun ρ n Q => wo ρ n fun r1 n1 => onT r1 fun z => wr ρ n1 fun rs n2 => onO (views rs) fun xs => w z xs fun r => Q r n2
noncomputable def LMt (X : Cx) (id : String) (w : DMt) : Prop := ∃ r, MtR X id r ∧
  ∀ (bxs : List Addr) (n : Nat) (B H : Hp) (z : Str) (xs : List PyData) (vs : List V) (Qd : RV → Prop) (Q : VK), Good bxs n B H → DpVs X.K B H vs xs → w z xs Qd →
    (∀ res v' B1 H1, Qd res → Step bxs n n B H B1 H1 → ValR X.K bxs n B1 H1 res v' → FrR H res v' → Q v' H1) → r (.str z) vs H Q
theorem le_mt {name : Str} {id : String} {w : DMt} (slot : Slot "str" name id) (hty : typeOf (.builtin id) = pure (.type "method_descriptor")) (hm : LMt X id w) (ho : LE X o wo) (ha : LA X (e :: es) wr)
    (hbase : attributeBase o name X.env (eval o X.env) = eval o X.env)
    (hfew : ((backTo pos (starEach (e :: es) X.env)).all (fun x => !x.1) && (backToKw pos (keywordEach [] X.env)).all (fun x => x.1.isSome)
      && decide ((e :: es).length + ([] : List Keyword).length + (if ([] : List Keyword).isEmpty then 0 else 1) < 30)) = true)
    (hline : (apos.endLine == pos.line) = true) (hs : starEach (e :: es) X.env = (false, eval e X.env) :: starEach es X.env) (hpl : (backTo pos (starEach es X.env)).any (·.1) = false) :
    LE X (.Call (.Attribute o name apos) (e :: es) [] pos) (dMs w wo wr) := by
  obtain ⟨r, h1, h2⟩ := hm
  refine pe_imp (pe_bm PySem.F.plainAttrs_str slot hty h1 ho ha hbase hfew hline hs hpl) fun σ H Q hu => ?_
  obtain ⟨ρ, n, B, bxs, Qd, g, e, w1, q⟩ := hu
  refine ⟨ρ, n, B, bxs, _, g, e, w1, fun r1 n1 v1 B1 H1 hq s1 vr f1 => ?_⟩
  obtain ⟨z, rfl, hq⟩ := onT_ex hq
  cases vr
  refine ⟨rfl, ρ, n1, B1, bxs, _, g.step s1, e.step s1, hq, fun rs n2 vs B2 H2 hq s2 vr f2 => ?_⟩
  obtain ⟨xs, ex, hq⟩ := onO_ex hq
  have s12 := s1.trans s2
  exact h2 bxs n2 B2 H2 z xs vs _ Q (g.step s12) (views_r _ _ _ vr ex) hq fun res v' B3 H3 hq s3 vr3 f3 => q _ _ _ _ _ hq (s12.trans s3) vr3 (f3.back s12)
noncomputable def wCount : DMt := fun z xs Q => match xs with
  | [.str y] => Q (.d (.int (Txt.count z y)))
  | _ => False
theorem lm_count : LMt X "str.count" wCount := by
  refine ⟨_, mt_count, fun bxs n B H z xs vs Qd Q g hv w k => ?_⟩
  unfold wCount at w
  split at w
  · obtain ⟨v, rfl, dx⟩ := dpvs1 hv
    obtain rfl := dx.str
    exact ⟨_, _, rfl, rfl, k _ _ B H w g.refl (.int _) trivial⟩
  · exact w.elim
theorem le_m_count (ho : LE X o wo) (ha : LA X (e :: es) wr)
    (hbase : attributeBase o "count" X.env (eval o X.env) = eval o X.env := by rfl)
    (hfew : ((backTo pos (starEach (e :: es) X.env)).all (fun x => !x.1) && (backToKw pos (keywordEach [] X.env)).all (fun x => x.1.isSome)
      && decide ((e :: es).length + ([] : List Keyword).length + (if ([] : List Keyword).isEmpty then 0 else 1) < 30)) = true := by rfl)
    (hline : (apos.endLine == pos.line) = true := by rfl) (hs : starEach (e :: es) X.env = (false, eval e X.env) :: starEach es X.env := by rfl) (hpl : (backTo pos (starEach es X.env)).any (·.1) = false := by rfl) :
    LE X (.Call (.Attribute o "count" apos) (e :: es) [] pos) (dMs wCount wo wr) := le_mt F.slot_str_count F.type_str_count lm_count ho ha hbase hfew hline hs hpl
noncomputable def wJoin : DMt := fun z xs Q => ∃ ys : List Str, (xs = [.list (ys.map .str)] ∨ xs = [.tuple (ys.map .str)]) ∧ (ys.map (·.length)).sum + ys.length * z.length ≤ 16777216 ∧ Q (.d (.str (Txt.join z ys)))
theorem lm_join : LMt X "str.join" wJoin := by
  refine ⟨_, mt_join, fun bxs n B H z xs vs Qd Q g hv w k => ?_⟩
  obtain ⟨ys, h, hl, w⟩ := w
  rcases h with rfl | rfl
  · obtain ⟨v, rfl, dx⟩ := dpvs1 hv
    obtain ⟨p, us, rfl, h1, h2⟩ := dx.list g.sub
    obtain rfl := ofStrs _ _ h2
    exact ⟨_, p, ys, rfl, rfl, .inl h1, hl, k _ _ B H w g.refl (.str _) trivial⟩
  · obtain ⟨v, rfl, dx⟩ := dpvs1 hv
    obtain ⟨p, us, rfl, h1, h2⟩ := dx.tuple g.sub
    obtain rfl := ofStrs _ _ h2
    exact ⟨_, p, ys, rfl, rfl, .inr h1, hl, k _ _ B H w g.refl (.str _) trivial⟩
theorem le_m_join (ho : LE X o wo) (ha : LA X (e :: es) wr)
    (hbase : attributeBase o "join" X.env (eval o X.env) = eval o X.env := by rfl)
    (hfew : ((backTo pos (starEach (e :: es) X.env)).all (fun x => !x.1) && (backToKw pos (keywordEach [] X.env)).all (fun x => x.1.isSome)
      && decide ((e :: es).length + ([] : List Keyword).length + (if ([] : List Keyword).isEmpty then 0 else 1) < 30)) = true := by rfl)
    (hline : (apos.endLine == pos.line) = true := by rfl) (hs : starEach (e :: es) X.env = (false, eval e X.env) :: starEach es X.env := by rfl) (hpl : (backTo pos (starEach es X.env)).any (·.1) = false := by rfl) :
    LE X (.Call (.Attribute o "join" apos) (e :: es) [] pos) (dMs wJoin wo wr) := le_mt F.slot_str_join F.type_str_join lm_join ho ha hbase hfew hline hs hpl
/-! ### a < b < c -/
noncomputable def dChain (w w' : DOp) (wa wb wc : DE) : DE := fun ρ n Q => wa ρ n fun r1 n1 => wb ρ n1 fun r2 n2 => vw2 w r1 r2 fun z => onB z fun k => if k = true then wc ρ n2 fun r3 n3 => vw2 w' r2 r3 fun r => Q r n3 else Q (.d (.bool false)) n2
/-! ### in, not in -/
noncomputable def flatD : PyData → Bool
  | .none => true
  | .bool _ => true
  | .int _ => true
  | .str _ => true
  | _ => false
theorem flat_V {K : PySem.W.Frag} {B H : Hp} {v : V} {x : PyData} (h : DpV K B H v x) (f : flatD x = true) : flatV v = true := by
  rcases h with h | ⟨p, vs, xs, rfl, rfl, _⟩
  · cases h <;> first | rfl | cases f
  · cases f
theorem flat_all {K : PySem.W.Frag} {B : Hp} : ∀ {xs : List PyData} {vs : List V}, DpAll K B vs xs → xs.all flatD = true → vs.all flatV = true
  | [], vs, h, _ => by cases h; rfl
  | x :: xs, vs, h, f => by
    cases h with
    | cons h1 h2 =>
      rw [List.all_cons, Bool.and_eq_true] at f ⊢
      exact ⟨flat_V (H := B) (.inl h1) f.1, flat_all h2 f.2⟩
theorem flat_eq {K : PySem.W.Frag} {B H : Hp} {v u : V} {x y : PyData} (h : Dp K B v x) (g : DpV K B H u y) (f : flatD x = true) (k : flatD y = true) : eqV v u = PyData.eqv x y := by
  rcases g with g | ⟨p, vs, xs, rfl, rfl, _⟩
  · cases h <;> cases g <;> first | rfl | (cases f; done) | (cases k; done)
  · cases k
theorem flat_in {K : PySem.W.Frag} {B H : Hp} {u : V} {y : PyData} (g : DpV K B H u y) (k : flatD y = true) : ∀ {xs : List PyData} {vs : List V}, DpAll K B vs xs → xs.all flatD = true → inV u vs = xs.any fun z => PyData.eqv z y
  | [], vs, h, _ => by cases h; rfl
  | x :: xs, vs, h, f => by
    cases h with
    | cons h1 h2 =>
      rw [List.all_cons, Bool.and_eq_true] at f
      show (eqV _ u || inV u _) = _
      rw [List.any_cons, flat_eq h1 g f.1 k, flat_in g k h2 f.2]
noncomputable def wIn : DOp := fun x y Q => match y with
  | .list ds => SeqAt.shaped x = true ∧ SeqAt.shaped (.list ds) = true ∧ Q (.d (.bool (ds.any fun z => PyData.eqv z x)))
  | .tuple ds => flatD x = true ∧ ds.all flatD = true ∧ Q (.d (.bool (ds.any fun z => PyData.eqv z x)))
  | .str z => ∃ c, x = .str ⟨#[c]⟩ ∧ Q (.d (.bool (decide (c ∈ z.cps.toList))))
  | _ => False
noncomputable def wNotIn : DOp := fun x y Q => match y with
  | .list ds => SeqAt.shaped x = true ∧ SeqAt.shaped (.list ds) = true ∧ Q (.d (.bool (!ds.any fun z => PyData.eqv z x)))
  | .tuple ds => flatD x = true ∧ ds.all flatD = true ∧ Q (.d (.bool (!ds.any fun z => PyData.eqv z x)))
  | .str z => ∃ c, x = .str ⟨#[c]⟩ ∧ Q (.d (.bool (!decide (c ∈ z.cps.toList))))
  | _ => False
theorem lo_in (hu : X.A.units + 65 < cLine) : LOp X (compareOp .In) wIn := by
  refine ⟨_, OpR.or (op_inD hu) (OpR.or op_in_seq op_in_sign), fun bxs n B H x y v u Qd Q g dx dy w k => ?_⟩
  unfold wIn at w
  split at w
  · exact .inl ⟨_, _, (dx.dp g.sub).kit (shaped_nd w.1), (dy.dp g.sub).kit (shaped_nd w.2.1), w.1, w.2.1, k _ _ B H w.2.2 g.refl (.bl _) trivial⟩
  · obtain ⟨p, vs, rfl, h1, h2⟩ := dy.tuple g.sub
    refine .inr (.inl ⟨p, vs, rfl, .inr h1, flat_V dx w.1, flat_all h2 w.2.1, ?_⟩)
    show Q (.bl (inV v vs)) H
    rw [flat_in dx w.1 h2 w.2.1]
    exact k _ _ B H w.2.2 g.refl (.bl _) trivial
  · obtain ⟨c, rfl, w⟩ := w
    exact .inr (.inr ⟨c, _, dx.str, dy.str, k _ _ B H w g.refl (.bl _) trivial⟩)
  · exact w.elim
theorem un65 {k : Nat} {A : Around} (r : Room k A) : A.units + 65 < cLine := by have := r.un; omega
/-! ### list(range(..)) -/
noncomputable def dListR1 (wa : DE) : DE := fun ρ n Q => wa ρ n fun r n1 => onI r fun j => (-(2 ^ 62) ≤ j ∧ j ≤ 10000000) ∧ Q (.new (rangeD 0 j.toNat)) n1
noncomputable def dListR2 (wa wb : DE) : DE := fun ρ n Q => wa ρ n fun r n1 => wb ρ n1 fun r2 n2 => onI r fun i => onI r2 fun j => (-10000000 ≤ i ∧ i ≤ 10000000 ∧ -10000000 ≤ j ∧ j ≤ 10000000) ∧ (j - i).toNat ≤ 10000000 ∧ Q (.new (rangeD i (j - i).toNat)) n2
/-! ### extend of an own list by a new one -/
noncomputable def dExtend (i : Nat) (we : DE) : DS := fun D ρ n => onS ρ[i]? fun xs => we ρ n fun r n1 => onN r fun ys => xs.length + ys.length ≤ sizeLine ∧ D.nx (ρ.set i (some (.new (xs ++ ys)))) n1
end
section
variable {X : Cx} {E : Ent} {pos apos cpos p1 p2 : Pos} {e : Expr} {we : DE} {x : Str}
theorem ls_extend (i : Nat) (he : LE X e we) (hN : X.N[i]? = some x := by rfl) (hv : Vis X.env.scope x := by first | exact Or.inl rfl | exact Or.inr (Or.inl rfl) | exact Or.inr (Or.inr rfl)) (hd : (x == ("__debug__" : Str)) = false := by decide) (hcd : (x == ("__classdict__" : Str)) = false := by decide)
    (hbase : attributeBase (.Name x p1) "extend" X.env (eval (.Name x p1) X.env) = eval (.Name x p1) X.env := by rfl)
    (hfew : ((backTo cpos (starEach [e] X.env)).all (fun x => !x.1) && (backToKw cpos (keywordEach [] X.env)).all (fun x => x.1.isSome)
      && decide ([e].length + ([] : List Keyword).length + (if ([] : List Keyword).isEmpty then 0 else 1) < 30)) = true := by rfl)
    (hline : (apos.endLine == cpos.line) = true := by rfl) (hs : starEach [e] X.env = (false, eval e X.env) :: starEach [] X.env := by rfl) (hpl : (backTo cpos (starEach [] X.env)).any (·.1) = false := by rfl)
    (hsw : swapsWith (.Call (.Attribute (.Name x p1) "extend" apos) [e] [] cpos) none pos.line X.env = pure false := by rfl) :
    LS X E (.Expr (.Call (.Attribute (.Name x p1) "extend" apos) [e] [] cpos) pos) (dExtend i we) := by
  refine ps_imp (ps_expr (pe_bm PySem.F.plainAttrs_list PySem.F.slot_list_extend PySem.F.type_list_extend mt_extend (pe_var hN hv hd hcd) (pa_cons he pa_nil hs) hbase hfew hline hs hpl) hsw) fun D σ H hu => ?_
  obtain ⟨ρ, n, B, M, bxs, Dd, h, w1, q⟩ := hu
  obtain ⟨xs, e1, w1⟩ := onS_ex w1
  obtain ⟨u, e3, p, vs, rfl, a1, a2, a3, a4⟩ := h.env.val i _ e1
  refine ⟨.ref p, e3, .inl ⟨rfl, _, .inl (.inl a3)⟩, ?_⟩
  refine ⟨ρ, n, B, bxs, _, h.g, h.env, w1, fun r n1 v B1 H1 hq s1 vr fr => ?_⟩
  obtain ⟨ys, rfl, hl, hq⟩ := onN_ex hq
  obtain ⟨p', us, rfl, c1, c2, c3, c4⟩ := vr
  have h2 := h.step s1
  have b3 : H1 p = some (.lst vs) := s1.h1 p _ a1 a3
  have b4 : DpAll X.K B1 vs xs := dpSameAll s1.b1 _ _ a4
  exact ⟨p, p', vs, us, rfl, rfl, b3, c3, by rw [dpLen _ _ a4, dpLen _ _ c4]; exact hl, q.nx _ _ _ _ _ _ (h2.write e1 e3 (dpApp _ _ _ _ b4 c4)) hq⟩
end
/-! ### calls by keywords -/
structure DefK (P : Program) (w : World) (K : PySem.W.Frag) (mg : Str → Option Value) (base : Heap) (k : Nat) (x : Str) (ps : List Str) (st : Stmt) (c : DSp) : Prop where
  ex : ∃ (f : Addr) (fd : FuncData), FnG P w K mg base k f fd ps (lift K c) ∧ mg x = some (.ref f) ∧ Fun K x x st f fd
noncomputable def pick {α : Type} (idx : List Nat) (l : List α) : List α := idx.filterMap fun i => l[i]?
theorem pick_nil {α : Type} (l : List α) : pick [] l = [] := rfl
theorem pick_cons {α : Type} (i : Nat) (idx : List Nat) (l : List α) : pick (i :: idx) l = match l[i]? with
    | none => pick idx l
    | some x => x :: pick idx l := by
  unfold pick
  rw [List.filterMap_cons]
  cases l[i]? <;> rfl
section
variable {X : Cx} {a : Expr} {wa : DE} {wr wk : DA} {kws : List Keyword} {nm : Option Str} {kpos : Pos}
noncomputable def dCallK (idx : List Nat) (c : DSp) (wr : DA) : DE := fun ρ n Q => wr ρ n fun rs n1 => argsOk (pick idx rs) ∧ c ((pick idx rs).map asArg) n1 Q
noncomputable def dCat (wr wk : DA) : DA := fun ρ n Q => wr ρ n fun rs n1 => wk ρ n1 fun ks n2 => Q (rs ++ ks) n2
end
end Dl

namespace Dl
open PySem PySem.Spec PyProof.Rows L2
/-! ### texts of 0 and 1 -/
noncomputable def bc (b : Bool) : Nat := if b then 49 else 48
noncomputable def bs (l : List Bool) : Str := ⟨(l.map bc).toArray⟩
theorem bs_list (l : List Bool) : (bs l).cps.toList = l.map bc := by simp [bs]
theorem bs_len (l : List Bool) : (bs l).length = l.length := by simp [bs, Str.length]
theorem str_ext {x y : Str} (h : x.cps.toList = y.cps.toList) : x = y := by
  obtain ⟨a⟩ := x
  obtain ⟨b⟩ := y
  exact congrArg _ (Array.toList_inj.mp h)
theorem bc_inj {a b : Bool} (h : bc a = bc b) : a = b := by
  cases a <;> cases b <;> first | rfl | cases h
theorem map_bc_inj : ∀ {l m : List Bool}, l.map bc = m.map bc → l = m
  | [], [], _ => rfl
  | [], _ :: _, h => by cases h
  | _ :: _, [], h => by cases h
  | a :: l, b :: m, h => by
    rw [List.map_cons, List.map_cons] at h
    injection h with h1 h2
    rw [bc_inj h1, map_bc_inj h2]
theorem bs_inj {l m : List Bool} (h : bs l = bs m) : l = m := map_bc_inj (by rw [← bs_list, ← bs_list, h])
theorem bs_app (l m : List Bool) : bs l ++ bs m = bs (l ++ m) := str_ext (by
  rw [bs_list, List.map_append]
  show ((bs l).cps ++ (bs m).cps).toList = _
  rw [Array.toList_append, bs_list, bs_list])
theorem bs_rev (l : List Bool) : stepS (bs l) none none (-1) = bs l.reverse := str_ext (by rw [rev_text, bs_list, bs_list, List.map_reverse])
theorem bs_rep (l : List Bool) (k : Nat) : (⟨(List.replicate k (bs l).cps.toList).flatten.toArray⟩ : Str) = bs (List.replicate k l).flatten := str_ext (by
  rw [bs_list, bs_list, List.map_flatten, List.map_replicate])
theorem bs_str (b : Bool) : Str.ofString (toString (if b then (1 : Int) else 0)) = bs [b] := by
  cases b <;> decide +kernel
theorem bs_zero : bs [false] = Str.ofString "0" := by decide +kernel
theorem bs_nil : bs [] = Str.ofString "" := by decide +kernel
theorem glue_list (parts : List Str) : ∀ (acc : Array Nat), (parts.foldl (fun acc p => acc ++ (Str.ofString "").cps ++ p.cps) acc).toList = acc.toList ++ (parts.map fun p => p.cps.toList).flatten := by
  induction parts with
  | nil => intro acc; simp
  | cons p ps ih =>
    intro acc
    rw [List.foldl_cons, ih, List.map_cons, List.flatten_cons, Array.toList_append, Array.toList_append]
    have : (Str.ofString "").cps.toList = [] := by decide +kernel
    rw [this, List.append_nil, List.append_assoc]
theorem bs_join (ls : List (List Bool)) : Txt.join (Str.ofString "") (ls.map bs) = bs ls.flatten := str_ext (by
  unfold Txt.join Builtin.Str.glued
  cases ls with
  | nil => rfl
  | cons l ls =>
    show ((List.map bs ls).foldl _ (bs l).cps).toList = _
    rw [glue_list, bs_list, bs_list, List.map_map, List.flatten_cons, List.map_append, List.map_flatten]
    congr 2
    all_goals first | done | (apply List.map_congr_left; intro a _; exact bs_list a))
theorem bs_cutS (l : List Bool) (lo hi : Option Int) : cutS (bs l) lo hi = bs ((l.drop (HT.sIx l.length 0 lo)).take (HT.sIx l.length l.length hi - HT.sIx l.length 0 lo)) := str_ext (by
  rw [bs_list]
  unfold cutS
  rw [List.toList_toArray, bs_len, bs_list, List.map_take, List.map_drop])
theorem bs_count (l : List Bool) : Txt.count (bs l) (Str.ofString "1") = ((l.count true : Nat) : Int) := by
  have e : Str.ofString "1" = ⟨#[49]⟩ := by decide +kernel
  rw [e, count_cnt, bs_list]
  induction l with
  | nil => rfl
  | cons b l ih =>
    have h : cnt 49 ((b :: l).map bc) = (if b then 1 else 0) + cnt 49 (l.map bc) := by
      cases b <;> rfl
    rw [h, ih, List.count_cons]
    cases b <;> simp <;> omega
theorem bs_items (l : List Bool) : (bs l).cps.toList.map (fun c => PyData.str ⟨#[c]⟩) = l.map fun b => PyData.str (bs [b]) := by
  rw [bs_list, List.map_map]
  rfl
theorem bs_is1 (b : Bool) : decide (bs [b] = Str.ofString "1") = b := by
  cases b <;> decide +kernel
/-! ### parities of the places that are a modulo w -/
noncomputable def par (f : Nat → Bool) (w a : Nat) : Nat → Bool
  | 0 => false
  | n + 1 => par f w a n ^^ (n % w == a && f n)
theorem par_more {f : Nat → Bool} {w a n : Nat} (h : ∀ i, n ≤ i → f i = false) : ∀ m, par f w a (n + m) = par f w a n
  | 0 => rfl
  | m + 1 => by
    show (par f w a (n + m) ^^ ((n + m) % w == a && f (n + m))) = _
    rw [par_more h m, h (n + m) (by omega), Bool.and_false, Bool.xor_false]
theorem par_block {f : Nat → Bool} {w a t : Nat} (ha : a < w) : ∀ r, r ≤ w → par f w a (w * t + r) = (par f w a (w * t) ^^ (decide (a < r) && f (w * t + a)))
  | 0, _ => by rw [Nat.add_zero]; simp
  | r + 1, hr => by
    show (par f w a (w * t + r) ^^ ((w * t + r) % w == a && f (w * t + r))) = _
    rw [par_block ha r (by omega), Nat.mul_add_mod, Nat.mod_eq_of_lt (by omega)]
    by_cases h : r = a
    · subst h
      simp
    · have h1 : (r == a) = false := by simpa using h
      rw [h1, Bool.false_and, Bool.xor_false]
      have h2 : decide (a < r + 1) = decide (a < r) := by
        apply decide_eq_decide.mpr
        omega
      rw [h2]
theorem par_next {f : Nat → Bool} {w a t : Nat} (ha : a < w) : par f w a (w * (t + 1)) = (par f w a (w * t) ^^ f (w * t + a)) := by
  rw [Nat.mul_add, Nat.mul_one, par_block ha w (Nat.le_refl _)]
  simp [ha]
/-- the sum of the places -/
noncomputable def bsum (f : Nat → Bool) : Nat → Nat
  | 0 => 0
  | n + 1 => bsum f n + (if f n then 2 ^ n else 0)
theorem bsum_lt (f : Nat → Bool) : ∀ n, bsum f n < 2 ^ n
  | 0 => by
    show 0 < 1
    decide
  | n + 1 => by
    have := bsum_lt f n
    unfold bsum
    rw [Nat.pow_succ]
    split <;> omega
theorem bsum_bit (f : Nat → Bool) : ∀ n j, (bsum f n).testBit j = (decide (j < n) && f j)
  | 0, j => by simp [bsum]
  | n + 1, j => by
    unfold bsum
    have hl := bsum_lt f n
    cases hf : f n
    · simp only [Bool.false_eq_true, if_false, Nat.add_zero]
      rw [bsum_bit f n j]
      by_cases h : j = n
      · subst h
        simp [hf]
      · have : decide (j < n + 1) = decide (j < n) := decide_eq_decide.mpr (by omega)
        rw [this]
    · simp only [if_true]
      rw [Nat.add_comm]
      rcases Nat.lt_trichotomy j n with h | h | h
      · rw [Nat.testBit_two_pow_add_gt h, bsum_bit f n j, decide_eq_true h, decide_eq_true (show j < n + 1 by omega)]
      · subst h
        rw [Nat.testBit_two_pow_add_eq, bsum_bit f j j]
        simp [hf]
      · rw [decide_eq_false (show ¬ j < n + 1 by omega), Bool.false_and]
        apply Nat.testBit_lt_two_pow
        have : 2 ^ (n + 1) ≤ 2 ^ j := Nat.pow_le_pow_right (by decide) h
        rw [Nat.pow_succ] at this
        omega
/-- the digits from the lowest on -/
noncomputable def lowD (l : List Bool) (i : Nat) : Bool := l.reverse.getD i false
noncomputable def foldN (l : List Bool) (w h : Nat) : Nat := bsum (fun j => par (lowD l) w j l.length ^^ h.testBit j) w
theorem fold_xor (l : List Bool) (w h : Nat) : (bsum (fun j => par (lowD l) w j l.length) w ^^^ h) % 2 ^ w = foldN l w h := by
  apply Nat.eq_of_testBit_eq
  intro j
  rw [Nat.testBit_mod_two_pow, Nat.testBit_xor, bsum_bit]
  unfold foldN
  rw [bsum_bit]
  by_cases hj : j < w <;> simp [hj]
/-- what stands at the places a, a + w, .. -/
noncomputable def stride (l : List Bool) (w a : Nat) : List Bool := ((List.range l.length).filter fun i => i % w == a).filterMap (l[·]?)
noncomputable def nst (w a n : Nat) : Nat := (n - a + (w - 1)) / w
theorem range_stride {w a : Nat} (ha : a < w) : ∀ n, (List.range n).filter (fun i => i % w == a) = (List.range (nst w a n)).map fun k => a + w * k
  | 0 => by
    have : nst w a 0 = 0 := by
      unfold nst
      rw [Nat.zero_sub, Nat.zero_add]
      exact Nat.div_eq_of_lt (by omega)
    rw [this]
    rfl
  | n + 1 => by
    rw [List.range_succ, List.filter_append, range_stride ha n]
    have hw : 0 < w := by omega
    rcases Nat.lt_or_ge n a with h | h
    · have e1 : nst w a n = 0 := by
        unfold nst
        rw [Nat.sub_eq_zero_of_le (by omega), Nat.zero_add]
        exact Nat.div_eq_of_lt (by omega)
      have e2 : nst w a (n + 1) = 0 := by
        unfold nst
        rw [Nat.sub_eq_zero_of_le (by omega), Nat.zero_add]
        exact Nat.div_eq_of_lt (by omega)
      rw [e1, e2]
      have : (n % w == a) = false := by
        rw [Nat.mod_eq_of_lt (by omega)]
        simp
        omega
      simp [this]
    · obtain ⟨m, rfl⟩ : ∃ m, n = a + m := ⟨n - a, by omega⟩
      have q := Nat.div_add_mod m w
      have r := Nat.mod_lt m hw
      have en : nst w a (a + m + 1) = m / w + 1 := by
        unfold nst
        rw [show a + m + 1 - a + (w - 1) = m + w by omega, Nat.add_div_right _ hw]
      have em : (a + m) % w = a ↔ m % w = 0 := by
        constructor
        · intro h0
          have q2 := Nat.div_add_mod (a + m) w
          rw [h0] at q2
          have : m = w * ((a + m) / w) := by omega
          rw [this]
          exact Nat.mul_mod_right _ _
        · intro h0
          rw [h0, Nat.add_zero] at q
          rw [← q, Nat.add_mul_mod_self_left]
          exact Nat.mod_eq_of_lt ha
      by_cases h0 : m % w = 0
      · have e1 : nst w a (a + m) = m / w := by
          unfold nst
          rw [show a + m - a + (w - 1) = w * (m / w) + (w - 1) by omega, Nat.mul_add_div hw, Nat.div_eq_of_lt (show w - 1 < w by omega), Nat.add_zero]
        rw [e1, en, List.range_succ, List.map_append]
        have : ((a + m) % w == a) = true := by simpa using em.mpr h0
        simp only [List.filter_cons, this, if_true, List.filter_nil, List.map_cons, List.map_nil]
        rw [h0, Nat.add_zero] at q
        rw [q]
      · have e1 : nst w a (a + m) = m / w + 1 := by
          unfold nst
          rw [show a + m - a + (w - 1) = w * (m / w) + (m % w - 1) + w by omega, Nat.add_div_right _ hw, Nat.mul_add_div hw, Nat.div_eq_of_lt (show m % w - 1 < w by omega), Nat.add_zero]
        rw [e1, en]
        have : ((a + m) % w == a) = false := by
          apply Bool.eq_false_iff.mpr
          intro z
          exact h0 (em.mp (by simpa using z))
        simp [this]
theorem picked_step {z : Str} {w a : Nat} (ha : a < w) : slicePicked z ((some ((a : Nat) : Int)).map (·, 0)) ((none : Option Int).map (·, 0)) (some ((w : Int), 0)) = (List.range z.length).filter fun i => i % w == a := by
  rw [range_stride ha]
  show Builtin.Str.strSliceIndices (some (a : Int)) none (w : Int) z.length = _
  unfold Builtin.Str.strSliceIndices sliceRange
  simp only [show ((w : Nat) : Int) > 0 from by omega, if_true, show ¬ ((a : Nat) : Int) < 0 from by omega, if_false]
  generalize z.length = n
  have key : ∀ (s c : Int) (k : Nat), s = ((min a n : Nat) : Int) → c = (((if a < n then nst w a n else 0) : Nat) : Int) → (List.range c.toNat).map (fun (k : Nat) => (s + (w : Int) * (k : Int)).toNat) = (List.range (nst w a n)).map fun k => a + w * k := by
    intro s c _ hs hc
    by_cases h : a < n
    · rw [hc, if_pos h, Int.toNat_natCast, hs, Nat.min_eq_left (by omega)]
      apply List.map_congr_left
      intro k _
      rw [← Int.natCast_mul, ← Int.natCast_add, Int.toNat_natCast]
    · have : nst w a n = 0 := by
        unfold nst
        rw [Nat.sub_eq_zero_of_le (by omega), Nat.zero_add]
        exact Nat.div_eq_of_lt (by omega)
      rw [hc, if_neg h, this]
      rfl
  refine key _ _ 0 (by omega) ?_
  by_cases h : a < n
  · rw [if_pos h, if_pos (by omega)]
    unfold nst
    rw [Int.natCast_ediv]
    congr 1
    omega
  · rw [if_neg h, if_neg (by omega)]
    rfl
theorem fm_all {α : Type} : ∀ (l : List α), (List.range l.length).filterMap (l[·]?) = l
  | [] => rfl
  | x :: l => by
    rw [List.length_cons, List.range_succ_eq_map, List.filterMap_cons, List.filterMap_map]
    show x :: (List.range l.length).filterMap (fun i => (x :: l)[i + 1]?) = _
    have e : (List.range l.length).filterMap (fun i => (x :: l)[i + 1]?) = (List.range l.length).filterMap (l[·]?) := by
      apply fm_congr
      intro i _
      rfl
    rw [e, fm_all l]
theorem bs_step {l : List Bool} {w a : Nat} (ha : a < w) : stepS (bs l) (some ((a : Nat) : Int)) none (w : Int) = bs (stride l w a) := str_ext (by
  unfold stepS Txt.sliceBy
  rw [picked_step ha, bs_len, bs_list]
  have e : ((List.range l.length).filter fun i => i % w == a).filterMap ((bs l).cps[·]?) = (stride l w a).map bc := by
    unfold stride
    rw [List.map_filterMap]
    apply fm_congr
    intro i _
    rw [← Array.getElem?_toList, bs_list, List.getElem?_map]
  split
  · rename_i h
    rw [Bool.and_eq_true] at h
    have h1 : w = 1 := by
      have := eq_of_beq h.1
      simp at this
      omega
    subst h1
    have h2 : a = 0 := by omega
    subst h2
    rw [bs_list]
    unfold stride
    have : (List.range l.length).filter (fun i => i % 1 == 0) = List.range l.length := List.filter_eq_self.mpr fun i _ => by simp [Nat.mod_one]
    rw [this, fm_all]
  · rw [List.toList_toArray]
    exact e)
theorem stride_par {l : List Bool} {w a : Nat} : (stride l w a).count true % 2 = if par (fun i => l.getD i false) w a l.length then 1 else 0 := by
  have key : ∀ n, n ≤ l.length → (((List.range n).filter fun i => i % w == a).filterMap (l[·]?)).count true % 2 = if par (fun i => l.getD i false) w a n then 1 else 0 := by
    intro n
    induction n with
    | zero => intro _; rfl
    | succ n ih =>
      intro hn
      have h := ih (by omega)
      rw [List.range_succ, List.filter_append, List.filterMap_append, List.count_append]
      unfold par
      have eg : l[n]? = some l[n] := List.getElem?_eq_getElem (by omega)
      have ed : l.getD n false = l[n] := by rw [List.getD_eq_getElem?_getD, eg]; rfl
      rw [ed]
      cases hm : (n % w == a)
      · simp only [List.filter_cons, hm, Bool.false_eq_true, if_false, List.filter_nil, List.filterMap_nil, List.count_nil, Nat.add_zero, Bool.false_and, Bool.xor_false]
        exact h
      · simp only [List.filter_cons, hm, if_true, List.filter_nil, List.filterMap_cons, eg, List.filterMap_nil, Bool.true_and]
        cases hl : l[n] <;> cases hp : par (fun i => l.getD i false) w a n <;> rw [hp] at h <;> simp at h <;> simp <;> omega
  exact key l.length (Nat.le_refl _)
theorem join_bits {ls : List Bool} {Q : RV → Prop} (h : ls.length ≤ 100000) (q : Q (.d (.str (bs ls)))) : wJoin (Str.ofString "") [.list (ls.map fun b => .str (bs [b]))] Q := by
  refine ⟨ls.map fun b => bs [b], .inl (by rw [List.map_map]; rfl), ?_, ?_⟩
  · have e : (List.map (fun x => Str.length x) (ls.map fun b => bs [b])).sum = ls.length := by
      clear h q
      induction ls with
      | nil => rfl
      | cons b ls ih =>
        rw [List.map_cons, List.map_cons, List.sum_cons, ih, bs_len, List.length_cons, List.length_cons, List.length_nil]
        omega
    rw [e, List.length_map, ← bs_nil, bs_len, List.length_nil]
    omega
  · have e : (ls.map fun b => bs [b]) = (ls.map fun b => [b]).map bs := by
      rw [List.map_map]
      rfl
    rw [e, bs_join]
    have e2 : (ls.map fun b => [b]).flatten = ls := by
      clear h q e
      induction ls with
      | nil => rfl
      | cons b ls ih =>
        rw [List.map_cons, List.flatten_cons, ih]
        rfl
    rw [e2]
    exact q
end Dl

namespace Dl
open PySem PySem.Spec PyProof.Rows L2
/-! ### traces, schemes, histories -/
noncomputable abbrev Pr (p : Int × Int) : PyData := .tuple [.int p.1, .int p.2]
noncomputable abbrev dP (l : List (Int × Int)) : List PyData := l.map Pr
noncomputable abbrev TP (l : List (Int × Int)) : PyData := .tuple (dP l)
noncomputable def Hom (l : List (Int × Int)) : Prop := ∀ p ∈ l, 0 ≤ p.1 ∧ p.1 ≤ 7 ∧ (p.2 = 0 ∨ p.2 = 1)
inductive Wd where
  | own
  | split
  | shared
  | folded
  deriving DecidableEq
noncomputable def Wd.str : Wd → Str
  | .own => Str.ofString "own"
  | .split => Str.ofString "split"
  | .shared => Str.ofString "shared"
  | .folded => Str.ofString "folded"
structure Sc where
  w : Wd
  L : Nat
  b : Nat
noncomputable def Sc.items (s : Sc) : List PyData := match s.w with
  | .folded => [.str (Str.ofString "folded"), .int (s.L : Int), .int (s.b : Int)]
  | w => [.str w.str, .int (s.L : Int)]
noncomputable abbrev Sc.data (s : Sc) : PyData := .tuple s.items
theorem sc_0 (s : Sc) : atI s.items 0 = some (.str s.w.str) := by
  obtain ⟨w, L, b⟩ := s
  cases w <;> rfl
theorem sc_1 (s : Sc) : atI s.items 1 = some (.int (s.L : Int)) := by
  obtain ⟨w, L, b⟩ := s
  cases w <;> rfl
theorem sc_2 (s : Sc) (h : s.w = .folded) : atI s.items 2 = some (.int (s.b : Int)) := by
  obtain ⟨w, L, b⟩ := s
  cases h
  rfl
theorem wd_is (a b : Wd) : decide (a.str = b.str) = decide (a = b) := by
  cases a <;> cases b <;> decide +kernel
theorem wd_own (a : Wd) : decide (a.str = Str.ofString "own") = decide (a = .own) := wd_is a .own
theorem wd_shared (a : Wd) : decide (a.str = Str.ofString "shared") = decide (a = .shared) := wd_is a .shared
theorem wd_folded (a : Wd) : decide (a.str = Str.ofString "folded") = decide (a = .folded) := wd_is a .folded
noncomputable def cyc (l : List (Int × Int)) (i : Nat) : Int × Int := l.getD (i % l.length) (0, 0)
theorem cyc_get {l : List (Int × Int)} (h : 1 ≤ l.length) (i : Nat) : l[i % l.length]? = some (cyc l i) := by
  have := Nat.mod_lt i (show 0 < l.length by omega)
  unfold cyc
  rw [List.getD_eq_getElem?_getD, List.getElem?_eq_getElem this]
  rfl
theorem cyc_mem {l : List (Int × Int)} (h : 1 ≤ l.length) (i : Nat) : cyc l i ∈ l := List.mem_of_getElem? (cyc_get h i)
theorem cyc_add (l : List (Int × Int)) (i k : Nat) : cyc l (i + l.length * k) = cyc l i := by
  unfold cyc
  rw [Nat.add_mul_mod_self_left]
theorem cyc_lt {l : List (Int × Int)} {i : Nat} (h : i < l.length) : l[i]? = some (cyc l i) := by
  have := cyc_get (l := l) (by omega) i
  rw [Nat.mod_eq_of_lt h] at this
  exact this
/-- what counts for a branch -/
noncomputable def cnts (s : Sc) (h : Int) (p : Int × Int) : Bool := !decide (s.w = .own) || decide (p.1 = h)
noncomputable def bitOf (p : Int × Int) : Bool := decide (p.2 = 1)
/-- the outcomes of n times from a on that count -/
noncomputable def evs (l : List (Int × Int)) (s : Sc) (h : Int) (a n : Nat) : List Bool := (((List.range' a n).map (cyc l)).filter (cnts s h)).map bitOf
theorem evs_zero (l : List (Int × Int)) (s : Sc) (h : Int) (a : Nat) : evs l s h a 0 = [] := rfl
theorem evs_add (l : List (Int × Int)) (s : Sc) (h : Int) (a n m : Nat) : evs l s h a (n + m) = evs l s h a n ++ evs l s h (a + n) m := by
  unfold evs
  rw [← List.map_append, ← List.filter_append, ← List.map_append, List.range'_append_1]
theorem evs_one (l : List (Int × Int)) (s : Sc) (h : Int) (a : Nat) : evs l s h a 1 = if cnts s h (cyc l a) then [bitOf (cyc l a)] else [] := by
  unfold evs
  show (List.filter (cnts s h) [cyc l a]).map bitOf = _
  rw [List.filter_cons]
  split <;> rfl
theorem evs_len (l : List (Int × Int)) (s : Sc) (h : Int) (a n : Nat) : (evs l s h a n).length ≤ n := by
  unfold evs
  rw [List.length_map]
  refine Nat.le_trans (List.length_filter_le _ _) ?_
  rw [List.length_map, List.length_range']
  exact Nat.le_refl _
theorem evs_per (l : List (Int × Int)) (s : Sc) (h : Int) (a n k : Nat) : evs l s h (a + l.length * k) n = evs l s h a n := by
  unfold evs
  have : (List.range' (a + l.length * k) n).map (cyc l) = (List.range' a n).map (cyc l) := by
    apply List.ext_getElem?
    intro i
    rw [List.getElem?_map, List.getElem?_map]
    rcases Nat.lt_or_ge i n with q | q
    · rw [List.getElem?_range' q, List.getElem?_range' q]
      show some (cyc l _) = some (cyc l _)
      rw [show a + l.length * k + 1 * i = (a + 1 * i) + l.length * k by omega, cyc_add]
    · rw [List.getElem?_eq_none (by rw [List.length_range']; exact q), List.getElem?_eq_none (by rw [List.length_range']; exact q)]
  rw [this]
theorem evs_rep (l : List (Int × Int)) (s : Sc) (h : Int) (a : Nat) : ∀ k, evs l s h a (l.length * k) = (List.replicate k (evs l s h a l.length)).flatten
  | 0 => rfl
  | k + 1 => by
    rw [Nat.mul_add, Nat.mul_one, evs_add, evs_rep l s h a k, evs_per, List.replicate_succ', List.flatten_append]
    simp
/-- the last ones -/
noncomputable def lastN (L : Nat) (x : List Bool) : List Bool := x.drop (x.length - L)
theorem lastN_len {L : Nat} {x : List Bool} (h : L ≤ x.length) : (lastN L x).length = L := by
  unfold lastN
  rw [List.length_drop]
  omega
theorem lastN_app {L : Nat} (x : List Bool) {y : List Bool} (h : L ≤ y.length) : lastN L (x ++ y) = lastN L y := by
  unfold lastN
  rw [List.length_append, show x.length + y.length - L = x.length + (y.length - L) by omega, List.drop_append]
  rw [List.drop_of_length_le (by omega), List.nil_append]
  congr 1
  omega
theorem lastN_self {x : List Bool} : lastN x.length x = x := by
  unfold lastN
  rw [Nat.sub_self, List.drop_zero]
theorem lastN_pad {L : Nat} {y : List Bool} (h : y.length ≤ L) : lastN L (List.replicate L false ++ y) = List.replicate (L - y.length) false ++ y := by
  unfold lastN
  rw [List.length_append, List.length_replicate, show L + y.length - L = y.length by omega, List.drop_append, List.drop_replicate, List.length_replicate, Nat.sub_eq_zero_of_le h, List.drop_zero]
theorem rep_more (row : List Bool) {L : Nat} {k : Nat} (h : L ≤ k * row.length) : ∀ m, lastN L (List.replicate (k + m) row).flatten = lastN L (List.replicate k row).flatten
  | 0 => rfl
  | m + 1 => by
    rw [← Nat.add_assoc, List.replicate_succ, List.flatten_cons, lastN_app, rep_more row h m]
    rw [PyProof.Rows.lm_len_rep_flat]
    exact Nat.le_trans h (Nat.mul_le_mul_right _ (by omega))
/-- the history at a time -/
noncomputable def pastAt (l : List (Int × Int)) (s : Sc) (t : Nat) : List Bool := lastN s.L (List.replicate s.L false ++ evs l s (cyc l t).1 0 t)
noncomputable def rowOf (l : List (Int × Int)) (s : Sc) (p : Nat) : List Bool := evs l s (cyc l p).1 p l.length
/-- the history of a position in late rounds -/
noncomputable def steadyAt (l : List (Int × Int)) (s : Sc) (p : Nat) : List Bool := lastN s.L (List.replicate (s.L / (rowOf l s p).length + 1) (rowOf l s p)).flatten
theorem row_pos {l : List (Int × Int)} {s : Sc} {p : Nat} (hl : 1 ≤ l.length) : 1 ≤ (rowOf l s p).length := by
  unfold rowOf
  rw [show l.length = 1 + (l.length - 1) by omega, evs_add, evs_one]
  have : cnts s (cyc l p).1 (cyc l p) = true := by
    unfold cnts
    simp
  rw [if_pos this]
  simp
theorem row_le {l : List (Int × Int)} {s : Sc} {p : Nat} : (rowOf l s p).length ≤ l.length := evs_len _ _ _ _ _
theorem wide_ok {L r : Nat} (hr : 1 ≤ r) : L ≤ (L / r + 1) * r := by
  have := Nat.div_add_mod L r
  have := Nat.mod_lt L (show 0 < r by omega)
  rw [Nat.add_mul, Nat.one_mul, Nat.mul_comm]
  omega
theorem steady_len {l : List (Int × Int)} {s : Sc} {p : Nat} (hl : 1 ≤ l.length) : (steadyAt l s p).length = s.L := by
  unfold steadyAt
  refine lastN_len ?_
  rw [PyProof.Rows.lm_len_rep_flat]
  exact wide_ok (row_pos hl)
/-- from the round L + 1 on the histories are the steady ones -/
theorem past_late {l : List (Int × Int)} {s : Sc} {p k : Nat} (hl : 1 ≤ l.length) (hk : s.L ≤ k) : pastAt l s (p + l.length * k) = steadyAt l s p := by
  unfold pastAt steadyAt
  rw [cyc_add, evs_add, Nat.zero_add, evs_rep]
  have hr := row_pos (s := s) (p := p) hl
  have hw := wide_ok (L := s.L) hr
  have hx : s.L / (rowOf l s p).length + 1 ≤ k + 1 := by
    have := Nat.div_le_self s.L (rowOf l s p).length
    omega
  show lastN s.L (List.replicate s.L false ++ (evs l s (cyc l p).1 0 p ++ (List.replicate k (rowOf l s p)).flatten)) = _
  have hk2 : s.L ≤ k * (rowOf l s p).length := Nat.le_trans hk (Nat.le_mul_of_pos_right _ hr)
  rw [← List.append_assoc, lastN_app _ (by rw [PyProof.Rows.lm_len_rep_flat]; exact hk2)]
  have e1 := rep_more (rowOf l s p) hk2 1
  have e2 := rep_more (rowOf l s p) hw (k + 1 - (s.L / (rowOf l s p).length + 1))
  rw [show s.L / (rowOf l s p).length + 1 + (k + 1 - (s.L / (rowOf l s p).length + 1)) = k + 1 by omega] at e2
  rw [← e1, e2]
theorem rot_cyc {l : List (Int × Int)} {p : Nat} (hp : p < l.length) : (List.range' p l.length).map (cyc l) = l.drop p ++ l.take p := by
  apply List.ext_getElem?
  intro i
  rw [List.getElem?_map]
  rcases Nat.lt_or_ge i l.length with q | q
  · rw [List.getElem?_range' q]
    show some (cyc l (p + 1 * i)) = _
    rw [Nat.one_mul]
    rcases Nat.lt_or_ge i (l.length - p) with r | r
    · rw [List.getElem?_append_left (by rw [List.length_drop]; exact r), List.getElem?_drop, cyc_lt (by omega)]
    · rw [List.getElem?_append_right (by rw [List.length_drop]; exact r), List.length_drop, List.getElem?_take, if_pos (by omega)]
      have e : cyc l (p + i) = cyc l (i - (l.length - p)) := by
        rw [show p + i = (i - (l.length - p)) + l.length * 1 by omega, cyc_add]
      rw [e, cyc_lt (by omega)]
  · rw [List.getElem?_eq_none (by rw [List.length_range']; exact q), List.getElem?_eq_none (by rw [List.length_append, List.length_drop, List.length_take]; omega)]
    rfl
theorem row_rot {l : List (Int × Int)} {s : Sc} {p : Nat} (hp : p < l.length) : rowOf l s p = ((l.drop p ++ l.take p).filter (cnts s (cyc l p).1)).map bitOf := by
  unfold rowOf evs
  rw [rot_cyc hp]
/-- cells -/
noncomputable def cellD (s : Sc) (h : Int) (x : List Bool) : PyData := match s.w with
  | .folded => .int ((foldN x s.b h.toNat : Nat) : Int)
  | .shared => .str (bs x)
  | _ => .tuple [.int h, .str (bs x)]
noncomputable def steadyD (l : List (Int × Int)) (s : Sc) : List PyData := (List.range l.length).map fun p => cellD s (cyc l p).1 (steadyAt l s p)
/-! ### numbers of digits -/
noncomputable def numR : List Bool → Nat
  | [] => 0
  | b :: r => 2 * numR r + (if b then 1 else 0)
noncomputable def numv (l : List Bool) : Nat := numR l.reverse
theorem numv_app (l : List Bool) (b : Bool) : numv (l ++ [b]) = 2 * numv l + (if b then 1 else 0) := by
  unfold numv
  rw [List.reverse_append]
  rfl
theorem numR_lt : ∀ r : List Bool, numR r < 2 ^ r.length
  | [] => by decide
  | b :: r => by
    have := numR_lt r
    unfold numR
    rw [List.length_cons, Nat.pow_succ]
    split <;> omega
theorem numv_lt (l : List Bool) : numv l < 2 ^ l.length := by
  have := numR_lt l.reverse
  rw [List.length_reverse] at this
  exact this
theorem numR_bit : ∀ (r : List Bool) (i : Nat), (numR r).testBit i = r.getD i false
  | [], i => by simp [numR]
  | b :: r, 0 => by
    unfold numR
    cases b <;> simp [Nat.testBit_zero] <;> omega
  | b :: r, i + 1 => by
    have h := numR_bit r i
    unfold numR
    rw [Nat.testBit_succ]
    have e : (2 * numR r + (if b = true then 1 else 0)) / 2 = numR r := by
      cases b <;> simp <;> omega
    rw [e, h]
    rfl
theorem numv_bit (l : List Bool) (i : Nat) : (numv l).testBit i = lowD l i := numR_bit _ _
theorem low_out {l : List Bool} {i : Nat} (h : l.length ≤ i) : lowD l i = false := by
  unfold lowD
  rw [List.getD_eq_getElem?_getD, List.getElem?_eq_none (by rw [List.length_reverse]; exact h)]
  rfl
/-- the pieces of w digits, one behind another -/
noncomputable def FoldAt (l : List Bool) (w h k f : Nat) : Prop := ∀ j, j < w → f.testBit j = (h.testBit j ^^ par (lowD l) w j (w * k))
theorem foldAt_zero (l : List Bool) (w h : Nat) : FoldAt l w h 0 h := fun j hj => by
  rw [Nat.mul_zero]
  show _ = (h.testBit j ^^ false)
  rw [Bool.xor_false]
theorem foldAt_next {l : List Bool} {w h k f : Nat} (hf : FoldAt l w h k f) : FoldAt l w h (k + 1) (f ^^^ (numv l / 2 ^ (w * k)) % 2 ^ w) := fun j hj => by
  rw [Nat.testBit_xor, hf j hj, par_next hj, Nat.testBit_mod_two_pow, Nat.testBit_div_two_pow, numv_bit, decide_eq_true hj, Bool.true_and, Bool.xor_assoc, Nat.add_comm]
theorem foldAt_end {l : List Bool} {w h k f : Nat} (hf : FoldAt l w h k f) (he : w = 0 ∨ numv l / 2 ^ (w * k) = 0) : f % 2 ^ w = foldN l w h := by
  apply Nat.eq_of_testBit_eq
  intro j
  unfold foldN
  rw [Nat.testBit_mod_two_pow, bsum_bit]
  by_cases hj : j < w
  · rw [decide_eq_true hj, Bool.true_and, Bool.true_and, hf j hj, Bool.xor_comm]
    congr 1
    have h0 : numv l / 2 ^ (w * k) = 0 := by
      rcases he with e | e
      · omega
      · exact e
    have hlt : numv l < 2 ^ (w * k) := by
      rcases Nat.lt_or_ge (numv l) (2 ^ (w * k)) with q | q
      · exact q
      · have := Nat.div_pos q (Nat.two_pow_pos _)
        omega
    have o1 : ∀ i, w * k ≤ i → lowD l i = false := fun i hi => by
      rw [← numv_bit]
      exact Nat.testBit_lt_two_pow (Nat.lt_of_lt_of_le hlt (Nat.pow_le_pow_right (by decide) hi))
    have p1 := par_more (f := lowD l) (w := w) (a := j) o1 l.length
    have p2 := par_more (f := lowD l) (w := w) (a := j) (n := l.length) (fun i hi => low_out hi) (w * k)
    rw [← p1, ← p2, Nat.add_comm]
  · rw [decide_eq_false hj, Bool.false_and, Bool.false_and]
end Dl

namespace Dl
open PySem PySem.Spec PyProof.Rows L2
/-! ### a, b = x, [] : some of the names own their new lists -/
noncomputable def setO (o : Bool) (r : RV) (F : RV → Prop) : Prop := match r with
  | .d x => F (.d x)
  | .new xs => if o = true then F (.new xs) else F (.d (.list xs))
  | .own T => o = true ∧ F (.own T)
  | _ => False
noncomputable def dPar2o (i j : Nat) (o1 o2 : Bool) (wa wb : DE) : DS := fun D ρ n => wa ρ n fun r n1 => setO o1 r fun r' => wb ρ n1 fun r2 n2 => setO o2 r2 fun r2' => D.nx ((ρ.set i (some r')).set j (some r2')) n2
noncomputable def dPar3o (i j l : Nat) (o1 o2 o3 : Bool) (wa wb wc : DE) : DS := fun D ρ n => wa ρ n fun r n1 => setO o1 r fun r' => wb ρ n1 fun r2 n2 => setO o2 r2 fun r2' => wc ρ n2 fun r3 n3 => setO o3 r3 fun r3' => D.nx (((ρ.set i (some r')).set j (some r2')).set l (some r3')) n3
section
variable {X : Cx} {E : Ent} {pos : Pos} {x y z : Str} {px py pz pt : Pos} {wa wb wc : DE} {ea eb ec : Expr} {kt k2 : Nat} {pt2 : Pos}
end
/-! ### methods of texts: rjust with a sign -/
noncomputable def wRjust : DMt := fun z xs Q => match xs with
  | [.int i, .str f] => (0 ≤ i ∧ i ≤ 1000 ∧ f.length = 1) ∧ Q (.d (.str (Txt.rjustF z i (f.cps.getD 0 0))))
  | _ => False
theorem bs_lay (x : List Bool) : PyData.canLay0 (.str (bs x)) = true := by
  show PyData.strOk (bs x) = true
  unfold PyData.strOk
  rw [← Array.all_toList, bs_list, List.all_eq_true]
  intro c hc
  obtain ⟨b, _, rfl⟩ := List.mem_map.mp hc
  cases b <;> rfl
/-! ### reprs of texts, schemes, traces, cells -/
end Dl

namespace Dl
open PySem PySem.Spec PyProof.Rows L2 GenW
/-! ### generators: segments of a for, an if -/
section
variable {prog : Program} {w : World} {A : Around} {R : GenEnd} {Y : Protocol} {n : Nat} {s₀ : Shared} {c : Code} {fs : List Frame} {s : Shared} {env : Env}
  {K : Flow → Sem PySem.Fin} {J : Value → Sem PySem.Fin} {gd : Bool → Bool} {lv : List Value → List Value}
end
end Dl

namespace Dl
open PySem PySem.Spec PyProof.Rows L2 GenW
/-! ### generators: up to the first item. D.rt: what is wanted of the item that is handed out -/
structure G1C (X : Cx) (A : Around) (c : Code) (fs : List Frame) (gd : Bool → Bool) : Prop where
  over : A.over c fs = X.A
  split : splitAtGen fs = none
  guard : fs.any Frame.guarded = false
  gd : gd false = false
noncomputable def Y1 (X : Cx) (Qy : VK) : Protocol := fun _ _ v s _ => ∃ x ip σ H, RelV x v ∧ Inv X ip σ H s ∧ Qy x H
noncomputable abbrev noRt (D : Ends) : Ends := { D with rt := fun _ _ => False }
structure G1K (X : Cx) (ip : List (Addr × Obj)) (A : Around) (R : GenEnd) (Qy : VK) (c : Code) (fs : List Frame) (K : Flow → Sem PySem.Fin) (D : Ends) : Prop where
  ok : ∀ (s₀ s : Shared) (f : Flow), SP X ip (noRt D) f s → Seg (model X.prog X.w) A R (Y1 X Qy) 1 s₀ c (K f) fs s
structure GS1 (X : Cx) (st : Stmt) (t : TS) : Prop where
  run : ∀ (A : Around) (ip : List (Addr × Obj)) (R : GenEnd) (s₀ : Shared) (c : Code) (fs : List Frame) (K : Flow → Sem PySem.Fin) (J : Value → Sem PySem.Fin) (gd : Bool → Bool) (lv : List Value → List Value) (s : Shared) (σ : L2.St) (H : Hp) (D : Ends),
    G1C X A c fs gd → G1K X ip A R D.rt c fs K D → Inv X ip σ H s → t D σ H → Seg (model X.prog X.w) A R (Y1 X D.rt) 1 s₀ c ((exec st X.env).wrap K J gd lv) fs s
structure GSs1 (X : Cx) (st : List Stmt) (t : TS) : Prop where
  run : ∀ (A : Around) (ip : List (Addr × Obj)) (R : GenEnd) (s₀ : Shared) (c : Code) (fs : List Frame) (K : Flow → Sem PySem.Fin) (J : Value → Sem PySem.Fin) (gd : Bool → Bool) (lv : List Value → List Value) (s : Shared) (σ : L2.St) (H : Hp) (D : Ends),
    G1C X A c fs gd → G1K X ip A R D.rt c fs K D → Inv X ip σ H s → t D σ H → Seg (model X.prog X.w) A R (Y1 X D.rt) 1 s₀ c ((execs st X.env).wrap K J gd lv) fs s
section
variable {X : Cx} {st : Stmt} {rest : List Stmt}
end
end Dl

namespace Dl
open PySem PySem.Spec PyProof.Rows L2 GenW
/-! ### a generator def's promise: its first item, or its end -/
noncomputable abbrev SpG1 := List V → Hp → VK → (Hp → Prop) → Prop
noncomputable def REnd1 (P : Program) (w : World) (outer : List Env) (H : Hp) (s : Shared) (Qe : Hp → Prop) : GenEnd := fun _ _ r s1 =>
  ((r = .ok (.ret .none) ∨ r = .ok .next) ∧ ∃ H', s1.os = s.os ∧ AllBare s1.gens ∧ Un (frs outer) [] H H' s.heap s1.heap ∧ HOk P w H' s1.heap ∧ Qe H') ∨ ∃ e, r = .error e ∧ False
noncomputable def YItem1 (P : Program) (w : World) (outer : List Env) (H : Hp) (s : Shared) (Qy : VK) : Protocol := fun _ _ v s1 _ =>
  ∃ x H', RelV x v ∧ s1.os = s.os ∧ AllBare s1.gens ∧ Un (frs outer) [] H H' s.heap s1.heap ∧ HOk P w H' s1.heap ∧ Qy x H'
noncomputable def Made1 (P : Program) (w : World) (k : Nat) (outer : List Env) (H : Hp) (s : Shared) (Qy : VK) (Qe : Hp → Prop) (u : Value) (s' : Shared) : Prop :=
  ∃ (a : Addr) (g : Nat) (c : Code), u = .ref a ∧ s'.heap.IsGen a g ∧ s'.gens[g]? = some (.fresh c) ∧ s'.heap.NoLimit ∧ AllBare s'.gens ∧ s'.os = s.os ∧
    ∀ (A : Around) (s2 : Shared), Room k A → A.guards = some [] → A.frames = some outer → s2.heap = s'.heap → s2.os = s'.os → AllBare s2.gens →
      Seg (model P w) A (REnd1 P w outer H s Qe) (YItem1 P w outer H s Qy) 1 s2 c ((model P w).den c) [] s2
structure G1Fn (P : Program) (w : World) (K : PySem.W.Frag) (mg : Str → Option Value) (base : Heap) (k : Nat) (f : Addr) (fd : FuncData) (ps : List Str) (sp : SpG1) : Prop where
  len : ∀ vs H Q E, sp vs H Q E → vs.length = ps.length
  run : ∀ (A : Around) (outer : List Env) (s : Shared) (H : Hp) (args : Args) (us : List Value) (vs : List V) (Qy : VK) (Qe : Hp → Prop), Room k A → Env0 P w K mg base A outer s H → BindsTo s fd args (ps.zip us) → Vals vs us → sp vs H Qy Qe →
    codeAny (model P w) A (.call (.ref f) args) (fun r s' => match r with | .ok (.ret u) => Made1 P w k outer H s Qy Qe u s' | _ => False) s
/-! ### for x in f(..): a body that always leaves -/
section
variable {X : Cx} {k : Nat} {f : Addr} {fd : FuncData} {ps : List Str} {sp : SpG1} {x : Str} {p pos cpos : Pos} {e : Expr} {es : List Expr} {t : TA} {tg : Expr} {gg : TG} {body : List Stmt} {tb : TS}
end
end Dl

namespace Dl
open PySem PySem.Spec PyProof.Rows L2 GenW
/-! ### generators at data level, up to the first item -/
noncomputable def dNoRt (w : DS) : DS := fun D ρ n => w { D with rt := fun _ _ => False } ρ n
section
variable {X : Cx} {E : Ent} {st : Stmt} {rest : List Stmt} {w u : DS} {pos : Pos}
variable {c e tg iter : Expr} {we : DE} {wt : DT} {a b body : List Stmt} {wa wb : DS} {yp : Pos}
end
/-! ### promises -/
noncomputable abbrev DSpG := List RV → Nat → (RV → Nat → Prop) → (Nat → Prop) → Prop
noncomputable def liftG (K : PySem.W.Frag) (c : DSpG) : SpG1 := fun vs H Qy Qe => ∃ (rs : List RV) (n : Nat) (B : Hp) (bxs : List Addr) (Qdy : RV → Nat → Prop) (Qde : Nat → Prop),
  Good bxs n B H ∧ ValsR K bxs n B H rs vs ∧ argsIn rs ∧ c rs n Qdy Qde ∧
    (∀ r n1 v B1 H1, Qdy r n1 → retOk r → Step bxs n n1 B H B1 H1 → ValR K bxs n1 B1 H1 r v → FrR H r v → Qy v H1) ∧ ∀ n1 B1 H1, Qde n1 → Step bxs n n1 B H B1 H1 → Qe H1
structure DefG (P : Program) (w : World) (K : PySem.W.Frag) (mg : Str → Option Value) (base : Heap) (k : Nat) (x : Str) (ps : List Str) (c : DSpG) : Prop where
  ex : ∃ (f : Addr) (fd : FuncData), G1Fn P w K mg base k f fd ps (liftG K c) ∧ mg x = some (.ref f) ∧ PySem.W.keepIn K (.ref f) = true ∧ Binds K fd ps []
/-! ### for x in f(..): return .. -/
noncomputable def dFirst (c : DSpG) (wr : DA) (wg : DG) (wb : DS) : DS := fun D ρ n => wr ρ n fun rs n1 => argsOk rs ∧ c (rs.map asArg) n1 (fun r n2 => onD r fun x => wg x ρ fun ρ' => wb { nx := fun _ _ => False, ct := fun _ _ => False, bk := D.nx, rt := D.rt } ρ' n2) (fun n2 => D.nx ρ n2)
end Dl

namespace Dl
open PySem PySem.Spec PyProof.Rows L2
/-! ### pairs of positions -/
noncomputable abbrev dN (q : Nat × Nat) : PyData := .tuple [.int (q.1 : Int), .int (q.2 : Int)]
section
variable (t : Nat → Nat → Bool) (n : Nat)
end
section
variable {t : Nat → Nat → Bool} {n : Nat}
end
/-! ### cells that are the same -/
noncomputable def ceq (s : Sc) (h : Int) (x : List Bool) (h' : Int) (x' : List Bool) : Bool := match s.w with
  | .folded => decide ((foldN x s.b h.toNat : Int) = (foldN x' s.b h'.toNat : Int))
  | .shared => decide (bs x = bs x')
  | _ => PyData.eqv (.tuple [.int h, .str (bs x)]) (.tuple [.int h', .str (bs x')])
theorem eqv_pair (h h' : Int) (x x' : List Bool) : PyData.eqv (.tuple [.int h, .str (bs x)]) (.tuple [.int h', .str (bs x')]) = true ↔ h = h' ∧ x = x' := by
  have e := eqv_tup (xs := [.int h, .str (bs x)]) (ys := [.int h', .str (bs x')]) (by show (true && (PyData.canLay0 (.str (bs x)) && true)) = true; rw [bs_lay]; rfl) (by show (true && (PyData.canLay0 (.str (bs x')) && true)) = true; rw [bs_lay]; rfl)
  rw [e]
  constructor
  · intro z
    injection z with z1 z2
    injection z1 with z1
    injection z2 with z2 _
    injection z2 with z2
    exact ⟨z1, bs_inj z2⟩
  · rintro ⟨rfl, rfl⟩
    rfl
theorem ceq_iff {s : Sc} {h h' : Int} {x x' : List Bool} : ceq s h x h' x' = true ↔ cellD s h x = cellD s h' x' := by
  obtain ⟨w, L, b⟩ := s
  cases w with
  | folded =>
    show decide _ = true ↔ PyData.int _ = PyData.int _
    rw [decide_eq_true_iff]
    exact ⟨fun z => by rw [z], fun z => by injection z⟩
  | shared =>
    show decide _ = true ↔ PyData.str _ = PyData.str _
    rw [decide_eq_true_iff]
    exact ⟨fun z => by rw [z], fun z => by injection z⟩
  | own =>
    show PyData.eqv _ _ = true ↔ _
    rw [eqv_pair]
    constructor
    · rintro ⟨rfl, rfl⟩
      rfl
    · intro z
      injection z with z
      injection z with z1 z2
      injection z1 with z1
      injection z2 with z2 _
      injection z2 with z2
      exact ⟨z1, bs_inj z2⟩
  | split =>
    show PyData.eqv _ _ = true ↔ _
    rw [eqv_pair]
    constructor
    · rintro ⟨rfl, rfl⟩
      rfl
    · intro z
      injection z with z
      injection z with z1 z2
      injection z1 with z1
      injection z2 with z2 _
      injection z2 with z2
      exact ⟨z1, bs_inj z2⟩
/-- positions that clash -/
noncomputable def clB (l : List (Int × Int)) (s : Sc) (i j : Nat) : Bool := ceq s (cyc l i).1 (steadyAt l s i) (cyc l j).1 (steadyAt l s j) && !decide ((cyc l i).2 = (cyc l j).2)
theorem sc_at {l : List (Int × Int)} {s : Sc} {i : Nat} (h : i < l.length) : atI (steadyD l s) (i : Int) = some (cellD s (cyc l i).1 (steadyAt l s i)) := by
  refine atI_of (by omega) ?_
  unfold steadyD
  rw [Int.toNat_natCast, List.getElem?_map, List.getElem?_range h]
  rfl
theorem steadyD_len (l : List (Int × Int)) (s : Sc) : (steadyD l s).length = l.length := by
  unfold steadyD
  rw [List.length_map, List.length_range]
/-! ### the first number -/
/-! ### == of lists -/
theorem shaped_list {xs : List PyData} (hp : plainAll xs = true) (hd : ∀ x ∈ xs, PyData.depth x ≤ 60) : SeqAt.shaped (.list xs) = true := by
  have h2 := depth_all hd
  unfold SeqAt.shaped
  rw [Bool.and_eq_true]
  refine ⟨lay_plain (.list xs) hp, decide_eq_true ?_⟩
  unfold PyData.depth
  omega
end Dl

namespace Dl
open PySem PySem.Spec PyProof.Rows L2
/-! ### a keyword-only parameter d with the default i, the last one -/
structure DefW (P : Program) (w : World) (K : PySem.W.Frag) (mg : Str → Option Value) (base : Heap) (k : Nat) (x : Str) (ps : List Str) (st : Stmt) (d : Str) (i : Int) (c : DSp) : Prop where
  ex : ∃ (f D : Addr) (oc : Value) (od : Option Addr) (doc pm : Value) (an : Option Addr) (cdv ct : Value) (osl : Array (Option Value)) (t : Tok),
    FnG P w K mg base k f (PySem.W.fnOf x x (defArgs st) (defBody st) (defScope st) .none (.ref D) doc pm an cdv ct) ps (lift K c) ∧ mg x = some (.ref f) ∧ PySem.W.keepIn K (.ref f) = true ∧ PySem.W.nsIn K D d = some (some (.int i t))
section
variable {X : Cx} {k : Nat} {ps ks : List Str} {st : Stmt} {c : DSp} {x d : Str} {i : Int} {p pos : Pos} {e : Expr} {es : List Expr} {kws : List Keyword} {wr wk : DA}
/-- the values, picked, the default behind them -/
noncomputable def dCallW (np : Nat) (idx : List Nat) (i : Int) (c : DSp) (wr : DA) : DE := dCallK idx c fun ρ n Q => wr ρ n fun rs n1 => rs.length = np ∧ Q (rs ++ [.d (.int i)]) n1
end
end Dl

namespace Dl
open PySem PySem.Spec PyProof.Rows L2
/-! ### histories of all but one of the outcomes are enough -/
end Dl

namespace Dl
open PySem PySem.Spec PyProof.Rows L2
/-! ### len(set(xs)) of texts or of ints -/
/-- the first i values without the ones that were met before -/
noncomputable def metK {κ : Type} [DecidableEq κ] (val : Nat → κ) : Nat → List κ
  | 0 => []
  | i + 1 => if val i ∈ metK val i then metK val i else metK val i ++ [val i]
theorem metK_le {κ : Type} [DecidableEq κ] (val : Nat → κ) : ∀ i, (metK val i).length ≤ i
  | 0 => Nat.le_refl _
  | i + 1 => by
    have := metK_le val i
    unfold metK
    split
    · omega
    · rw [List.length_append, List.length_singleton]; omega
section
variable {prog : Program} {w : World} {κ : Type} [DecidableEq κ] {knd : PySem.KeyKind prog w κ}
theorem setOf_as {h : Heap} {a : Addr} {S S' : κ → Bool} {n n' : Nat} (x : h.SetOf knd a S n) (e : ∀ k, S k = S' k) (en : n = n') : h.SetOf knd a S' n' := by
  obtain rfl : S = S' := funext e
  exact en ▸ x
theorem setOf_at {h h' : Heap} {a : Addr} {S : κ → Bool} {n : Nat} (x : h.SetOf knd a S n) (e : ∀ o, h.get? a = some o → h'.get? a = some o) : h'.SetOf knd a S n := by
  obtain ⟨o, es, ep, t, ho, r⟩ := x
  exact ⟨o, es, ep, t, e o ho, r⟩
theorem metK_mem (val : Nat → κ) (i : Nat) (k : κ) : (decide (k ∈ metK val i) || decide (k = val i)) = decide (k ∈ metK val (i + 1)) := by
  by_cases c : val i ∈ metK val i
  · rw [show metK val (i + 1) = metK val i from by show (if _ then _ else _) = _; rw [if_pos c]]
    by_cases e : k = val i
    · subst e; simp [c]
    · simp [e]
  · rw [show metK val (i + 1) = metK val i ++ [val i] from by show (if _ then _ else _) = _; rw [if_neg c]]
    simp
theorem metK_len (val : Nat → κ) (i : Nat) : (if decide (val i ∈ metK val i) = true then (metK val i).length else (metK val i).length + 1) = (metK val (i + 1)).length := by
  by_cases c : val i ∈ metK val i
  · rw [show metK val (i + 1) = metK val i from by show (if _ then _ else _) = _; rw [if_pos c]]
    simp [c]
  · rw [show metK val (i + 1) = metK val i ++ [val i] from by show (if _ then _ else _) = _; rw [if_neg c]]
    simp [c]
/-- the loop that fills the set from a walk -/
theorem fill_set {A : Around} {R : Result → Shared → Prop} {I : Addr} {fp wr : List Addr} {G : Array GenState → Array GenState → Prop} {n : Nat} {P : Nat → Value → Prop} {St : Nat → Shared → Prop} (W : WalksS prog w A.in1 I fp wr G n P St) (S : Addr) (ns : S ∉ fp)
    (val : Nat → κ) (hv : ∀ i v, P i v → knd.is (val i) v = true ∧ v.scannable = true) (nb : n + 1 < scanBound) : ∀ (k i : Nat) (s : Shared), n - i = k → i ≤ n → St i s → s.heap.SetOf knd S (fun y => decide (y ∈ metK val i)) (metK val i).length →
      (∀ s', Moved (S :: wr) G s s' → s'.heap.SetOf knd S (fun y => decide (y ∈ metK val n)) (metK val n).length → R (.ok (.ret .none)) s') → codeAny (model prog w) A (.builtin "set.update.loop" ⟨[.ref S, .ref I], []⟩) R s := by
  have nw : S ∉ wr := fun q => ns (W.sub _ q)
  have sub : ∀ b ∈ wr, b ∈ S :: wr := fun b q => List.mem_cons_of_mem _ q
  intro k
  induction k with
  | zero =>
    intro i s ek hi st hS hR
    obtain rfl : i = n := by omega
    refine codeAny_builtin F.entry_set_update_loop ?_
    rw [Around.under_plainId F.plain_set_update_loop _]
    show wpAny _ A.in1 (pyNext (.ref I) >>= _) _ _ s
    refine wpAny_bind (W.done s _ _ st fun t hm => ?_)
    show wpAny _ A.in1 (ret Value.none) _ _ t
    exact wpAny_pure (hR t (hm.mono sub) (setOf_at hS fun o e => hm.heap S o nw e))
  | succ k ih =>
    intro i s ek hi st hS hR
    have lt : i < n := by omega
    refine codeAny_builtin F.entry_set_update_loop ?_
    rw [Around.under_plainId F.plain_set_update_loop _]
    show wpAny _ A.in1 (pyNext (.ref I) >>= _) _ _ s
    refine wpAny_bind (W.item i s _ _ lt st fun v t hP st2 hm => ?_)
    obtain ⟨v1, v2⟩ := hv i v hP
    have hS2 := setOf_at (h' := t.heap) hS fun o e => hm.heap S o nw e
    show wpAny _ A.in1 (holding [v] (setAdd S v) >>= _) _ _ t
    refine wpAny_bind (wpAny_holding ?_)
    unfold setAdd
    refine wpAny_holding (wpAny_bind (knd.pyHash v1 ?_))
    have := metK_le val i
    refine wpAny_setAddHashed_of (knd := knd) (s := { t with toks := t.toks + 1 }) v1 v2 hS2 (by omega) fun h' sb hS3 => ?_
    refine wpAny_pure ⟨plainId_quiet F.plain_set_update_loop _, ih (i + 1) _ (by omega) lt (W.frame _ t _ _ st2 (Nat.le_succ _) fun b q o e => ?_) (setOf_as hS3 (metK_mem val i) (metK_len val i)) fun u hm2 hS4 => ?_⟩
    · rw [sb.2 b (fun z : b = S => ns (z ▸ q))]; exact e
    · refine hR u (Moved.trans W.gtrans ((hm.mono sub).then_heap (Nat.le_succ _) fun b o q e => ?_) hm2) hS4
      rw [sb.2 b (fun z : b = S => q (z ▸ List.mem_cons_self))]; exact e
end
section
variable {prog : Program} {w : World} {A : Around} {E : Value → Shared → Prop} {s : Shared}
noncomputable abbrev set0 (led : Bool) : Obj := { cls := .type "set", dict := none, data := .set #[] 0 (.fresh 0 0 led) }
theorem set_call {l : Addr} {Post : Heap → Prop} {Q : Value → Shared → Prop}
    (ini : ∀ led : Bool, led = (!w.params.followText "set-order") → wpAny (model prog w) A.in1.in1 (Builtin.«set.__init__» ⟨[.ref s.heap.objs.size, .ref l], []⟩) (fun fin s' => match fin with
      | .done f => wants (fun r t => r = .none ∧ ∃ h' tk, t = { s with heap := h', toks := tk } ∧ Post h') E (.ok f) s'
      | .again c' => c'.quiet = true ∧ codeAny (model prog w) A.in1 c' (wants (fun r t => r = .none ∧ ∃ h' tk, t = { s with heap := h', toks := tk } ∧ Post h') E) s') E { s with heap := s.heap.push (set0 led) })
    (q : ∀ (h' : Heap) (tk : Nat), Post h' → Q (.ref s.heap.objs.size) { s with heap := h', toks := tk }) : wpAny (model prog w) A (call (.type "set") [.ref l]) Q E s := by
  obtain ⟨c, tl, hmro⟩ := F.called_set.mro
  have hmade := F.called_set.made
  have hsub := F.called_set.sub
  refine wpAny_call (codeAny_of_tree ?_)
  show wpAny _ _ (callAny (.type "set") _) _ _ _
  refine wpAny_pure ⟨Code.quiet_builtin _ (by decide +kernel), codeAny_builtin F.entry_type_call ?_⟩
  rw [Around.under_plain (weight_type_call_type "set" [.ref l] []) rfl]
  have h1 := F.called_set.notType
  have h2 := F.called_set.canCreate
  have hct := F.typeCall_set_1 (.ref l)
  repeat (any_goals (first | assumption | wp_step))
  refine codeAny_mono (code_set_led1 (.ref l) (E := E) (Q₁ := fun x s1 => ∃ led : Bool, led = (!w.params.followText "set-order") ∧ x = .ref s.heap.objs.size ∧ s1 = { s with heap := s.heap.push (set0 led) }) ⟨_, rfl, rfl, rfl⟩) fun r s1 hr => ?_
  cases r with
  | error e => exact hr
  | ok fl =>
    cases fl with
    | ret x =>
      obtain ⟨led, hled, rfl, rfl⟩ := hr
      have hS : (s.heap.push (set0 led)).get? s.heap.objs.size = some (set0 led) := Heap.get?_push_size _ rfl
      have hT : Shared.TypeIs { s with heap := s.heap.push (set0 led) } (.ref s.heap.objs.size) "set" := ⟨_, hS, rfl⟩
      have hli := F.called_set.init.lookup
      have hbi := F.called_set.init.bind (.ref s.heap.objs.size)
      repeat (any_goals (first | assumption | wp_step))
      refine codeAny_mono (codeAny_call_builtin (R := wants (fun r t => r = .none ∧ ∃ h' tk, t = { s with heap := h', toks := tk } ∧ Post h') E) F.called_set.init.plain F.entry_set_init (check_set_init_1 hT (ini led hled))) fun r2 t hr2 => ?_
      cases r2 with
      | error e => exact hr2
      | ok fl =>
        cases fl with
        | ret r =>
          obtain ⟨rfl, h', tk, rfl, a1⟩ := hr2
          repeat (any_goals (first | assumption | wp_step))
          exact q _ _ a1
        | _ => exact hr2.elim
    | _ => exact hr.elim
theorem set_init {l : Addr} {cn : String} {o : Obj} {S : Addr} {led : Bool} {R : Result → Shared → Prop} (ho : s.heap.get? l = some o) (hc : o.cls = .type cn) (hS : s.heap.get? S = some (set0 led)) (e1 : isSubtype (.type cn) (.type "set") = pure false) (e2 : isSubtype (.type cn) (.type "frozenset") = pure false) (e3 : (Value.type cn == Value.type "dict") = false)
    (it : wpAny (model prog w) A (pyIter (.ref l)) (fun i s2 => codeAny (model prog w) A (.builtin "set.update.loop" ⟨[.ref S, i], []⟩) (fun r s3 => r = .ok (.ret .none) ∧ R (.ok (.ret .none)) s3) s2) E s) : wpAny (model prog w) A (Builtin.«set.__init__» ⟨[.ref S, .ref l], []⟩) (fun fin s' => fin = .done (.ret .none) ∧ R (.ok (.ret .none)) s') E s := by
  obtain ⟨ocls, odict, odata, oslots⟩ := o
  simp only at hc
  subst hc
  unfold Builtin.«set.__init__» noKeywords Builtin.Frozenset.updateFrom
  generalize hPI : pyIter = PI
  wp_walk
  subst hPI
  refine wpAny_mono it (fun i s2 h2 => wpAny_bind (wpAny_runValue (codeAny_mono h2 fun r s3 h3 => ?_))) fun _ _ z => z
  obtain ⟨rfl, h3⟩ := h3
  exact wpAny_pure (wpAny_pure ⟨rfl, h3⟩)
theorem set_new {l : Addr} {Post : Heap → Prop} {cn : String} {o : Obj} {Q : Value → Shared → Prop} (ho : s.heap.get? l = some o) (hc : o.cls = .type cn) (e1 : isSubtype (.type cn) (.type "set") = pure false) (e2 : isSubtype (.type cn) (.type "frozenset") = pure false) (e3 : (Value.type cn == Value.type "dict") = false)
    (it : ∀ led : Bool, led = (!w.params.followText "set-order") → wpAny (model prog w) A.in1.in1 (pyIter (.ref l)) (fun i s2 => codeAny (model prog w) A.in1.in1 (.builtin "set.update.loop" ⟨[.ref s.heap.objs.size, i], []⟩) (fun r t => r = .ok (.ret .none) ∧ ∃ h' tk, t = { s with heap := h', toks := tk } ∧ Post h') s2) E { s with heap := s.heap.push (set0 led) })
    (q : ∀ (h' : Heap) (tk : Nat), Post h' → Q (.ref s.heap.objs.size) { s with heap := h', toks := tk }) : wpAny (model prog w) A (call (.type "set") [.ref l]) Q E s := by
  refine set_call (Post := Post) (fun led hled => ?_) q
  refine wpAny_mono (set_init (s := { s with heap := s.heap.push (set0 led) }) (R := wants (fun r t => r = .none ∧ ∃ h' tk, t = { s with heap := h', toks := tk } ∧ Post h') E) (Heap.get?_push_of_some _ ho) hc (Heap.get?_push_size _ rfl) e1 e2 e3 (wpAny_mono (it led hled) (fun i s2 h2 => codeAny_mono h2 fun r s3 ⟨h3, h4⟩ => ⟨h3, rfl, h4⟩) fun _ _ z => z)) (fun fin s' h => ?_) fun _ _ z => z
  obtain ⟨rfl, h⟩ := h
  exact h
theorem none_of {b : Addr} (hb : s.heap.objs.size ≤ b) : s.heap.get? b = none := by
  cases q : s.heap.get? b with
  | none => rfl
  | some o => exact absurd (Nat.lt_of_lt_of_le (Heap.lt_size q) hb) (Nat.lt_irrefl _)
/-- what the loop's walk changed -/
theorem moved_end {x : Obj} {led : Bool} {s' : Shared} {Post : Heap → Prop} (hm : Moved [s.heap.objs.size, (s.heap.push (set0 led)).objs.size] (fun g g' => g' = g) { s with heap := (s.heap.push (set0 led)).push x } s')
    (h : (∀ b o, b < s.heap.objs.size → s.heap.get? b = some o → s'.heap.get? b = some o) → Post s'.heap) : ∃ h' tk, s' = { s with heap := h', toks := tk } ∧ Post h' := by
  obtain ⟨h', g', d', tk', os'⟩ := s'
  obtain rfl : g' = s.gens := hm.gens
  obtain rfl : d' = s.drawn := hm.drawn
  obtain rfl : os' = s.os := hm.os
  refine ⟨h', tk', rfl, h fun b o hb e => hm.heap b o ?_ (Heap.get?_push_of_some _ (Heap.get?_push_of_some _ e))⟩
  simp only [List.mem_cons, List.not_mem_nil, or_false, not_or]
  exact ⟨Nat.ne_of_lt hb, by rw [Heap.size_push]; exact Nat.ne_of_lt (Nat.lt_succ_of_lt hb)⟩
section
variable {κ : Type} [DecidableEq κ] {knd : PySem.KeyKind prog w κ} {l : Addr} {its : Array Value} {val : Nat → κ} {Q : Value → Shared → Prop}
theorem away {led : Bool} (lS : l < s.heap.objs.size) : l ≠ (s.heap.push (set0 led)).objs.size ∧ s.heap.objs.size ∉ [(s.heap.push (set0 led)).objs.size, l] := by
  rw [Heap.size_push]
  refine ⟨Nat.ne_of_lt (Nat.lt_succ_of_lt lS), ?_⟩
  simp only [List.mem_cons, List.not_mem_nil, or_false, not_or]
  exact ⟨Nat.ne_of_lt (Nat.lt_succ_self _), Nat.ne_of_gt lS⟩
theorem mkset (hh : A.handled = none) (hl : s.heap.IsList l its) (hv : ∀ i v, its[i]? = some v → knd.is (val i) v = true ∧ v.scannable = true) (nb : its.size + 1 < scanBound)
    (q : ∀ (h' : Heap) (tk : Nat), h'.SetOf knd s.heap.objs.size (fun y => decide (y ∈ metK val its.size)) (metK val its.size).length → (∀ b o, b < s.heap.objs.size → s.heap.get? b = some o → h'.get? b = some o) → Q (.ref s.heap.objs.size) { s with heap := h', toks := tk }) :
    wpAny (model prog w) A (call (.type "set") [.ref l]) Q E s := by
  obtain ⟨o, ho, hc, n, hd⟩ := hl
  refine set_new (Post := fun h' => h'.SetOf knd s.heap.objs.size (fun y => decide (y ∈ metK val its.size)) (metK val its.size).length ∧ ∀ b o, b < s.heap.objs.size → s.heap.get? b = some o → h'.get? b = some o) ho hc F.sub_list_set F.sub_list_frozenset (by decide) (fun led hled => ?_) fun h' tk z => q h' tk z.1 z.2
  have hl1 : (s.heap.push (set0 led)).IsList l its := ⟨o, Heap.get?_push_of_some _ ho, hc, n, hd⟩
  obtain ⟨a1, a2⟩ := away (led := led) (Heap.lt_size ho)
  exact wpAny_pyIter_list hl1 (fill_set (knd := knd) ((Walks.list (A := A.in1.in1.in1) (by simp [hh]) _ l a1 its).toS) s.heap.objs.size a2 val hv nb (its.size - 0) 0 _ (by omega) (Nat.zero_le _) ⟨⟨_, Heap.get?_push_size _ rfl, rfl, rfl⟩, hl1.push _⟩
    (setOf_as ((setObjOf_fresh (knd := knd) led).setOf (Heap.get?_push_of_some _ (Heap.get?_push_size _ rfl)) (by unfold scanBound; omega)) (fun _ => by simp [metK]) rfl) fun s' hm hS => ⟨rfl, moved_end hm fun k => ⟨hS, k⟩⟩)
theorem mksetT (hh : A.handled = none) (hl : s.heap.IsTuple l its) (hv : ∀ i v, its[i]? = some v → knd.is (val i) v = true ∧ v.scannable = true) (nb : its.size + 1 < scanBound)
    (q : ∀ (h' : Heap) (tk : Nat), h'.SetOf knd s.heap.objs.size (fun y => decide (y ∈ metK val its.size)) (metK val its.size).length → (∀ b o, b < s.heap.objs.size → s.heap.get? b = some o → h'.get? b = some o) → Q (.ref s.heap.objs.size) { s with heap := h', toks := tk }) :
    wpAny (model prog w) A (call (.type "set") [.ref l]) Q E s := by
  obtain ⟨o, ho, hc, n, hd⟩ := hl
  refine set_new (Post := fun h' => h'.SetOf knd s.heap.objs.size (fun y => decide (y ∈ metK val its.size)) (metK val its.size).length ∧ ∀ b o, b < s.heap.objs.size → s.heap.get? b = some o → h'.get? b = some o) ho hc F.sub_tuple_set F.sub_tuple_frozenset (by decide) (fun led hled => ?_) fun h' tk z => q h' tk z.1 z.2
  have hl1 : (s.heap.push (set0 led)).IsTuple l its := ⟨o, Heap.get?_push_of_some _ ho, hc, n, hd⟩
  obtain ⟨a1, a2⟩ := away (led := led) (Heap.lt_size ho)
  exact wpAny_pyIter_tuple hl1 (fill_set (knd := knd) ((Walks.tuple (A := A.in1.in1.in1) (by simp [hh]) _ l a1 its).toS) s.heap.objs.size a2 val hv nb (its.size - 0) 0 _ (by omega) (Nat.zero_le _) ⟨⟨_, Heap.get?_push_size _ rfl, rfl, rfl⟩, hl1.push _⟩
    (setOf_as ((setObjOf_fresh (knd := knd) led).setOf (Heap.get?_push_of_some _ (Heap.get?_push_size _ rfl)) (by unfold scanBound; omega)) (fun _ => by simp [metK]) rfl) fun s' hm hS => ⟨rfl, moved_end hm fun k => ⟨hS, k⟩⟩)
end
end
section
variable {X : Cx}
/-- how many different ones -/
noncomputable def distN {κ : Type} [DecidableEq κ] [Inhabited κ] (l : List κ) : Nat := (metK (fun i => l.getD i default) l.length).length
/-- a set of n things -/
noncomputable def setN (a : Addr) (n : Nat) : HO := .ext fun h => ∃ o es ep t, h.get? a = some o ∧ o.ExactSet ∧ o.data = .set es ep t ∧ t.fits es.size = true ∧ es.size = n ∧ n < scanBound
theorem setN_ok {κ : Type} [DecidableEq κ] {knd : PySem.KeyKind X.prog X.w κ} {H : Hp} {h : Heap} {a : Addr} {S : κ → Bool} {n : Nat} (x : h.SetOf knd a S n) : ObjOk X.prog X.w H h a (setN a n) := by
  obtain ⟨o, es, ep, t, ho, h1, h2, h3, h4, h5, h6, h7⟩ := x
  refine ⟨⟨o, es, ep, t, ho, h1, h2, h6, h7, by omega⟩, ⟨o, ho⟩, fun u1 u2 hx kp => ?_⟩
  obtain ⟨o, es, ep, t, ho, r⟩ := hx
  exact ⟨o, es, ep, t, kp o ho, r⟩
theorem vals_at {f : Nat → V} : ∀ {ys : List V} {us : List Value} {i : Nat} {u : Value}, Vals ys us → us[i]? = some u → ∃ y, ys[i]? = some y ∧ RelV y u
  | _, _, i, u, .nil, e => by simp at e
  | _, _, 0, u, .cons r _, e => by cases e; exact ⟨_, rfl, r⟩
  | _, _, i + 1, u, .cons _ rr, e => by
    obtain ⟨y, e1, e2⟩ := vals_at (f := f) rr (i := i) (by simpa using e)
    exact ⟨y, by simpa using e1, e2⟩
noncomputable def rSetN (K : PySem.W.Frag) : List V → Hp → VK → Prop := fun xs H Q => ∃ p ys, xs = [.ref p] ∧ (SqL K H p ys ∨ SqT K H p ys) ∧ ys.length ≤ 4000 ∧
  ((∃ ks : List Str, ys = ks.map V.str ∧ ∀ q, H q = none → Q (.ref q) (upd H q (setN q (distN ks)))) ∨ ∃ ks : List Int, ys = ks.map V.int ∧ ∀ q, H q = none → Q (.ref q) (upd H q (setN q (distN ks))))
theorem call_setN (hc : X.calm = true) : CallR X (.type "set") (rSetN X.K) := by
  intro pins s σ H xs us Q I r h
  obtain ⟨p, ys, rfl, hq, hb, h⟩ := h
  obtain ⟨u, rfl, rx⟩ := vals1 r
  cases rx
  obtain ⟨its, r', src⟩ : ∃ its, Vals ys its ∧ (s.heap.IsList p its.toArray ∨ s.heap.IsTuple p its.toArray) := by
    rcases hq with hq | hq
    · obtain ⟨its, r', pl, hz⟩ := I.list hq
      exact ⟨its, r', .inl pl.isList⟩
    · obtain ⟨its, r', pl, hz⟩ := I.tuple hq
      exact ⟨its, r', .inr (show s.heap.IsTuple p its.toArray from pl)⟩
  have el : its.length = ys.length := r'.length.symm
  have nb : its.toArray.size + 1 < scanBound := by rw [List.size_toArray]; unfold scanBound; omega
  rcases h with ⟨ks, rfl, q⟩ | ⟨ks, rfl, q⟩
  · have hv : ∀ i v, its.toArray[i]? = some v → (PySem.strKind X.prog X.w).is (ks.getD i default) v = true ∧ v.scannable = true := fun i v e => by
      obtain ⟨y, e1, e2⟩ := vals_at (f := fun _ => .non) r' (by rw [List.getElem?_toArray] at e; exact e)
      rw [List.getElem?_map] at e1
      obtain ⟨k, e3, rfl⟩ := Option.map_eq_some_iff.mp e1
      obtain ⟨t, rfl⟩ := e2
      refine ⟨?_, rfl⟩
      rw [List.getD_eq_getElem?_getD, e3]
      exact strKind_is _ _ _ _
    have fin : ∀ (h' : Heap) (tk : Nat), h'.SetOf (PySem.strKind X.prog X.w) s.heap.objs.size (fun y => decide (y ∈ metK (fun i => ks.getD i default) its.toArray.size)) (metK (fun i => ks.getD i default) its.toArray.size).length → (∀ b o, b < s.heap.objs.size → s.heap.get? b = some o → h'.get? b = some o) →
        EP X pins σ Q (.ref s.heap.objs.size) { s with heap := h', toks := tk } := fun h' tk hS kp => by
      rw [show its.toArray.size = ks.length from by rw [List.size_toArray, el, List.length_map]] at hS
      exact ⟨.ref s.heap.objs.size, _, I.laid (fun b o e => kp b o (Heap.lt_size e) e) (Nat.le_refl _) (setN_ok hS), rfl, q _ (I.hok.fresh (Nat.le_refl _))⟩
    rcases src with pl | pl
    · exact mkset (knd := PySem.strKind X.prog X.w) (val := fun i => ks.getD i default) (I.ok.hd hc) pl hv nb fin
    · exact mksetT (knd := PySem.strKind X.prog X.w) (val := fun i => ks.getD i default) (I.ok.hd hc) pl hv nb fin
  · have hv : ∀ i v, its.toArray[i]? = some v → (PySem.intKind X.prog X.w).is (ks.getD i default) v = true ∧ v.scannable = true := fun i v e => by
      obtain ⟨y, e1, e2⟩ := vals_at (f := fun _ => .non) r' (by rw [List.getElem?_toArray] at e; exact e)
      rw [List.getElem?_map] at e1
      obtain ⟨k, e3, rfl⟩ := Option.map_eq_some_iff.mp e1
      obtain ⟨t, rfl⟩ := e2
      refine ⟨?_, rfl⟩
      rw [List.getD_eq_getElem?_getD, e3]
      exact intKind_is _ _ _ _
    have fin : ∀ (h' : Heap) (tk : Nat), h'.SetOf (PySem.intKind X.prog X.w) s.heap.objs.size (fun y => decide (y ∈ metK (fun i => ks.getD i default) its.toArray.size)) (metK (fun i => ks.getD i default) its.toArray.size).length → (∀ b o, b < s.heap.objs.size → s.heap.get? b = some o → h'.get? b = some o) →
        EP X pins σ Q (.ref s.heap.objs.size) { s with heap := h', toks := tk } := fun h' tk hS kp => by
      rw [show its.toArray.size = ks.length from by rw [List.size_toArray, el, List.length_map]] at hS
      exact ⟨.ref s.heap.objs.size, _, I.laid (fun b o e => kp b o (Heap.lt_size e) e) (Nat.le_refl _) (setN_ok hS), rfl, q _ (I.hok.fresh (Nat.le_refl _))⟩
    rcases src with pl | pl
    · exact mkset (knd := PySem.intKind X.prog X.w) (val := fun i => ks.getD i default) (I.ok.hd hc) pl hv nb fin
    · exact mksetT (knd := PySem.intKind X.prog X.w) (val := fun i => ks.getD i default) (I.ok.hd hc) pl hv nb fin
theorem call_lenN : CallR X (.builtin "len") (fun xs H Q => ∃ a n, xs = [.ref a] ∧ H a = some (setN a n) ∧ Q (.int (n : Int)) H) := by
  intro pins s σ H xs us Q I r h
  obtain ⟨a, n, rfl, hq, q⟩ := h
  obtain ⟨u, rfl, rx⟩ := vals1 r
  cases rx
  obtain ⟨o, es, ep, t, ho, h1, h2, h3, rfl, h5⟩ := (show ObjOk X.prog X.w H s.heap a (setN a n) from I.hok a _ hq).1
  unfold scanBound at h5
  exact call_len_set ho h1 h2 h3 (by omega) ⟨.int (es.size : Int), H, I.kept fun b u e => e, ⟨_, rfl⟩, q⟩
end
end Dl

namespace Dl
open PySem PySem.Spec PyProof.Rows L2
/-! ### isinstance(x, T) of data, T one built-in class -/
noncomputable def tyOfD : PyData → String
  | .int _ => "int"
  | .bool _ => "bool"
  | .str _ => "str"
  | .none => "NoneType"
  | .tuple _ => "tuple"
  | .list _ => "list"
  | .dict _ => "dict"
noncomputable def isTy (T : String) (x : PyData) : Bool := tyOfD x == T || (T == "int" && tyOfD x == "bool")
structure IsT (K : PySem.W.Frag) (T : String) : Prop where
  ok : ∀ n ∈ ["int", "bool", "str", "NoneType", "tuple", "list", "dict"], PySem.W.kitOne K (.type n) (.type T) = some (n == T || (T == "int" && n == "bool"))
/-- the data with a type here -/
noncomputable def tyB : PyData → Bool
  | .int _ | .bool _ | .str _ | .none | .tuple _ | .list _ | .dict _ => true
section
variable {X : Cx}
noncomputable def dIsI (T : String) (wa : DE) : DE := fun ρ n Q => wa ρ n fun r n1 => onO (view r) fun x => tyB x = true ∧ Q (.d (.bool (isTy T x))) n1
end
end Dl

namespace Dl
open PySem PySem.Spec PyProof.Rows L2
/-! ### x << k of wide ints -/
end Dl

namespace Dl
open PySem PySem.Spec PyProof.Rows L2
/-! ### dicts whose keys are None, numbers, texts: {}, d.get(k, x), d[k] = v -/
noncomputable def lfD : Leaf → PyData
  | .none => .none
  | .num i => .int i
  | .text x => .str x
noncomputable def dLf (P : Program) (w : World) (a : Addr) (kvs : List (Leaf × V)) : HO := .ext fun h => kvs.length ≤ sizeLine ∧ (a == sysModules) = false ∧ ∃ vs, KV kvs vs ∧ h.DictOf (leafKind P w) a vs
section
variable {P : Program} {w : World}
end
section
variable {X : Cx} {pins : List (Addr × Obj)} {σ : L2.St} {H : Hp} {s : Shared} {a : Addr} {kvs : List (Leaf × V)}
end
section
variable {X : Cx} {o i e f value : Expr} {pos pos' apos cpos : Pos} {td ty tx tv : TE}
end
/-- what a table gives -/
noncomputable def OR (K : PySem.W.Frag) (B : Hp) : Option V → Option PyData → Prop
  | none, none => True
  | some v, some x => Dp K B v x
  | _, _ => False
theorem OR.mono {K : PySem.W.Frag} {B B' : Hp} (s : Same B B') {v : Option V} {x : Option PyData} (h : OR K B v x) : OR K B' v x := by
  cases v <;> cases x
  · trivial
  · exact h.elim
  · exact h.elim
  · exact dpSame s _ _ h
theorem OR.getD {K : PySem.W.Frag} {B : Hp} {v : Option V} {x : Option PyData} {u : V} {y : PyData} (h : OR K B v x) (g : Dp K B u y) : Dp K B (v.getD u) (x.getD y) := by
  cases v <;> cases x
  · exact g
  · exact h.elim
  · exact h.elim
  · exact h
noncomputable def upF (f : Leaf → Option PyData) (k : Leaf) (y : PyData) : Leaf → Option PyData := fun j => if j = k then some y else f j
/-- a dict as a function of its keys; at most m entries -/
noncomputable def dictF (P : Program) (w : World) (f : Leaf → Option PyData) (m : Nat) : OwnT where
  rel := fun K B a o => ∃ kv, o = dLf P w a kv ∧ kv.length ≤ m ∧ ∀ k, OR K B (valV kv k) (f k)
  mono := fun s ⟨kv, e, l, h⟩ => ⟨kv, e, l, fun k => (h k).mono s⟩
noncomputable def dDNew (P : Program) (w : World) : DE := fun _ n Q => Q (.own (dictF P w (fun _ => none) 0)) n
noncomputable def dDGet (P : Program) (w : World) (i : Nat) (wk wx : DE) : DE := fun ρ n Q => ∃ f m, ρ[i]? = some (some (.own (dictF P w f m))) ∧ wk ρ n fun r n1 => wx ρ n1 fun r2 n2 => ∃ k y, r = .d (lfD k) ∧ r2 = .d y ∧ Q (.d ((f k).getD y)) n2
noncomputable def dDPut (P : Program) (w : World) (i : Nat) (wk wv : DE) : DS := fun D ρ n => ∃ f m, ρ[i]? = some (some (.own (dictF P w f m))) ∧ m < sizeLine ∧ wv ρ n fun rv n1 => onO (dat rv) fun y => wk ρ n1 fun rk n2 => ∃ k, rk = .d (lfD k) ∧ D.nx (ρ.set i (some (.own (dictF P w (upF f k y) (m + 1))))) n2
section
variable {X : Cx} {E : Ent} {x : Str} {o e f value : Expr} {pos pos' apos cpos p1 p2 : Pos} {wk wx wv : DE}
end
end Dl

namespace Dl
open PySem PySem.Spec PyProof.Rows L2
/-! ### (*xs, y, ..) -/
noncomputable def seqD : PyData → Option (List PyData)
  | .list xs => some xs
  | .tuple xs => some xs
  | _ => none
noncomputable def dStar (wa : DE) (wr : DA) : DA := fun ρ n Q => wa ρ n fun r n1 => onO (dat r) fun x => onO (seqD x) fun xs => wr ρ n1 fun rs n2 => Q (xs.map RV.d ++ rs) n2
theorem valsD {K : PySem.W.Frag} {bxs : List Addr} {n : Nat} {B H : Hp} : ∀ {xs : List PyData} {vs : List V}, DpAll K B vs xs → ∀ {rs : List RV} {us : List V}, ValsR K bxs n B H rs us → ValsR K bxs n B H (xs.map RV.d ++ rs) (vs ++ us)
  | [], vs, h, rs, us, g => by cases h; exact g
  | x :: xs, vs, h, rs, us, g => by
    cases h with
    | cons h1 h2 => exact ⟨h1, valsD h2 g⟩
theorem frsD {H : Hp} : ∀ {xs : List PyData} {vs : List V}, vs.length = xs.length → ∀ {rs : List RV} {us : List V}, FrsR H rs us → FrsR H (xs.map RV.d ++ rs) (vs ++ us)
  | [], [], _, rs, us, g => g
  | [], _ :: _, e, _, _, _ => by cases e
  | _ :: _, [], e, _, _, _ => by cases e
  | x :: xs, v :: vs, e, rs, us, g => ⟨trivial, frsD (by simpa using e) g⟩
theorem la_star {X : Cx} {a : Expr} {es : List Expr} {wa : DE} {wr : DA} {p : Pos} (ha : LE X a wa) (hr : LA X es wr) (hs : starEach (.Starred a p :: es) X.env = (true, eval a X.env) :: starEach es X.env := by rfl) : LA X (.Starred a p :: es) (dStar wa wr) := pa_imp (StX.pa_star ha hr hs) fun σ H Q hu => by
  obtain ⟨ρ, n, B, bxs, Qd, g, e, w1, q⟩ := hu
  refine ⟨ρ, n, B, bxs, _, g, e, w1, fun r n1 v B1 H1 hq s1 vr f1 => ?_⟩
  obtain ⟨x, ex, hq⟩ := onO_ex hq
  obtain ⟨xs, exs, hq⟩ := onO_ex hq
  obtain ⟨B2, s2, vr2, sb⟩ := fix_r g s1 vr f1
  rw [dat_fix ex] at vr2
  have hd : Dp X.K B2 v x := vr2
  have g2 := g.step s2
  have go : ∀ (p : Addr) (vs : List V), v = .ref p → (SqT X.K H1 p vs ∨ SqL X.K H1 p vs) → DpAll X.K B2 vs xs → ∃ p xs, v = V.ref p ∧ (SqT X.K H1 p xs ∨ SqL X.K H1 p xs) ∧ upA X.K wr σ H1 fun ys H2 => Q (xs ++ ys) H2 := fun p vs ev hsq da => by
    refine ⟨p, vs, ev, hsq, ρ, n1, B2, bxs, _, g2, e.step s2, hq, fun rs n3 us B3 H3 hq3 s3 vrs frs => ?_⟩
    exact q _ _ _ _ _ hq3 (s2.trans s3) (valsD (dpSameAll s3.b1 _ _ da) vrs) (frsD (dpLen _ _ da) (frs.back s2))
  cases x with
  | list ys =>
    cases exs
    cases hd with
    | lst h1 h2 => exact go _ _ rfl (.inr (g2.sub.seq h1)) h2
  | tuple ys =>
    cases exs
    cases hd with
    | tup h1 h2 => exact go _ _ rfl (.inl (seqT g2.sub h1)) h2
  | _ => cases exs
theorem datas_map : ∀ (xs : List PyData) (rs : List RV), datas (xs.map RV.d ++ rs) = (datas rs).map (xs ++ ·)
  | [], rs => by cases e : datas rs <;> (simp only [List.map_nil, List.nil_append]; rw [e]; rfl)
  | x :: xs, rs => by
    rw [List.map_cons, List.cons_append]
    show (datas (xs.map RV.d ++ rs)).map (x :: ·) = _
    rw [datas_map xs rs]
    cases datas rs <;> rfl
end Dl

namespace Dl
open PySem PySem.Spec PyProof.Rows L2
/-! ### x == (), x != () of a tuple with anything in it -/
noncomputable def wEqE : DOp := fun x y Q => match x, y with
  | .tuple xs, .tuple [] => Q (.d (.bool xs.isEmpty))
  | _, _ => False
noncomputable def wNeE : DOp := fun x y Q => match x, y with
  | .tuple xs, .tuple [] => Q (.d (.bool (!xs.isEmpty)))
  | _, _ => False
section
variable {X : Cx}
/-! ### {} and {'a': e} as data -/
variable {pos : Pos}
noncomputable def dDict0 : DE := fun _ n Q => Q (.d (.dict [])) n
theorem Step.over {bxs : List Addr} {n n1 : Nat} {B H B2 H1 : Hp} {p : Addr} {o o' : HO} (g : Good bxs n B H) (hp : H p = none) (s : Step bxs n n1 B (upd H p o) B2 H1) (hB : B2 p = none) : Step bxs n n1 B H (upd B2 p o') (upd H1 p o') := by
  have ne : ∀ {a : Addr} {u : HO}, H a = some u → a ≠ p := fun h q => by rw [q, hp] at h; cases h
  have nb : ∀ {a : Addr} {u : HO}, B a = some u → a ≠ p := fun h => ne (g.sub _ _ h)
  refine ⟨fun a u h => ?_, fun a u h => ?_, fun a h => ?_, fun a u ha h => ?_, fun b hb => ?_, s.nn⟩
  · rw [upd_ne (nb h)]
    exact s.b1 a u h
  · by_cases e : a = p
    · subst e
      rw [upd_same] at h ⊢
      exact h
    · rw [upd_ne e] at h ⊢
      exact s.b2 a u h
  · have e : a ≠ p := fun q => h (by rw [q]; exact hp)
    rw [upd_ne e]
    exact s.b3 a (by rw [upd_ne e]; exact h)
  · rw [upd_ne (ne h)]
    exact s.h1 a u ha (by rw [upd_ne (ne h)]; exact h)
  · refine (s.bx b hb).keep fun u h => ?_
    have e : b ≠ p := fun q => (g.box b hb).2.ne (by rw [q]; exact hp)
    rw [upd_ne e]
    exact h
noncomputable def dDict1 (k : Str) (wa : DE) : DE := fun ρ n Q => wa ρ n fun r n1 => onO (dat r) fun x => Q (.d (.dict [(.str k, x)])) n1
/-! ### a module's tuple of texts -/
structure KTup (K : PySem.W.Frag) (a : Addr) (ds : List PyData) : Prop where
  ex : ∀ B, Dp K B (.ref a) (.tuple ds)
end
end Dl

namespace Dl
open PySem PySem.Spec PyProof.Rows L2
/-! ### zip whose tuple was handed out and is still held -/
noncomputable abbrev IsZipO (h : Heap) (z TI TO T : Addr) (f : Bool) : Prop := h.get? z = some { cls := .type "zip", data := .fields #[rawInt T, .bool f, .bool false, .ref TI, .ref TO] }
section
variable {prog : Program} {w : World} {A : Around} {E : Value → Shared → Prop} {s : Shared} {z TI TO T i1 i2 : Addr} {fp1 fp2 : List Addr} {n1 n2 i : Nat} {P1 P2 : Nat → Value → Prop} {St1 St2 : Nat → Heap → Prop} {f : Bool} {oT : Obj}
theorem alive_look {M : Model} {a : Addr} {Q : Option Obj → Shared → Prop} (h : Q (s.heap.get? a) s) : wpAny M A (loadIfAlive a) Q E s := by
  intro Γ hΓ p
  exact h
theorem free_out {Q : Bool → Shared → Prop} (hz : IsZipO s.heap z TI TO T f) (hT : s.heap.get? T = some oT)
    (hQ : ∀ h', IsZipO h' z TI TO T true → Heap.SameBut z s.heap h' → Q false { s with heap := h' }) : wpAny (model prog w) A (Builtin.SmallTypes.ownedTupleIsFree (.ref z)) Q E s := by
  unfold Builtin.SmallTypes.ownedTupleIsFree
  refine wpAny_bind (wpAny_field hz rfl (x := rawInt T) rfl ?_)
  unfold rawInt
  dsimp only
  refine wpAny_bind (alive_look ?_)
  rw [show ((T : Int)).toNat = T from Int.toNat_natCast T, hT]
  show wpAny _ _ (if (some oT).isNone = true then _ else _) _ _ _
  rw [if_neg (by simp)]
  refine wpAny_bind (wpAny_field hz rfl (x := .bool f) rfl ?_)
  cases f with
  | true =>
    rw [if_neg (by decide)]
    exact wpAny_pure (hQ s.heap hz ⟨rfl, fun _ _ => rfl⟩)
  | false =>
    rw [if_pos (by decide)]
    refine wpAny_bind (wpAny_setField_rec hz (by simp) fun h' hz' hs' => ?_)
    exact wpAny_pure (hQ h' hz' hs')
theorem out_item {Q : Value → Shared → Prop} (S : ZipSep2 z TI TO i1 i2 fp1 fp2) (D1 : Draws prog w A i1 fp1 n1 P1 St1) (D2 : Draws prog w A i2 fp2 n2 P2 St2)
    (hz : IsZipO s.heap z TI TO T f) (hT : s.heap.get? T = some oT) (hTI : IsTupOf2 s.heap TI (.ref i1) (.ref i2)) (st1 : St1 i s.heap) (st2 : St2 i s.heap) (l1 : i < n1) (l2 : i < n2)
    (hQ : ∀ x1 x2 h' tk, P1 i x1 → P2 i x2 → IsZipO h' z TI TO T true → St1 (i + 1) h' → St2 (i + 1) h' → IsTupOf2 h' s.heap.objs.size x1 x2 → h'.objs.size = s.heap.objs.size + 1 →
      (∀ c o, c ≠ z → c ≠ i1 → c ≠ i2 → s.heap.get? c = some o → h'.get? c = some o) → Q (.ref s.heap.objs.size) { s with heap := h', toks := tk }) :
    wpAny (model prog w) A (Builtin.«zip.__next__» ⟨[.ref z], []⟩) (fun fin s' => ∃ v, fin = .done (.ret v) ∧ Q v s') E s := by
  obtain ⟨hp, g, d, tk0, os⟩ := s
  show wpAny _ _ (field (.ref z) 2 >>= _) _ _ _
  refine wpAny_bind (wpAny_field hz rfl (x := .bool false) rfl ?_)
  show wpAny _ _ (field (.ref z) 3 >>= _) _ _ _
  refine wpAny_bind (wpAny_field hz rfl (x := .ref TI) rfl ?_)
  refine wpAny_bind (wpAny_seqItems hTI rfl ?_)
  show wpAny _ _ (Builtin.SmallTypes.ownedTupleIsFree (.ref z) >>= _) _ _ _
  refine wpAny_bind (free_out (s := ⟨hp, g, d, tk0, os⟩) hz hT fun g0 hz0 hs0 => ?_)
  replace hs0 : Heap.SameBut z hp g0 := hs0
  rw [if_neg Bool.false_ne_true]
  dsimp only
  refine wpAny_bind ?_
  rw [← Array.forIn_toList]
  show wpAny _ _ (forIn [Value.ref i1, Value.ref i2] _ _) _ _ _
  rw [List.forIn_cons]
  refine wpAny_bind (wpAny_bind (wpAny_holding ?_))
  show wpAny _ _ (Builtin.SmallTypes.nextOf (.ref i1) >>= _) _ _ ⟨g0, g, d, tk0, os⟩
  refine wpAny_bind (D1.item i _ _ _ l1 (D1.over st1 hs0 S.zf1) fun x1 p1 tk1 hx1 sn1 hp1 => wpAny_pure ?_)
  replace hp1 : Heap.SameBut i1 g0 p1 := hp1
  dsimp only
  refine wpAny_pure ?_
  show wpAny _ _ (forIn [Value.ref i2] _ _) _ _ _
  rw [List.forIn_cons]
  refine wpAny_bind (wpAny_bind (wpAny_holding ?_))
  show wpAny _ _ (Builtin.SmallTypes.nextOf (.ref i2) >>= _) _ _ ⟨p1, g, d, tk1, os⟩
  refine wpAny_bind (D2.item i _ _ _ l2 (D2.over (D2.over st2 hs0 S.zf2) hp1 S.sep1_2) fun x2 p2 tk2 hx2 sn2 hp2 => wpAny_pure ?_)
  replace hp2 : Heap.SameBut i2 p1 p2 := hp2
  dsimp only
  refine wpAny_pure ?_
  show wpAny _ _ (forIn ([] : List Value) _ _) _ _ _
  rw [List.forIn_nil]
  refine wpAny_pure ?_
  dsimp only
  have hsz : p2.objs.size = hp.objs.size := by rw [hp2.1, hp1.1, hs0.1]
  have kk : ∀ c o, c ≠ z → c ≠ i1 → c ≠ i2 → hp.get? c = some o → p2.get? c = some o := fun c o c0 c1 c2 e => hp2.extBut _ _ c2 (hp1.extBut _ _ c1 (hs0.extBut _ _ c0 e))
  have zz : IsZipO p2 z TI TO T true := hp2.extBut _ _ S.zi2 (hp1.extBut _ _ S.zi1 hz0)
  have up : ∀ c o, p2.get? c = some o → (p2.push { cls := .type "tuple", data := .seq #[x1, x2] }).get? c = some o := fun c o e => Heap.get?_push_of_some _ e
  refine wpAny_bind (wpAny_newTuple (items := [x1, x2]) ?_)
  refine wpAny_pure ⟨_, rfl, ?_⟩
  show Q (.ref p2.objs.size) ⟨p2.push { cls := .type "tuple", data := .seq #[x1, x2] }, g, d, tk2, os⟩
  rw [hsz]
  refine hQ x1 x2 _ tk2 hx1 hx2 (up _ _ zz) (D1.frame _ _ _ (D1.over sn1 hp2 S.sep2_1) fun b _ o e => up b o e) (D2.frame _ _ _ sn2 fun b _ o e => up b o e) ?_ ?_ fun c o c0 c1 c2 e => up c o (kk c o c0 c1 c2 e)
  · show (p2.push _).get? hp.objs.size = _
    rw [← hsz]
    exact Heap.get?_push_size _ rfl
  · show (p2.push _).objs.size = hp.objs.size + 1
    rw [Heap.size_push, hsz]
theorem out_end {Q : PySem.Fin → Shared → Prop} (S : ZipSep2 z TI TO i1 i2 fp1 fp2) (D1 : Draws prog w A i1 fp1 n1 P1 St1) (D2 : Draws prog w A i2 fp2 n2 P2 St2)
    (hz : IsZipO s.heap z TI TO T f) (hT : s.heap.get? T = some oT) (hTI : IsTupOf2 s.heap TI (.ref i1) (.ref i2)) (st1 : St1 i s.heap) (st2 : St2 i s.heap) (l1 : i ≤ n1) (l2 : i ≤ n2) (he : i = n1 ∨ i = n2)
    (hE : ∀ h' tk e, (∀ c o, c ≠ z → c ≠ i1 → c ≠ i2 → s.heap.get? c = some o → h'.get? c = some o) → (∃ o, h'.get? e = some o ∧ o.cls = .type "StopIteration") → E (.ref e) { s with heap := h', toks := tk }) :
    wpAny (model prog w) A (Builtin.«zip.__next__» ⟨[.ref z], []⟩) Q E s := by
  obtain ⟨hp, g, d, tk0, os⟩ := s
  show wpAny _ _ (field (.ref z) 2 >>= _) _ _ _
  refine wpAny_bind (wpAny_field hz rfl (x := .bool false) rfl ?_)
  show wpAny _ _ (field (.ref z) 3 >>= _) _ _ _
  refine wpAny_bind (wpAny_field hz rfl (x := .ref TI) rfl ?_)
  refine wpAny_bind (wpAny_seqItems hTI rfl ?_)
  show wpAny _ _ (Builtin.SmallTypes.ownedTupleIsFree (.ref z) >>= _) _ _ _
  refine wpAny_bind (free_out (s := ⟨hp, g, d, tk0, os⟩) hz hT fun g0 hz0 hs0 => ?_)
  replace hs0 : Heap.SameBut z hp g0 := hs0
  rw [if_neg Bool.false_ne_true]
  dsimp only
  refine wpAny_bind ?_
  rw [← Array.forIn_toList]
  show wpAny _ _ (forIn [Value.ref i1, Value.ref i2] _ _) _ _ _
  rw [List.forIn_cons]
  refine wpAny_bind (wpAny_bind (wpAny_holding ?_))
  show wpAny _ _ (Builtin.SmallTypes.nextOf (.ref i1) >>= _) _ _ ⟨g0, g, d, tk0, os⟩
  by_cases q1 : i < n1
  · refine wpAny_bind (D1.item i _ _ _ q1 (D1.over st1 hs0 S.zf1) fun x1 p1 tk1 hx1 sn1 hp1 => wpAny_pure ?_)
    replace hp1 : Heap.SameBut i1 g0 p1 := hp1
    dsimp only
    refine wpAny_pure ?_
    show wpAny _ _ (forIn [Value.ref i2] _ _) _ _ _
    rw [List.forIn_cons]
    refine wpAny_bind (wpAny_bind (wpAny_holding ?_))
    show wpAny _ _ (Builtin.SmallTypes.nextOf (.ref i2) >>= _) _ _ ⟨p1, g, d, tk1, os⟩
    have e2 : i = n2 := by omega
    refine wpAny_bind (D2.done ⟨p1, g, d, tk1, os⟩ _ _ (by rw [← e2]; exact D2.over (D2.over st2 hs0 S.zf2) hp1 S.sep1_2) fun q e hq he => ?_)
    replace hq : Heap.ExtBut i2 p1 q := hq
    exact hE q tk1 e (fun c o c0 c1 c2 x => hq _ _ c2 (hp1.extBut _ _ c1 (hs0.extBut _ _ c0 x))) he
  · have e1 : i = n1 := by omega
    refine wpAny_bind (D1.done ⟨g0, g, d, tk0, os⟩ _ _ (by rw [← e1]; exact D1.over st1 hs0 S.zf1) fun q e hq he => ?_)
    replace hq : Heap.ExtBut i1 g0 q := hq
    exact hE q tk0 e (fun c o c0 c1 c2 x => hq _ _ c1 (hs0.extBut _ _ c0 x)) he
end
/-! ### list(zip(x, y)) -/
section
variable {prog : Program} {w : World} {A : Around} {E : Value → Shared → Prop} {s : Shared} {z TI TO i1 i2 : Addr} {fp1 fp2 : List Addr} {n1 n2 i : Nat} {P1 P2 : Nat → Value → Prop} {St1 St2 : Nat → Heap → Prop}
end
section
variable {X : Cx} {pins : List (Addr × Obj)} {σ : L2.St} {A : Around} {R : Result → Shared → Prop} {S z TI TO i1 i2 lo : Addr} {fp1 fp2 : List Addr} {its1 its2 : List Value} {xs ys : List V} {St1 St2 : Nat → Heap → Prop} {Pv : Nat → List V → Hp → Prop}
end
structure SrcOk (P : Program) (w : World) (h : Heap) (a : Addr) (its : List Value) (o : Obj) (Hp : Heap → Prop) (St : Addr → Nat → Heap → Prop) : Prop where
  beg : Begins (.ref a) o Hp
  now : Hp h
  lt : a < h.objs.size
  st : ∀ i1 h', a ≠ i1 → h'.get? i1 = some o → (∀ c o, h.get? c = some o → h'.get? c = some o) → St i1 0 h'
  dr : ∀ (A : Around) (i1 : Addr), A.handled = none → a ≠ i1 → Draws P w A i1 [i1, a] its.length (fun j v => its[j]? = some v) (St i1)
theorem nmem2 (x y z : Nat) (h1 : x ≠ y) (h2 : x ≠ z) : (x : Addr) ∉ ([y, z] : List Addr) := fun h => by
  rcases List.mem_cons.mp h with q | q
  · exact h1 q
  · exact h2 (List.mem_singleton.mp q)
theorem zsep (m a b : Nat) (h1 : a < m) (h2 : b < m) : ZipSep2 (m + 4) (m + 2) (m + 3) m (m + 1) [m, a] [m + 1, b] := by
  have n : ∀ x y : Nat, x ≠ y → @Ne Addr x y := fun _ _ h => h
  exact ⟨n _ _ (by omega), n _ _ (by omega), n _ _ (by omega), n _ _ (by omega), List.mem_cons_self, nmem2 _ _ _ (by omega) (by omega), nmem2 _ _ _ (by omega) (by omega), n _ _ (by omega), List.mem_cons_self, nmem2 _ _ _ (by omega) (by omega), nmem2 _ _ _ (by omega) (by omega), nmem2 _ _ _ (by omega) (by omega), nmem2 _ _ _ (by omega) (by omega)⟩
/-- list(zip(x, y)) of lists and tuples -/
noncomputable def dListZ (wr : DA) : DE := fun ρ n Q => wr ρ n fun rs n1 => match rs with
  | [.d (.list xs), .d (.list ys)] => min xs.length ys.length < sizeLine ∧ Q (.new (zipD xs ys)) n1
  | [.d (.list xs), .d (.tuple ys)] => min xs.length ys.length < sizeLine ∧ Q (.new (zipD xs ys)) n1
  | [.d (.tuple xs), .d (.list ys)] => min xs.length ys.length < sizeLine ∧ Q (.new (zipD xs ys)) n1
  | [.d (.tuple xs), .d (.tuple ys)] => min xs.length ys.length < sizeLine ∧ Q (.new (zipD xs ys)) n1
  | _ => False
end Dl

namespace Dl
open PySem PySem.Spec PyProof.Rows L2 GenW
/-! ### generators with their consumer: contexts that begin anew at each waking -/
noncomputable def cutH (m : Nat) (h : Heap) : Heap := { h with objs := h.objs.take m }
theorem cut_lt {m : Nat} {h : Heap} {a : Nat} (ha : a < m) : (cutH m h).get? a = h.get? a := by
  unfold Heap.get? cutH
  have e : (h.objs.take m)[a]? = h.objs[a]? := by
    rw [Array.take_eq_extract, Array.getElem?_extract]
    simp only [Nat.zero_add, Nat.sub_zero]
    by_cases hs : a < h.objs.size
    · rw [if_pos (by omega)]
    · rw [if_neg (by omega), Array.getElem?_eq_none (by omega)]
  rw [e]
theorem cut_ge {m : Nat} {h : Heap} {a : Nat} (ha : m ≤ a) : (cutH m h).get? a = none := by
  unfold Heap.get? cutH
  have e : (h.objs.take m)[a]? = none := by
    rw [Array.take_eq_extract]
    exact Array.getElem?_eq_none (by rw [Array.size_extract]; omega)
  rw [e]
theorem cut_some {m : Nat} {h : Heap} {a : Addr} {o : Obj} (e : (cutH m h).get? a = some o) : a < m ∧ h.get? a = some o := by
  rcases Nat.lt_or_ge a m with q | q
  · rw [cut_lt q] at e
    exact ⟨q, e⟩
  · rw [cut_ge q] at e
    cases e
theorem cut_size (m : Nat) (h : Heap) : (cutH m h).objs.size ≤ m := by
  unfold cutH
  show (h.objs.take m).size ≤ m
  rw [Array.take_eq_extract, Array.size_extract]
  omega
theorem cut_size' {m : Nat} {h : Heap} (hm : m ≤ h.objs.size) : (cutH m h).objs.size = m := by
  unfold cutH
  show (h.objs.take m).size = m
  rw [Array.take_eq_extract, Array.size_extract]
  omega
/-- the context of a generator's body, woken at s with the abstract heap H -/
noncomputable def XR (X : Cx) (s : Shared) (H : Hp) : Cx := { X with s_0 := { s with heap := cutH X.env.locals s.heap }, H_0 := H }
theorem funs_cut {h base : Heap} {m : Nat} : ∀ {l : List Env}, (∀ b ∈ frs l, b < m) → h.FunFrames base l → (cutH m h).FunFrames base l
  | [], _, _ => trivial
  | env :: r, hb, hl => by
    obtain ⟨hk, ⟨L, o, hf, hn, ho, hd⟩, hr⟩ := hl
    have hL : L < m := hb L (by unfold frs; rw [List.filterMap_cons, hf]; exact List.mem_cons_self)
    exact ⟨hk, ⟨L, o, hf, hn, by rw [cut_lt hL]; exact ho, hd⟩, funs_cut (fun b q => hb b (by unfold frs; rw [List.filterMap_cons, hf]; exact List.mem_cons_of_mem _ q)) hr⟩
theorem rebase {X : Cx} {ip : List (Addr × Obj)} {σ : L2.St} {H H' : Hp} {s s' : Shared} (I : Inv X ip σ H s) (hc : X.env.cells = []) (hx : X.ex = []) (hp : X.pn = [])
    (os : s'.os = s.os) (bare : AllBare s'.gens) (bs : ∀ b o, X.base.get? b = some o → s'.heap.get? b = some o ∧ H' b = none)
    (funs : s'.heap.FunFrames X.base X.outer) (frf : ∀ b ∈ X.fs, H' b = none) (frl : ∀ b ∈ X.fs, b < X.env.locals)
    (loc : ∀ o, s.heap.get? X.env.locals = some o → s'.heap.get? X.env.locals = some o) (free : H' X.env.locals = none)
    (pin : ∀ p ∈ ip, s'.heap.get? p.1 = some p.2 ∧ H' p.1 = none) (hok : HOk X.prog X.w H' s'.heap) : Inv (XR X s' H') ip σ H' s' := by
  have lk : ∀ x c, X.env.cells.lookup x = some c → False := fun x c e => by rw [hc] at e; cases e
  have hlt : X.env.locals < s'.heap.objs.size := by
    obtain ⟨m, ⟨o, es, ep, ho, _⟩, _⟩ := I.loc
    exact Heap.lt_size (loc o ho)
  have bb : ∀ b o, X.base.get? b = some o → b < X.env.locals := fun b o e => Nat.lt_of_lt_of_le (Heap.lt_size e) (Nat.le_trans I.ok.bsz I.ok.above)
  refine ⟨⟨I.ok.mod, I.ok.kind, I.ok.glob, I.ok.blt, cut_size _ _, I.ok.inj, I.ok.has, fun x c _ e => (lk x c e).elim, I.ok.hd, I.ok.frames, I.ok.stk, fun b hb => ?_, fun b o e => ?_, ?_, fun b o e hb => ?_, fun b hb => ?_, ?_, frf⟩, ?_, bare, ?_, ?_, fun x c e => (lk x c e).elim, free, fun x c e => (lk x c e).elim, fun p hp' => ?_, hok, I.len⟩
  · have : b ∈ X.ex := hb
    rw [hx] at this; cases this
  · exact ⟨by show (cutH X.env.locals s'.heap).get? b = some o; rw [cut_lt (bb b o e)]; exact (bs b o e).1, (bs b o e).2⟩
  · show X.base.objs.size ≤ (cutH X.env.locals s'.heap).objs.size
    rw [cut_size' (Nat.le_of_lt hlt)]
    exact Nat.le_trans I.ok.bsz I.ok.above
  · have : b ∈ X.ex := hb
    rw [hx] at this; cases this
  · have : b ∈ X.ex := hb
    rw [hx] at this; cases this
  · exact funs_cut frl funs
  · exact rfl
  · refine ⟨fun b o e n _ _ => (cut_some e).2, fun b o e n _ _ => ⟨o.slots, (cut_some e).2⟩, fun b o e n _ => n, fun b o e _ => ⟨o, (cut_some e).2⟩, fun _ _ e => e, fun _ _ _ e => e, fun b ps e => ⟨#[], by have e : H' b = some (HO.tbl ps) := e; rw [e]; simp⟩⟩
  · obtain ⟨m, ⟨o, es, ep, ho, r⟩, hv⟩ := I.loc
    refine ⟨m, ⟨o, es, ep, loc o ho, r⟩, fun i x v e1 e2 e3 => ?_⟩
    obtain ⟨u, ru, lu⟩ := hv i x v e1 e2 e3
    refine ⟨u, ru, ?_⟩
    rcases lu with q | ⟨_, c, q, _⟩
    · exact .inl q
    · exact (lk x c q).elim
  · have hm : p ∈ ip := by
      rcases List.mem_append.mp hp' with q | q
      · have : p ∈ X.pn := q
        rw [hp] at this; cases this
      · exact q
    obtain ⟨_, _, a3, a4, a5⟩ := I.pin p (List.mem_append_right _ hm)
    exact ⟨(pin p hm).1, (pin p hm).2, a3, a4, a5⟩
/-! ### where a generator's code stands -/
structure GLC (X : Cx) (A : Around) (c : Code) (fs : List Frame) (gd : Bool → Bool) : Prop where
  over : A.over c fs = X.A
  split : splitAtGen fs = none
  guard : fs.any Frame.guarded = false
  gd : gd false = false
end Dl

namespace Dl
open PySem PySem.Spec PyProof.Rows L2
/-! ### sets whose members are tuples with texts in them -/
section
variable {P : Program} {w : World} {A : Around} {E : Value → Shared → Prop} {s : Shared}
/-! no member is of a class statement; a member's hash is or is not told by its value -/
mutual
theorem cls_key : ∀ (k : NestedKey) (v : Value) (n : Nat) (s : Shared) (A : Around) (Q : Bool → Shared → Prop), NestedIs s.heap k v → k.depth ≤ n → Q false s → wpAny (model P w) A (ofAClassStatement n v) Q E s
  | .none, _, n, s, A, Q, x, _, q => by cases x; cases n <;> exact wpAny_pure q
  | .num i, _, n, s, A, Q, x, _, q => by cases x <;> cases n <;> exact wpAny_pure q
  | .text y, _, n, s, A, Q, x, _, q => by cases x; cases n <;> exact wpAny_pure q
  | .tup ks, _, n, s, A, Q, x, hn, q => by
    cases x with
    | tup hg hc hd hk =>
      simp only [NestedKey.depth] at hn
      cases n with
      | zero => omega
      | succ n =>
        unfold ofAClassStatement
        refine wpAny_bind (wpAny_typeOf ⟨_, hg, hc⟩ ?_)
        have e : (("tuple" : String) == "tuple") = true := by decide
        simp only [e, if_true]
        refine wpAny_bind (wpAny_pure ?_)
        simp only [Bool.not_true, Bool.false_eq_true, if_false]
        refine wpAny_bind (wpAny_seqItems hg hd ?_)
        dsimp only
        refine wpAny_bind ?_
        rw [← Array.forIn_toList]
        refine wpAny_mono (cls_keys ks _ n s A hk (by omega)) (fun r s' h => ?_) fun _ _ z => z
        obtain ⟨rfl, rfl⟩ := h
        exact wpAny_pure q
theorem cls_keys : ∀ (ks : List NestedKey) (vs : List Value) (n : Nat) (s : Shared) (A : Around), NestedAll s.heap ks vs → NestedKey.depthAll ks ≤ n →
    wpAny (model P w) A (forIn vs (none, PUnit.unit) fun y _ => do
      if ← ofAClassStatement n y then return ForInStep.done (some true, PUnit.unit)
      return ForInStep.yield (none, PUnit.unit)) (fun r s' => r = ((none : Option Bool), PUnit.unit) ∧ s' = s) E s
  | [], _, n, s, A, x, _ => by
    cases x
    exact wpAny_pure ⟨rfl, rfl⟩
  | k :: ks, _, n, s, A, x, hn => by
    cases x with
    | cons x1 x2 =>
      simp only [NestedKey.depthAll] at hn
      rw [List.forIn_cons]
      refine wpAny_bind (wpAny_bind (cls_key k _ n s A _ x1 (by omega) ?_))
      simp only [Bool.false_eq_true, if_false]
      refine wpAny_pure ?_
      exact cls_keys ks _ n s A x2 (by omega)
end
mutual
theorem byv_key : ∀ (k : NestedKey) (v : Value) (n : Nat) (s : Shared) (A : Around) (Q : Bool → Shared → Prop), NestedIs s.heap k v → (∀ b, Q b s) → wpAny (model P w) A (hashByValue n v) Q E s
  | .none, _, n, s, A, Q, x, q => by cases x; cases n <;> exact wpAny_pure (q _)
  | .num i, _, n, s, A, Q, x, q => by cases x <;> cases n <;> exact wpAny_pure (q _)
  | .text y, _, n, s, A, Q, x, q => by cases x; cases n <;> exact wpAny_pure (q _)
  | .tup ks, _, n, s, A, Q, x, q => by
    cases x with
    | tup hg hc hd hk =>
      cases n with
      | zero => exact wpAny_pure (q _)
      | succ n =>
        unfold hashByValue
        refine wpAny_bind (wpAny_specialOf ⟨_, hg, hc⟩ F.slot_tuple_hash.lookup ?_)
        refine wpAny_bind (wpAny_seqItems hg hd ?_)
        dsimp only [Option.getD_some]
        refine wpAny_bind ?_
        rw [← Array.forIn_toList]
        refine wpAny_mono (byv_keys ks _ n s A hk) (fun r s' h => ?_) fun _ _ z => z
        subst h
        obtain ⟨r, _⟩ := r
        cases r with
        | none => exact wpAny_pure (q _)
        | some b => exact wpAny_pure (q _)
theorem byv_keys : ∀ (ks : List NestedKey) (vs : List Value) (n : Nat) (s : Shared) (A : Around), NestedAll s.heap ks vs →
    wpAny (model P w) A (forIn vs ((none : Option Bool), PUnit.unit) fun y _ => do
      if !(← hashByValue n y) then return ForInStep.done (some false, PUnit.unit)
      return ForInStep.yield (none, PUnit.unit)) (fun r s' => s' = s) E s
  | [], _, n, s, A, x => by
    cases x
    exact wpAny_pure rfl
  | k :: ks, _, n, s, A, x => by
    cases x with
    | cons x1 x2 =>
      rw [List.forIn_cons]
      refine wpAny_bind (wpAny_bind (byv_key k _ n s A _ x1 fun b => ?_))
      cases b with
      | true =>
        simp only [Bool.not_true, Bool.false_eq_true, if_false]
        refine wpAny_pure ?_
        exact byv_keys ks _ n s A x2
      | false =>
        simp only [Bool.not_false, if_true]
        refine wpAny_pure ?_
        exact wpAny_pure rfl
end
theorem seen_key {k : NestedKey} {b : Addr} {Q : Bool → Shared → Prop} (hk : (nestedKind P w).is s.heap k b) {ys : List Value} (hy : ∀ y ∈ ys, ∃ k' c, y = Value.ref c ∧ (nestedKind P w).is s.heap k' c) (q : Q false s) :
    wpAny (model P w) A (searchCouldBeSeen (.ref b) ys) Q E s := by
  unfold searchCouldBeSeen
  refine wpAny_bind (wpAny_forIn_list _ (fun rest r s' => s' = s ∧ r = (none, PUnit.unit) ∧ ∀ y ∈ rest, y ∈ ys) _ ?_ ?_ _ _ ⟨rfl, rfl, fun _ h => h⟩)
  · rintro v rest r s' ⟨rfl, rfl, hs⟩
    obtain ⟨k', c, rfl, hc⟩ := hy v (hs v List.mem_cons_self)
    have later : ∀ y ∈ rest, y ∈ ys := fun y h => hs y (List.mem_cons_of_mem _ h)
    dsimp only
    split
    · exact wpAny_pure ⟨rfl, rfl, later⟩
    · refine wpAny_bind ((nestedKind P w).quiet hk ?_)
      refine wp_if_neg (by decide) (wpAny_bind ((nestedKind P w).quiet hc (wp_if_neg (by decide) ?_)))
      refine wpAny_bind (cls_key k _ 8 _ _ _ hk.1 hk.2 (wp_if_neg (by decide) ?_))
      exact wpAny_bind (cls_key k' _ 8 _ _ _ hc.1 hc.2 (wp_if_neg (by decide) (wpAny_pure ⟨rfl, rfl, later⟩)))
  · rintro r s' ⟨rfl, rfl, _⟩
    exact wpAny_pure q
/-- the members are ks; the table finds each again -/
structure TSet (P : Program) (w : World) (M : NestedKey → Addr → Prop) (h : Heap) (a : Addr) (ks : List NestedKey) (es : Array (Int × Value)) (ep : Nat) (t : SetTable) : Prop where
  ob : ∃ o, h.get? a = some o ∧ o.ExactSet ∧ o.data = .set es ep t
  tab : TabOk t (es.toList.map (·.1))
  el : ∀ e ∈ es.toList, ∃ k b, e = ((nestedKind P w).hash k, Value.ref b) ∧ M k b ∧ k ∈ ks
  has : ∀ k ∈ ks, ∃ b, ((nestedKind P w).hash k, Value.ref b) ∈ es.toList ∧ M k b
  sz : es.size = ks.length
  room : es.size * 5 < t.mask * 3
  few : es.size < 64
  led : w.params.followText "set-order" = true ∨ t.led = true
theorem tab_fits {t : SetTable} {n : Nat} (h1 : t.dummies = #[]) (h2 : t.place.size = n) (h3 : n ≤ t.mask) : t.fits n = true := by
  unfold SetTable.fits SetTable.fill
  rw [h1, h2]
  simpa using h3
variable {M : NestedKey → Addr → Prop} {a : Addr} {ks : List NestedKey} {es : Array (Int × Value)} {ep : Nat} {t : SetTable}
theorem TSet.places (R : TSet P w M s.heap a ks es ep t) : t.place.size = es.size := by
  have := R.tab.sz
  rwa [List.length_map, Array.length_toList] at this
theorem TSet.fits (R : TSet P w M s.heap a ks es ep t) : t.fits es.size = true := tab_fits R.tab.dm R.places (by have := R.room; omega)
theorem probe_dm {m : Nat} : ∀ (n : Nat) (p : SetTable.Probe), p.dummy = none → (nth m p n).dummy = none
  | 0, _, h => h
  | n + 1, p, h => probe_dm n (adv m p) (by unfold adv; split <;> exact h)
noncomputable abbrev prb (m : Nat) (h : Int) (c : Nat) : SetTable.Probe := nth m (runAt m (SetTable.bits h % (m + 1)) (SetTable.bits h)) c
theorem TSet.search (R : TSet P w M s.heap a ks es ep t) {x : Addr} {k : NestedKey} {h : Int} (eh : h = (nestedKind P w).hash k) (hG : ∀ k b, M k b → (nestedKind P w).is s.heap k b) (hx : M k x) (hu : (nestedKind P w).room A) {K : Nat} (hf : K < 10 * SetTable.turns t.mask)
    (hK : way t.mask h K ∉ t.place.toList) (hb : ∀ c, c < K → way t.mask h c ∈ t.place.toList) {Q : SetFound → Shared → Prop} (hin : k ∈ ks → Q (.there none) s) (hout : k ∉ ks → Q (.free (way t.mask h K) false) s) :
    ∀ (f c : Nat) (st : Option SetTable.Probe), st.getD (t.probeStart h) = prb t.mask h c → c ≤ K → K - c < f →
      (k ∈ ks → ∃ (i c' : Nat) (b : Addr), c ≤ c' ∧ c' < K ∧ t.place.toList[i]? = some (way t.mask h c') ∧ es[i]? = some (h, Value.ref b) ∧ M k b) → wpAny (model P w) A (setSearchFrom a (.ref x) h true f st) Q E s := by
  have up : ∀ {k b}, M k b → (nestedKind P w).is s.heap k b := fun x => hG _ _ x
  intro f
  induction f with
  | zero => intro c st _ _ z _; omega
  | succ f ih =>
    intro c st e0 hc hfc ahead
    obtain ⟨o, ho, _, hd⟩ := R.ob
    have jump : ∀ q, nth t.mask (prb t.mask h c) q = prb t.mask h (c + q) := fun q => (nth_add t.mask c _ q).symm
    have jj : ∀ q, (nth t.mask (prb t.mask h c) q).j = way t.mask h (c + q) := fun q => by rw [jump]
    have endK : c + (K - c) = K := by omega
    rw [setSearchFrom_succ]
    refine wpAny_bind (wpAny_setState_of ho hd R.fits ?_)
    dsimp only
    refine wp_if_neg (by unfold SetTable.gaveWay; rw [mask_odd R.tab.mok]; decide) ?_
    have spec := go_spec t R.tab.ris R.tab.dm (fun i : Nat => (Option.map Prod.fst es[i]?).getD (0 : Int)) h (10 * SetTable.turns t.mask) (K - c) (prb t.mask h c) (probe_dm c _ rfl) (by omega)
      (fun q hq => by rw [jj]; exact hb _ (by omega)) (by rw [jj, endK]; exact hK)
    have passed : ∀ {q : Nat}, (∀ k' i', k' < q → t.place.toList[i']? = some (nth t.mask (prb t.mask h c) k').j → (fun i : Nat => (Option.map Prod.fst es[i]?).getD (0 : Int)) i' ≠ h) → ∀ {i c' : Nat} {b : Addr}, c ≤ c' → t.place.toList[i]? = some (way t.mask h c') → es[i]? = some (h, Value.ref b) → c + q ≤ c' := fun {q} no {i c' b} h1 h2 h3 => by
      refine Classical.byContradiction fun z => no (c' - c) i (by omega) (by rw [jj, show c + (c' - c) = c' by omega]; exact h2) ?_
      show (Option.map Prod.fst es[i]?).getD (0 : Int) = h
      rw [h3]; rfl
    rcases spec with ⟨q, i, hq, hi, hh, no, go⟩ | ⟨no, go⟩
    · have go : t.probe (fun i : Nat => (Option.map Prod.fst es[i]?).getD (0 : Int)) h (st.getD (t.probeStart h)) = some (.candidate (way t.mask h (c + q)) i (prb t.mask h (c + (q + 1)))) := by
        rw [e0, ← jj, ← jump]; exact go
      rw [jj] at hi
      rw [go]
      dsimp only
      have hil : i < es.size := by
        have := (List.getElem?_eq_some_iff.mp hi).1
        rw [Array.length_toList, R.places] at this
        exact this
      have eg : es[i]? = some es[i] := Array.getElem?_eq_getElem hil
      obtain ⟨k', b', ee, hk', mem⟩ := R.el es[i] (by simp)
      rw [ee] at eg
      have hh : (nestedKind P w).hash k' = h := by
        have hh : (Option.map Prod.fst es[i]?).getD (0 : Int) = h := hh
        rw [eg] at hh
        exact hh
      rw [hh] at eg
      have rest : wpAny (model P w) A (searchRest a (.ref x) h true f es t (way t.mask h (c + q)) i (prb t.mask h (c + (q + 1)))) Q E s := by
        unfold searchRest
        rw [eg]
        dsimp only
        refine wpAny_bind (wpAny_holding ((nestedKind P w).eqBool hu (up hk') (up hx) (wpAny_bind (wpAny_setState_of ho hd R.fits ?_))))
        dsimp only
        by_cases same : k' = k
        · exact wp_if_pos (by simp [same]) (wpAny_pure (hin (same ▸ mem)))
        · refine wp_if_neg (by simp [same]) ?_
          have live : t.slot (way t.mask h (c + q)) = .live i := slot_live R.tab.ris hi
          rw [sameMem]
          simp only [if_true, live, eg]
          refine wpAny_bind (wpAny_isSame_ref_self (wpAny_bind (wpAny_pure ?_)))
          simp only [if_true]
          refine wp_if_neg (by simp [same]) (ih (c + (q + 1)) _ rfl (by omega) (by omega) fun m => ?_)
          obtain ⟨i0, c', b, a1, a2, a3, a4, a5⟩ := ahead m
          refine ⟨i0, c', b, ?_, a2, a3, a4, a5⟩
          have := passed no a1 a3 a4
          rcases Nat.lt_or_ge (c + q) c' with z | z
          · omega
          · exfalso
            obtain rfl : c' = c + q := by omega
            have l2 := slot_live R.tab.ris a3
            rw [live] at l2
            injection l2 with l2
            subst l2
            rw [eg] at a4
            injection a4 with a4
            injection a4 with _ a4
            injection a4 with a4
            subst a4
            exact same ((nestedKind P w).inj (up hk') (up a5))
      by_cases led : t.led = true
      · exact wp_if_neg (by simp [led]) rest
      · refine wp_if_pos (by simp [led]) (wpAny_bind (seen_key (up hx) (fun y hy => ?_) (wp_if_neg (by decide) rest)))
        obtain ⟨e, he, rfl⟩ := List.mem_map.mp hy
        obtain ⟨k2, b2, rfl, h2, _⟩ := R.el e (by simp at he; simpa using he.1)
        exact ⟨k2, b2, rfl, up h2⟩
    · have go : t.probe (fun i : Nat => (Option.map Prod.fst es[i]?).getD (0 : Int)) h (st.getD (t.probeStart h)) = some (.empty (way t.mask h K) none) := by
        have : way t.mask h K = (nth t.mask (prb t.mask h c) (K - c)).j := by rw [jj, endK]
        rw [e0, this]; exact go
      rw [go]
      dsimp only
      refine wpAny_pure (hout fun m => ?_)
      obtain ⟨i0, c', b, a1, a2, a3, a4, a5⟩ := ahead m
      have := passed no a1 a3 a4
      omega
theorem range_gets {α : Type} : ∀ (l : List α), (List.range l.length).filterMap (fun i => l[i]?) = l
  | [] => rfl
  | x :: l => by
    rw [List.length_cons, List.range_succ_eq_map, List.filterMap_cons_some (f := fun i => (x :: l)[i]?) (a := 0) (b := x) rfl, List.filterMap_map]
    exact congrArg (x :: ·) (range_gets l)
theorem order_fst (es : Array (Int × Value)) : ∀ (l : List Nat), (∀ i ∈ l, i < es.size) → (l.filterMap (fun i => es[i]?)).map Prod.fst = l.map fun i => (es.map Prod.fst).getD i 0
  | [], _ => rfl
  | i :: l, h => by
    have hi := h i List.mem_cons_self
    rw [List.filterMap_cons_some (Array.getElem?_eq_getElem hi), List.map_cons, List.map_cons, order_fst es l fun j hj => h j (List.mem_cons_of_mem _ hj)]
    congr 1
    simp [Array.getD, hi]
theorem TSet.perm {es' : Array (Int × Value)} (el : ∀ e ∈ es.toList, ∃ k b, e = ((nestedKind P w).hash k, Value.ref b) ∧ M k b ∧ k ∈ ks) (has : ∀ k ∈ ks, ∃ b, ((nestedKind P w).hash k, Value.ref b) ∈ es.toList ∧ M k b)
    (pm : es'.toList.Perm es.toList) : (∀ e ∈ es'.toList, ∃ k b, e = ((nestedKind P w).hash k, Value.ref b) ∧ M k b ∧ k ∈ ks) ∧ ∀ k ∈ ks, ∃ b, ((nestedKind P w).hash k, Value.ref b) ∈ es'.toList ∧ M k b :=
  ⟨fun e he => el e (pm.mem_iff.mp he), fun k hk => by
    obtain ⟨b, h1, h2⟩ := has k hk
    exact ⟨b, pm.mem_iff.mpr h1, h2⟩⟩
/-- the table is laid anew -/
theorem relay_key {o : Obj} (ho : s.heap.get? a = some o) (hex : o.ExactSet) (hd : o.data = .set es ep t) (tab : TabOk t (es.toList.map (·.1))) (el : ∀ e ∈ es.toList, ∃ k b, e = ((nestedKind P w).hash k, Value.ref b) ∧ M k b ∧ k ∈ ks)
    (has : ∀ k ∈ ks, ∃ b, ((nestedKind P w).hash k, Value.ref b) ∈ es.toList ∧ M k b) (sz : es.size = ks.length) (few : es.size < 64) (ld : w.params.followText "set-order" = true ∨ t.led = true) (le : es.size ≤ t.mask) {want m : Nat} (hw : SetTable.sizeAbove want = m + 1) (hM : MaskOk m) (hn : es.size * 5 < m * 3) {Q : Unit → Shared → Prop}
    (hQ : ∀ h' es' ep' t', Heap.SameBut a s.heap h' → TSet P w M h' a ks es' ep' t' → Q () { s with heap := h' }) : wpAny (model P w) A (setRelay a want) Q E s := by
  have pl : t.place.size = es.size := by
    have := tab.sz
    rwa [List.length_map, Array.length_toList] at this
  have small : m ≤ 127 := by rcases hM with e | e | e <;> omega
  obtain ⟨t', order, e, hp, T, em, el', _, _⟩ := relaid_ok t (hs := es.map (·.1)) (wanted := want) (M := m) (by omega) hM (by rw [Array.size_map]; omega)
  rw [Array.size_map] at hp
  have inb : ∀ i ∈ order.toList, i < es.size := fun i hi => List.mem_range.mp (hp.mem_iff.mp hi)
  have el2 : (order.filterMap (es[·]?)).toList = order.toList.filterMap (fun i => es[i]?) := by simp
  have pm : (order.filterMap (es[·]?)).toList.Perm es.toList := by
    rw [el2]
    have q : (order.toList.filterMap fun i => es[i]?).Perm ((List.range es.size).filterMap fun i => es[i]?) := hp.filterMap _
    have r := range_gets es.toList
    rw [Array.length_toList] at r
    simp only [Array.getElem?_toList] at r
    rw [r] at q
    exact q
  have z2 : (order.filterMap (es[·]?)).size = es.size := by
    have := pm.length_eq
    rwa [Array.length_toList, Array.length_toList] at this
  rw [show (order.toList.map fun i => (es.map (·.1)).getD i 0) = (order.filterMap (es[·]?)).toList.map (·.1) from by rw [el2]; exact (order_fst es order.toList inb).symm] at T
  rw [setRelay_eq]
  refine wpAny_bind (wpAny_setState_of ho hd (tab_fits tab.dm pl le) ?_)
  dsimp only
  refine wp_if_neg (by rw [sizeLine_eq]; omega) ?_
  rw [e]
  dsimp only
  refine wpAny_bind (wp_if_neg (by rw [z2]; simp) (wpAny_pure ?_))
  dsimp only
  refine wpAny_storeSet_of ho hd ?_ (by rw [z2, sizeLine_eq]; omega)
  have sb : Heap.SameBut a s.heap (s.heap.update a (Obj.putSet (order.filterMap (es[·]?)) t')) := Heap.SameBut.update ..
  obtain ⟨p1, p2⟩ := TSet.perm el has pm
  exact hQ _ _ (ep + 1) t' sb ⟨⟨_, store_at ho hd, ⟨hex.1, hex.2.1, hex.2.2⟩, rfl⟩, T, p1, p2, by rw [z2]; exact sz, by rw [z2, em]; exact hn, by rw [z2]; exact few, by rw [el']; exact ld⟩
theorem TSet.find (R : TSet P w M s.heap a ks es ep t) {x : Addr} {k : NestedKey} (hG : ∀ k b, M k b → (nestedKind P w).is s.heap k b) (hx : M k x) (hu : (nestedKind P w).room A) {Q : SetFound → Shared → Prop} (hin : k ∈ ks → Q (.there none) s)
    (hout : ∀ K, k ∉ ks → way t.mask ((nestedKind P w).hash k) K ∉ t.place.toList → (∀ c, c < K → way t.mask ((nestedKind P w).hash k) c ∈ t.place.toList) → Q (.free (way t.mask ((nestedKind P w).hash k) K) false) s) :
    wpAny (model P w) A (setSearch a (.ref x) ((nestedKind P w).hash k) true) Q E s := by
  have room := R.room
  obtain ⟨K, h1, h2, h3⟩ := R.tab.first (by rw [List.length_map, Array.length_toList]; omega) ((nestedKind P w).hash k)
  have big : K < 100000 := by
    have : 10 * SetTable.turns t.mask ≤ 1420 := by
      unfold SetTable.turns
      rcases R.tab.mok with e | e | e <;> omega
    omega
  unfold setSearch
  refine R.search rfl hG hx hu h1 h2 h3 hin (fun z => hout K z h2 h3) 100000 0 none rfl (Nat.zero_le _) (by omega) fun m => ?_
  obtain ⟨b, hb, hk⟩ := R.has k m
  obtain ⟨i, hi, e⟩ := List.getElem_of_mem hb
  have ei : es.toList[i]? = some ((nestedKind P w).hash k, Value.ref b) := by rw [List.getElem?_eq_getElem hi, e]
  have hil : i < t.place.toList.length := by
    rw [Array.length_toList, R.places, ← Array.length_toList]; exact hi
  obtain ⟨c, c1, c2⟩ := R.tab.before h2 (i := i) (h := (nestedKind P w).hash k) (by rw [List.getElem?_map, ei]; rfl) (List.getElem?_eq_getElem hil)
  exact ⟨i, c, b, Nat.zero_le _, c1, by rw [List.getElem?_eq_getElem hil, c2], by rw [← Array.getElem?_toList]; exact ei, hk⟩
/-- a member more, or none -/
theorem TSet.add (R : TSet P w M s.heap a ks es ep t) {x : Addr} {k : NestedKey} (hG : ∀ k b, M k b → (nestedKind P w).is s.heap k b) (hx : M k x) (hu : (nestedKind P w).room A) (few : ks.length + 1 < 64) {Q : Bool → Shared → Prop}
    (hQ : ∀ b h' es' ep' t', Heap.SameBut a s.heap h' → TSet P w M h' a (if k ∈ ks then ks else ks ++ [k]) es' ep' t' → Q b { s with heap := h' }) : wpAny (model P w) A (setAddHashed a (.ref x) ((nestedKind P w).hash k)) Q E s := by
  obtain ⟨o, ho, hex, hd⟩ := R.ob
  have sz := R.sz
  have room := R.room
  unfold setAddHashed
  refine wpAny_holding ?_
  rw [show (100000 : Nat) = 99999 + 1 from rfl, setAddHashedIn_succ]
  refine wpAny_bind (wpAny_setState_of ho hd R.fits ?_)
  dsimp only
  refine wp_if_neg (by simp [byScan, Value.scannable]) ?_
  refine wpAny_bind (R.find hG hx hu (fun m => ?_) fun K m h1 h2 => ?_)
  · dsimp only
    exact wpAny_pure (hQ false s.heap es ep t (Heap.SameBut.refl a s.heap) (by rw [if_pos m]; exact R))
  · dsimp only
    refine wpAny_bind (wpAny_setState_of ho hd R.fits ?_)
    dsimp only
    obtain ⟨q1, q2, q3, q4, q5, _, _, _, q9⟩ := R.tab.put h1 h2
    rw [List.length_map, Array.length_toList] at q9
    generalize t.put (way t.mask ((nestedKind P w).hash k) K) = pt at q1 q3 q4 q5 q9 ⊢
    obtain ⟨t1, p⟩ := pt
    dsimp only at q1 q3 q4 q5 q9 ⊢
    subst q1
    generalize SetTable.below t.place (way t.mask ((nestedKind P w).hash k) K) = p at q2 q3 ⊢
    have e1 : (SetTable.insertAt es p ((nestedKind P w).hash k, Value.ref x)).toList = es.toList.take p ++ ((nestedKind P w).hash k, Value.ref x) :: es.toList.drop p := SetTable.toList_insertAt _ _ _
    have e2 : (SetTable.insertAt es p ((nestedKind P w).hash k, Value.ref x)).toList.map (·.1) = (es.toList.map (·.1)).take p ++ (nestedKind P w).hash k :: (es.toList.map (·.1)).drop p := by
      rw [e1, List.map_append, List.map_cons, List.map_take, List.map_drop]
    have pm : (SetTable.insertAt es p ((nestedKind P w).hash k, Value.ref x)).toList.Perm (((nestedKind P w).hash k, Value.ref x) :: es.toList) := by
      rw [e1]; exact put_perm es.toList p _
    rw [← e2] at q3
    generalize SetTable.insertAt es p ((nestedKind P w).hash k, Value.ref x) = es1 at q3 pm ⊢
    have z1 : es1.size = es.size + 1 := by
      have := pm.length_eq
      rwa [Array.length_toList, List.length_cons, Array.length_toList] at this
    have done : ∀ (t2 : SetTable), TabOk t2 (es1.toList.map (·.1)) → t2.mask = t1.mask → t2.fill = t1.fill → t2.led = t1.led → wpAny (model P w) A (storeSet a es1 t2 >>= fun _ => if (!false && t2.tooFull) = true then (setRelay a (SetTable.grown (es.size + 1)) >>= fun _ => pure true) else pure true) Q E s := fun t2 T2 em2 ef2 el2 => by
      have ld2 : w.params.followText "set-order" = true ∨ t2.led = true := by rw [el2, q5]; exact R.led
      refine wpAny_bind (wpAny_storeSet_of ho hd ?_ (by rw [z1, sizeLine_eq]; omega))
      have sb : Heap.SameBut a s.heap (s.heap.update a (Obj.putSet es1 t2)) := Heap.SameBut.update ..
      have ho1 := store_at (es' := es1) (t' := t2) ho hd
      generalize s.heap.update a (Obj.putSet es1 t2) = h1 at sb ho1 ⊢
      have el1 : ∀ e ∈ es1.toList, ∃ k' b, e = ((nestedKind P w).hash k', Value.ref b) ∧ M k' b ∧ k' ∈ ks ++ [k] := fun e he => by
        rcases List.mem_cons.mp (pm.mem_iff.mp he) with rfl | he
        · exact ⟨k, x, rfl, hx, by simp⟩
        · obtain ⟨k', b, a1, a2, a3⟩ := R.el e he
          exact ⟨k', b, a1, a2, by simp [a3]⟩
      have has1 : ∀ k' ∈ ks ++ [k], ∃ b, ((nestedKind P w).hash k', Value.ref b) ∈ es1.toList ∧ M k' b := fun k' hk' => by
        rcases List.mem_append.mp hk' with z | z
        · obtain ⟨b, a1, a2⟩ := R.has k' z
          exact ⟨b, pm.mem_iff.mpr (List.mem_cons_of_mem _ a1), a2⟩
        · obtain rfl := List.mem_singleton.mp z
          exact ⟨x, pm.mem_iff.mpr List.mem_cons_self, hx⟩
      have sz1 : es1.size = (ks ++ [k]).length := by rw [z1, sz, List.length_append]; rfl
      by_cases hf : t2.tooFull = true
      · refine wp_if_pos (by simp [hf]) (wpAny_bind ?_)
        have full : (es.size + 1) * 5 ≥ t.mask * 3 := by
          unfold SetTable.tooFull at hf
          rw [decide_eq_true_eq, ef2, q9, em2, q4] at hf
          exact hf
        have two : (t.mask = 7 ∧ es.size = 4) ∨ (t.mask = 31 ∧ es.size = 18) := by
          rcases R.tab.mok with e | e | e <;> rw [e] at full room
          · exact .inl ⟨e, by omega⟩
          · exact .inr ⟨e, by omega⟩
          · omega
        have go : ∀ M, SetTable.sizeAbove (SetTable.grown (es.size + 1)) = M + 1 → MaskOk M → (es.size + 1) * 5 < M * 3 → wpAny (model P w) A (setRelay a (SetTable.grown (es.size + 1))) (fun _ s' => wpAny (model P w) A (pure true) Q E s') E { s with heap := h1 } := fun M m1 m2 m3 => by
          refine relay_key (s := { s with heap := h1 }) (ks := ks ++ [k]) ho1 ⟨hex.1, hex.2.1, hex.2.2⟩ rfl T2 el1 has1 sz1 (by omega) ld2 (by rw [em2, q4]; omega) m1 m2 (by rw [z1]; exact m3) fun h2 es2 ep2 t3 sb2 R2 => ?_
          exact wpAny_pure (hQ true h2 es2 ep2 t3 (sb.trans sb2) (by rw [if_neg m]; exact R2))
        rcases two with ⟨_, e⟩ | ⟨_, e⟩
        · exact go 31 (by rw [e]; exact size_20) (.inr (.inl rfl)) (by omega)
        · exact go 127 (by rw [e]; exact size_76) (.inr (.inr rfl)) (by omega)
      · refine wp_if_neg (by simp [hf]) (wpAny_pure (hQ true h1 es1 (ep + 1) t2 sb ?_))
        rw [if_neg m]
        refine ⟨⟨_, ho1, ⟨hex.1, hex.2.1, hex.2.2⟩, rfl⟩, T2, el1, has1, sz1, ?_, by omega, ld2⟩
        unfold SetTable.tooFull at hf
        rw [decide_eq_true_eq, ef2, q9, em2] at hf
        rw [em2, z1]
        omega
    have both : ∀ b : Bool, wpAny (model P w) A (storeSet a es1 (if b = true then t1 else { t1 with plain := false }) >>= fun _ => if (!false && (if b = true then t1 else { t1 with plain := false }).tooFull) = true then (setRelay a (SetTable.grown (es.size + 1)) >>= fun _ => pure true) else pure true) Q E s := fun b => by
      cases b with
      | true => exact done t1 q3 rfl rfl rfl
      | false => exact done { t1 with plain := false } ⟨q3.ris, q3.dm, q3.sz, q3.mok, q3.bd, q3.reach⟩ rfl rfl rfl
    split
    · exact wpAny_bind (byv_key k _ 8 s A _ (hG _ _ hx).1 both)
    · exact wpAny_bind (wpAny_pure (both true))
theorem TSet.keep {h h' : Heap} (R : TSet P w M h a ks es ep t) (ha : ∀ o, h.get? a = some o → h'.get? a = some o) : TSet P w M h' a ks es ep t := by
  obtain ⟨o, ho, r⟩ := R.ob
  exact ⟨⟨o, ha o ho, r⟩, R.tab, R.el, R.has, R.sz, R.room, R.few, R.led⟩
theorem tset_fresh {h : Heap} {led : Bool} (hled : led = (!w.params.followText "set-order")) (ho : h.get? a = some (set0 led)) : TSet P w M h a [] #[] 0 (.fresh 0 0 led) := by
  refine ⟨⟨_, ho, ⟨rfl, rfl, rfl⟩, rfl⟩, ⟨List.Pairwise.nil, rfl, rfl, .inl rfl, fun x hx => (by cases hx), fun i h j hi => (by simp at hi)⟩, fun e he => (by simp at he), fun k hk => (by cases hk), rfl, ?_, ?_, ?_⟩
  · show 0 * 5 < 7 * 3
    decide
  · show 0 < 64
    decide
  · show _ ∨ led = true
    rw [hled]
    cases w.params.followText "set-order" <;> simp
/-- the loop that fills such a set from a walk; G: the heap before, with the members in it -/
theorem fill_key {G : Heap} {R : Result → Shared → Prop} {I : Addr} {fp wr : List Addr} {Gn : Array GenState → Array GenState → Prop} {n : Nat} {Pv : Nat → Value → Prop} {St : Nat → Shared → Prop} (W : WalksS P w A.in1 I fp wr Gn n Pv St) (S : Addr) (ns : S ∉ fp) (few : n < 64) (hu : (nestedKind P w).room A.in1)
    (hM : ∀ k b, M k b → (nestedKind P w).is G k b) (val : Nat → NestedKey) (hv : ∀ i v, Pv i v → ∃ b, v = .ref b ∧ M (val i) b) (nS : G.get? S = none) (nw0 : ∀ b ∈ wr, G.get? b = none) : ∀ (k i : Nat) (s : Shared), n - i = k → i ≤ n → St i s → (∀ b o, G.get? b = some o → s.heap.get? b = some o) →
      (∃ es ep t, TSet P w M s.heap S (metK val i) es ep t) → (∀ s' es ep t, Moved (S :: wr) Gn s s' → TSet P w M s'.heap S (metK val n) es ep t → R (.ok (.ret .none)) s') → codeAny (model P w) A (.builtin "set.update.loop" ⟨[.ref S, .ref I], []⟩) R s := by
  have nw : S ∉ wr := fun q => ns (W.sub _ q)
  have sub : ∀ b ∈ wr, b ∈ S :: wr := fun b q => List.mem_cons_of_mem _ q
  have carry : ∀ {s s' : Shared}, Moved wr Gn s s' → (∀ b o, G.get? b = some o → s.heap.get? b = some o) → ∀ b o, G.get? b = some o → s'.heap.get? b = some o := fun hm hk b o e =>
    hm.heap b o (fun q => by rw [nw0 b q] at e; cases e) (hk b o e)
  intro k
  induction k with
  | zero =>
    intro i s ek hi st k0 ⟨es, ep, t, hS⟩ hR
    obtain rfl : i = n := by omega
    refine codeAny_builtin F.entry_set_update_loop ?_
    rw [Around.under_plainId F.plain_set_update_loop _]
    show wpAny _ A.in1 (pyNext (.ref I) >>= _) _ _ s
    refine wpAny_bind (W.done s _ _ st fun u hm => ?_)
    show wpAny _ A.in1 (ret Value.none) _ _ u
    exact wpAny_pure (hR u es ep t (hm.mono sub) (hS.keep fun o e => hm.heap S o nw e))
  | succ k ih =>
    intro i s ek hi st k0 ⟨es, ep, t, hS⟩ hR
    have lt : i < n := by omega
    refine codeAny_builtin F.entry_set_update_loop ?_
    rw [Around.under_plainId F.plain_set_update_loop _]
    show wpAny _ A.in1 (pyNext (.ref I) >>= _) _ _ s
    refine wpAny_bind (W.item i s _ _ lt st fun v u hP st2 hm => ?_)
    obtain ⟨b, rfl, hk⟩ := hv i v hP
    have k1 := carry hm k0
    show wpAny _ A.in1 (holding [Value.ref b] (setAdd S (.ref b)) >>= _) _ _ u
    refine wpAny_bind (wpAny_holding ?_)
    unfold setAdd
    refine wpAny_holding (wpAny_bind ((nestedKind P w).pyHash hu (nestedKind_stays.stays (fun b o _ _ e _ => k1 b o e) (hM _ _ hk)) ?_))
    have := metK_le val i
    refine (hS.keep fun o e => hm.heap S o nw e : TSet P w M u.heap S (metK val i) es ep t).add (s := { u with toks := u.toks + (nestedKind P w).draws (val i) }) (fun k b x => nestedKind_stays.stays (fun b o _ _ e _ => k1 b o e) (hM k b x)) hk hu (by omega) fun bb h' es' ep' t' sb hS3 => ?_
    refine wpAny_pure ⟨plainId_quiet F.plain_set_update_loop _, ih (i + 1) _ (by omega) lt (W.frame _ u _ _ st2 (Nat.le_add_right _ _) fun c q o e => ?_) (fun c o e => (sb.2 c fun z => by rw [z, nS] at e; cases e).trans (k1 c o e)) ⟨es', ep', t', hS3⟩ fun s' es2 ep2 t2 hm2 hS4 => ?_⟩
    · rw [sb.2 c (fun z : c = S => ns (z ▸ q))]; exact e
    · refine hR s' es2 ep2 t2 (Moved.trans W.gtrans ((hm.mono sub).then_heap (Nat.le_add_right _ _) fun c o q e => ?_) hm2) hS4
      rw [sb.2 c (fun z : c = S => q (z ▸ List.mem_cons_self))]; exact e
theorem mkkey {l : Addr} {its : Array Value} {val : Nat → NestedKey} {Q : Value → Shared → Prop} (hh : A.handled = none) (hl : s.heap.IsList l its) (hM : ∀ k b, M k b → (nestedKind P w).is s.heap k b) (hv : ∀ i v, its[i]? = some v → ∃ b, v = .ref b ∧ M (val i) b) (nb : its.size < 64) (hu : A.units + 11 < cLine)
    (q : ∀ (h' : Heap) (tk : Nat), (∃ es ep t, TSet P w M h' s.heap.objs.size (metK val its.size) es ep t) → (∀ b o, b < s.heap.objs.size → s.heap.get? b = some o → h'.get? b = some o) → Q (.ref s.heap.objs.size) { s with heap := h', toks := tk }) :
    wpAny (model P w) A (call (.type "set") [.ref l]) Q E s := by
  obtain ⟨o, ho, hc, n, hd⟩ := hl
  refine set_new (Post := fun h' => (∃ es ep t, TSet P w M h' s.heap.objs.size (metK val its.size) es ep t) ∧ ∀ b o, b < s.heap.objs.size → s.heap.get? b = some o → h'.get? b = some o) ho hc F.sub_list_set F.sub_list_frozenset (by decide) (fun led hled => ?_) fun h' tk z => q h' tk z.1 z.2
  have hl1 : (s.heap.push (set0 led)).IsList l its := ⟨o, Heap.get?_push_of_some _ ho, hc, n, hd⟩
  obtain ⟨a1, a2⟩ := away (led := led) (Heap.lt_size ho)
  exact wpAny_pyIter_list hl1 (fill_key (G := s.heap) ((Walks.list (A := A.in1.in1.in1) (by simp [hh]) _ l a1 its).toS) s.heap.objs.size a2 nb (by show _ + 8 < cLine; exact hu) hM val hv (none_of (Nat.le_refl _)) (fun b hb => none_of (by rw [List.mem_singleton.mp hb, Heap.size_push]; exact Nat.le_succ _)) (its.size - 0) 0 _ (by omega) (Nat.zero_le _)
    ⟨⟨_, Heap.get?_push_size _ rfl, rfl, rfl⟩, hl1.push _⟩ (fun b o e => Heap.get?_push_of_some _ (Heap.get?_push_of_some _ e)) ⟨_, _, _, tset_fresh hled (Heap.get?_push_of_some _ (Heap.get?_push_size _ rfl))⟩ fun s' es ep t hm hS => ⟨rfl, moved_end hm fun k => ⟨⟨es, ep, t, hS⟩, k⟩⟩)
theorem mkkeyT {l : Addr} {its : Array Value} {val : Nat → NestedKey} {Q : Value → Shared → Prop} (hh : A.handled = none) (hl : s.heap.IsTuple l its) (hM : ∀ k b, M k b → (nestedKind P w).is s.heap k b) (hv : ∀ i v, its[i]? = some v → ∃ b, v = .ref b ∧ M (val i) b) (nb : its.size < 64) (hu : A.units + 11 < cLine)
    (q : ∀ (h' : Heap) (tk : Nat), (∃ es ep t, TSet P w M h' s.heap.objs.size (metK val its.size) es ep t) → (∀ b o, b < s.heap.objs.size → s.heap.get? b = some o → h'.get? b = some o) → Q (.ref s.heap.objs.size) { s with heap := h', toks := tk }) :
    wpAny (model P w) A (call (.type "set") [.ref l]) Q E s := by
  obtain ⟨o, ho, hc, n, hd⟩ := hl
  refine set_new (Post := fun h' => (∃ es ep t, TSet P w M h' s.heap.objs.size (metK val its.size) es ep t) ∧ ∀ b o, b < s.heap.objs.size → s.heap.get? b = some o → h'.get? b = some o) ho hc F.sub_tuple_set F.sub_tuple_frozenset (by decide) (fun led hled => ?_) fun h' tk z => q h' tk z.1 z.2
  have hl1 : (s.heap.push (set0 led)).IsTuple l its := ⟨o, Heap.get?_push_of_some _ ho, hc, n, hd⟩
  obtain ⟨a1, a2⟩ := away (led := led) (Heap.lt_size ho)
  exact wpAny_pyIter_tuple hl1 (fill_key (G := s.heap) ((Walks.tuple (A := A.in1.in1.in1) (by simp [hh]) _ l a1 its).toS) s.heap.objs.size a2 nb (by show _ + 8 < cLine; exact hu) hM val hv (none_of (Nat.le_refl _)) (fun b hb => none_of (by rw [List.mem_singleton.mp hb, Heap.size_push]; exact Nat.le_succ _)) (its.size - 0) 0 _ (by omega) (Nat.zero_le _)
    ⟨⟨_, Heap.get?_push_size _ rfl, rfl, rfl⟩, hl1.push _⟩ (fun b o e => Heap.get?_push_of_some _ (Heap.get?_push_of_some _ e)) ⟨_, _, _, tset_fresh hled (Heap.get?_push_of_some _ (Heap.get?_push_size _ rfl))⟩ fun s' es ep t hm hS => ⟨rfl, moved_end hm fun k => ⟨⟨es, ep, t, hS⟩, k⟩⟩)
end
section
variable {X : Cx}
theorem setN_key {P : Program} {w : World} {H : Hp} {M : NestedKey → Addr → Prop} {h : Heap} {a : Addr} {ks : List NestedKey} (x : ∃ es ep t, TSet P w M h a ks es ep t) : ObjOk P w H h a (setN a ks.length) := by
  obtain ⟨es, ep, t, R⟩ := x
  obtain ⟨o, ho, h1, h2⟩ := R.ob
  have f : t.fits es.size = true := tab_fits R.tab.dm (by have := R.tab.sz; rwa [List.length_map, Array.length_toList] at this) (by have := R.room; omega)
  refine ⟨⟨o, es, ep, t, ho, h1, h2, f, R.sz, by rw [← R.sz]; have := R.few; unfold scanBound; omega⟩, ⟨o, ho⟩, fun u1 u2 hx kp => ?_⟩
  obtain ⟨o, es, ep, t, ho, r⟩ := hx
  exact ⟨o, es, ep, t, kp o ho, r⟩
noncomputable abbrev ckey (p : Int × Str) : NestedKey := .tup [.num p.1, .text p.2]
theorem ckey_inj {p q : Int × Str} (h : ckey p = ckey q) : p = q := by
  injection h with h
  injection h with h1 h2
  injection h2 with h2 _
  injection h1 with h1
  injection h2 with h2
  exact Prod.ext h1 h2
theorem metK_fmap {κ κ' : Type} [DecidableEq κ] [DecidableEq κ'] (f : κ → κ') (inj : ∀ x y, f x = f y → x = y) (val : Nat → κ) : ∀ i, metK (fun i => f (val i)) i = (metK val i).map f
  | 0 => rfl
  | i + 1 => by
    have e : (f (val i) ∈ (metK val i).map f) ↔ val i ∈ metK val i := by
      rw [List.mem_map]
      exact ⟨fun ⟨y, h, e⟩ => inj _ _ e ▸ h, fun h => ⟨_, h, rfl⟩⟩
    unfold metK
    rw [metK_fmap f inj val i]
    by_cases c : val i ∈ metK val i
    · rw [if_pos c, if_pos (e.mpr c)]
    · rw [if_neg c, if_neg fun z => c (e.mp z), List.map_append]; rfl
instance : Inhabited (Int × Str) := ⟨(0, "")⟩
noncomputable abbrev cpd (p : Int × Str) : PyData := .tuple [.int p.1, .str p.2]
/-- tuples (int, text) on the heap -/
noncomputable def PairV (K : PySem.W.Frag) (H : Hp) : List V → List (Int × Str) → Prop
  | [], [] => True
  | v :: vs, p :: ps => (∃ a, v = .ref a ∧ SqT K H a [.int p.1, .str p.2]) ∧ PairV K H vs ps
  | _, _ => False
theorem pairV_of {K : PySem.W.Frag} {B H : Hp} (sb : Same B H) : ∀ (ks : List (Int × Str)) (vs : List V), DpAll K B vs (ks.map cpd) → PairV K H vs ks
  | [], _, h => by cases h; trivial
  | p :: ks, _, h => by
    cases h with
    | cons h1 h2 =>
      refine ⟨?_, pairV_of sb ks _ h2⟩
      obtain ⟨a, us, rfl, s1, s2⟩ := DpV.tuple (H := H) (show DpV K B H _ (.tuple [.int p.1, .str p.2]) from .inl h1) sb
      cases s2 with
      | cons q1 s3 => cases s3 with
        | cons q2 s4 => cases s4; cases q1; cases q2; exact ⟨a, rfl, s1⟩
theorem pairV_len {K : PySem.W.Frag} {H : Hp} : ∀ {vs : List V} {ks : List (Int × Str)}, PairV K H vs ks → vs.length = ks.length
  | [], [], _ => rfl
  | _ :: _, _ :: _, h => by rw [List.length_cons, List.length_cons, pairV_len h.2]
theorem pairV_at {K : PySem.W.Frag} {H : Hp} : ∀ {vs : List V} {ks : List (Int × Str)} {us : List Value} {i : Nat} {u : Value}, PairV K H vs ks → Vals vs us → us[i]? = some u → ∃ a, u = .ref a ∧ SqT K H a [.int (ks.getD i default).1, .str (ks.getD i default).2]
  | [], [], _, i, u, _, r, e => by cases r; simp at e
  | _ :: _, _ :: _, _, 0, u, h, r, e => by
    cases r with
    | cons r1 r2 =>
      obtain ⟨a, rfl, q⟩ := h.1
      cases e
      cases r1
      exact ⟨a, rfl, q⟩
  | _ :: _, _ :: _, _, i + 1, u, h, r, e => by
    cases r with
    | cons r1 r2 =>
      obtain ⟨a, h1, h2⟩ := pairV_at (i := i) h.2 r2 (by simpa using e)
      exact ⟨a, h1, by simpa using h2⟩
theorem Inv.ckey {pins : List (Addr × Obj)} {σ : L2.St} {H : Hp} {s : Shared} {a : Addr} {p : Int × Str} (I : Inv X pins σ H s) (h : SqT X.K H a [.int p.1, .str p.2]) : (nestedKind X.prog X.w).is s.heap (ckey p) a := by
  obtain ⟨its, r, ⟨o, e, hc, n, hd⟩, _⟩ := I.tuple h
  cases r with
  | cons r1 r => cases r with
    | cons r2 r =>
      cases r
      obtain ⟨t1, rfl⟩ := r1
      obtain ⟨t2, rfl⟩ := r2
      exact ⟨.tup e hc hd (.cons (.int _ _) (.cons (.text _ _) .nil)), by simp [NestedKey.depth, NestedKey.depthAll]⟩
noncomputable def rSetK (K : PySem.W.Frag) : List V → Hp → VK → Prop := fun xs H Q => ∃ p ys ks, xs = [.ref p] ∧ (SqL K H p ys ∨ SqT K H p ys) ∧ ks.length < 64 ∧ PairV K H ys ks ∧ ∀ q, H q = none → Q (.ref q) (upd H q (setN q (distN ks)))
theorem call_setK (hc : X.calm = true) (hu : X.A.units + 65 < cLine) : CallR X (.type "set") (rSetK X.K) := by
  intro pins s σ H xs us Q I r h
  obtain ⟨p, ys, ks, rfl, hq, hb, hp, q⟩ := h
  obtain ⟨u, rfl, rx⟩ := vals1 r
  cases rx
  obtain ⟨its, r', src⟩ : ∃ its, Vals ys its ∧ (s.heap.IsList p its.toArray ∨ s.heap.IsTuple p its.toArray) := by
    rcases hq with hq | hq
    · obtain ⟨its, r', pl, hz⟩ := I.list hq
      exact ⟨its, r', .inl pl.isList⟩
    · obtain ⟨its, r', pl, hz⟩ := I.tuple hq
      exact ⟨its, r', .inr (show s.heap.IsTuple p its.toArray from pl)⟩
  have el : its.toArray.size = ks.length := by rw [List.size_toArray, ← r'.length, pairV_len hp]
  have hv : ∀ i v, its.toArray[i]? = some v → ∃ b, v = .ref b ∧ (nestedKind X.prog X.w).is s.heap (ckey (ks.getD i default)) b := fun i v e => by
    obtain ⟨a, rfl, h2⟩ := pairV_at hp r' (by rw [List.getElem?_toArray] at e; exact e)
    exact ⟨a, rfl, Dl.Inv.ckey I h2⟩
  have fin : ∀ (h' : Heap) (tk : Nat), (∃ es ep t, TSet X.prog X.w ((nestedKind X.prog X.w).is s.heap) h' s.heap.objs.size (metK (fun i => ckey (ks.getD i default)) its.toArray.size) es ep t) → (∀ b o, b < s.heap.objs.size → s.heap.get? b = some o → h'.get? b = some o) →
      EP X pins σ Q (.ref s.heap.objs.size) { s with heap := h', toks := tk } := fun h' tk hS kp => by
    rw [el, metK_fmap ckey (fun _ _ => ckey_inj)] at hS
    have hN := setN_key (H := upd H s.heap.objs.size (setN s.heap.objs.size (distN ks))) hS
    rw [List.length_map] at hN
    exact ⟨.ref s.heap.objs.size, _, I.laid (fun b o e => kp b o (Heap.lt_size e) e) (Nat.le_refl _) hN, rfl, q _ (I.hok.fresh (Nat.le_refl _))⟩
  rcases src with pl | pl
  · exact mkkey (I.ok.hd hc) pl (fun _ _ x => x) hv (by omega) (by omega) fin
  · exact mkkeyT (I.ok.hd hc) pl (fun _ _ x => x) hv (by omega) (by omega) fin
/-- set(xs) of texts, of numbers, of tuples (number, text) -/
theorem call_setC (hc : X.calm = true) (hu : X.A.units + 65 < cLine) : CallR X (.type "set") (fun xs H Q => rSetN X.K xs H Q ∨ rSetK X.K xs H Q) := by
  intro pins s σ H xs us Q I r h
  rcases h with h | h
  · exact call_setN hc pins s σ H xs us Q I r h
  · exact call_setK hc hu pins s σ H xs us Q I r h
noncomputable def cellsN (ys : List PyData) (Q : RV → Prop) : Prop := ys.length < 64 ∧ ((∃ ks : List Str, ys = ks.map PyData.str ∧ Q (.d (.int (distN ks : Nat)))) ∨ (∃ ks : List Int, ys = ks.map PyData.int ∧ Q (.d (.int (distN ks : Nat)))) ∨ ∃ ks : List (Int × Str), ys = ks.map cpd ∧ Q (.d (.int (distN ks : Nat))))
noncomputable def wLenSetC : DCall := fun xs Q => match xs with
  | [.list ys] => cellsN ys Q
  | [.tuple ys] => cellsN ys Q
  | _ => False
theorem le_lensetC {e : Expr} {wr : DA} {p pos p2 pos2 : Pos} (hc : X.calm = true) (hu : X.A.units + 65 < cLine) (hg : Gl X "len") (hm : X.mg "len" = none) (hg2 : Gl X "set") (hm2 : X.mg "set" = none) (ha : LA X [e] wr)
    (hs : starEach [e] X.env = (false, eval e X.env) :: starEach [] X.env := by rfl) (hs2 : starEach [.Call (.Name "set" p2) [e] [] pos2] X.env = (false, eval (.Call (.Name "set" p2) [e] [] pos2) X.env) :: starEach [] X.env := by rfl) :
    LE X (.Call (.Name "len" p) [.Call (.Name "set" p2) [e] [] pos2] [] pos) (dCB wLenSetC wr) :=
  pe_imp (pe_callB call_lenN hg hm (by decide +kernel) (pa_cons (pe_callTy (call_setC hc hu) hg2 hm2 (by decide +kernel) ha (he := hs)) pa_nil hs2) (he := hs2)) fun σ H Q hu => by
    obtain ⟨ρ, n, B, bxs, Qd, g, e, w1, q⟩ := hu
    refine ⟨ρ, n, B, bxs, _, g, e, w1, fun rs n1 vs B1 H1 hq s1 vr f1 => ?_⟩
    obtain ⟨xs, ex, hq⟩ := onO_ex hq
    have dv := views_r _ _ _ vr ex
    have sb := (g.step s1).sub
    have main : ∀ (p : Addr) (us : List V) (ys : List PyData), (SqL X.K H1 p us ∨ SqT X.K H1 p us) → DpAll X.K B1 us ys → cellsN ys (fun r => Qd r n1) → (rSetN X.K [.ref p] H1 fun v H2 => ∃ a n, [v] = [.ref a] ∧ H2 a = some (setN a n) ∧ Q (.int (n : Int)) H2) ∨ rSetK X.K [.ref p] H1 fun v H2 => ∃ a n, [v] = [.ref a] ∧ H2 a = some (setN a n) ∧ Q (.int (n : Int)) H2 := fun p us ys h1 h2 hq => by
      have hl := dpLen _ _ h2
      obtain ⟨hn, ⟨ks, rfl, hq⟩ | ⟨ks, rfl, hq⟩ | ⟨ks, rfl, hq⟩⟩ := hq
      · exact .inl ⟨p, us, rfl, h1, by omega, .inl ⟨ks, ofStrs _ _ h2, fun z hz => ⟨z, _, rfl, upd_same, q _ _ _ _ _ hq (s1.lay0 hz) (.int _) trivial⟩⟩⟩
      · exact .inl ⟨p, us, rfl, h1, by omega, .inr ⟨ks, ofInts _ _ h2, fun z hz => ⟨z, _, rfl, upd_same, q _ _ _ _ _ hq (s1.lay0 hz) (.int _) trivial⟩⟩⟩
      · exact .inr ⟨p, us, ks, rfl, h1, by rw [List.length_map] at hn; exact hn, pairV_of sb _ _ h2, fun z hz => ⟨z, _, rfl, upd_same, q _ _ _ _ _ hq (s1.lay0 hz) (.int _) trivial⟩⟩
    unfold wLenSetC at hq
    split at hq
    · obtain ⟨v, rfl, dx⟩ := dpvs1 dv
      obtain ⟨p, us, rfl, h1, h2⟩ := dx.list sb
      exact main p us _ (.inl h1) h2 hq
    · obtain ⟨v, rfl, dx⟩ := dpvs1 dv
      obtain ⟨p, us, rfl, h1, h2⟩ := dx.tuple sb
      exact main p us _ (.inr h1) h2 hq
    · exact hq.elim
end
end Dl

namespace Dl
open PySem PySem.Spec PyProof.Rows L2
/-! ### sets of things that carry their value, with what a walk through them asks -/
section
variable {P : Program} {w : World} {A : Around} {E : Value → Shared → Prop} {s : Shared} {κ : Type} [DecidableEq κ]
structure SSet (knd : PySem.KeyKind P w κ) (h : Heap) (a : Addr) (ks : List κ) (es : Array (Int × Value)) (ep : Nat) (t : SetTable) : Prop where
  ob : ∃ o, h.get? a = some o ∧ o.ExactSet ∧ o.data = .set es ep t
  el : ∀ e ∈ es.toList, ∃ k, knd.is k e.2 = true ∧ e.1 = knd.hash k ∧ e.2.scannable = true ∧ k ∈ ks
  has : ∀ k ∈ ks, ∃ e ∈ es.toList, knd.is k e.2 = true
  sz : es.size = ks.length
  fits : t.fits es.size = true
  ris : Ris t.place.toList
  led : w.params.followText "set-order" = true ∨ t.led = true
  few : es.size < scanBound
variable {knd : PySem.KeyKind P w κ} {a : Addr} {ks : List κ} {es : Array (Int × Value)} {ep : Nat} {t : SetTable}
theorem SSet.elems {h : Heap} (R : SSet knd h a ks es ep t) : ElemsOf knd es.toList := fun e he => by
  obtain ⟨k, h1, h2, h3, _⟩ := R.el e he
  exact ⟨⟨k, h1, h2⟩, h3⟩
theorem SSet.keep {h h' : Heap} (R : SSet knd h a ks es ep t) (ha : ∀ o, h.get? a = some o → h'.get? a = some o) : SSet knd h' a ks es ep t := by
  obtain ⟨o, ho, r⟩ := R.ob
  exact ⟨⟨o, ha o ho, r⟩, R.el, R.has, R.sz, R.fits, R.ris, R.led, R.few⟩
theorem sset_fresh {h : Heap} {led : Bool} (hled : led = (!w.params.followText "set-order")) (ho : h.get? a = some (set0 led)) : SSet knd h a [] #[] 0 (.fresh 0 0 led) := by
  refine ⟨⟨_, ho, ⟨rfl, rfl, rfl⟩, rfl⟩, fun e he => (by simp at he), fun k hk => (by cases hk), rfl, rfl, List.Pairwise.nil, ?_, by unfold scanBound; decide⟩
  show _ ∨ led = true
  rw [hled]
  cases w.params.followText "set-order" <;> simp
theorem SSet.put {o : Obj} (ho : s.heap.get? a = some o) (hex : o.ExactSet) (hd : o.data = .set es ep t) {es1 : Array (Int × Value)} {t1 : SetTable} (el : ∀ e ∈ es1.toList, ∃ k, knd.is k e.2 = true ∧ e.1 = knd.hash k ∧ e.2.scannable = true ∧ k ∈ ks) (has : ∀ k ∈ ks, ∃ e ∈ es1.toList, knd.is k e.2 = true)
    (sz : es1.size = ks.length) (fits : t1.fits es1.size = true) (ris : Ris t1.place.toList) (led : w.params.followText "set-order" = true ∨ t1.led = true) (few : es1.size < scanBound) : SSet knd (s.heap.update a (Obj.putSet es1 t1)) a ks es1 (ep + 1) t1 :=
  ⟨⟨_, store_at ho hd, ⟨hex.1, hex.2.1, hex.2.2⟩, rfl⟩, el, has, sz, fits, ris, led, few⟩
theorem SSet.add (R : SSet knd s.heap a ks es ep t) {x : Value} {k : κ} (hx : knd.is k x = true) (hs : x.scannable = true) (room : ks.length + 1 < scanBound) {Q : Bool → Shared → Prop}
    (hQ : ∀ b h' es' ep' t', Heap.SameBut a s.heap h' → SSet knd h' a (if k ∈ ks then ks else ks ++ [k]) es' ep' t' → Q b { s with heap := h' }) : wpAny (model P w) A (setAddHashed a x (knd.hash k)) Q E s := by
  obtain ⟨o, ho, hex, hd⟩ := R.ob
  have sz := R.sz
  unfold setAddHashed setAddHashedIn
  refine wpAny_holding (wpAny_bind (wpAny_setState_of ho hd R.fits ?_))
  dsimp only
  rw [byScan_of hs R.few R.elems]
  simp only [↓reduceIte]
  unfold setAddByScan
  refine wpAny_bind (wpAny_bind (wpAny_rule (wpAny_bind (wpAny_setScan_of hx ho hd R.fits R.elems ?_))))
  cases look : List.findIdx? (fun e => knd.is k e.2) es.toList with
  | some j =>
    obtain ⟨hj, pj, _⟩ := List.findIdx?_eq_some_iff_getElem.mp look
    obtain ⟨k', h1, _, _, h4⟩ := R.el _ (List.getElem_mem hj)
    have e : k = k' := of_decide_eq_true ((KeyKind.is_eq_decide h1 k).symm.trans pj)
    dsimp only
    exact wpAny_pure (wpAny_pure (hQ false s.heap es ep t (Heap.SameBut.refl a s.heap) (by rw [if_pos (e ▸ h4)]; exact R)))
  | none =>
    have m : k ∉ ks := fun z => by
      obtain ⟨e, he, q⟩ := R.has k z
      have c := List.findIdx?_eq_none_iff.mp look e he
      rw [q] at c
      cases c
    dsimp only
    have pm := layNew_perm t es (knd.hash k) x
    have f1 := layNew_fits t es (knd.hash k) x
    have r1 := layNew_ris t es (knd.hash k) x R.ris
    have l1 := layNew_led t es (knd.hash k) x
    generalize layNew t es (knd.hash k) x = Z at pm f1 r1 l1 ⊢
    obtain ⟨es1, t1, wasD, gave⟩ := Z
    dsimp only at pm f1 r1 l1 ⊢
    rw [Array.toList_push] at pm
    have led1 : w.params.followText "set-order" = true ∨ t1.led = true := by rw [l1]; exact R.led
    have el1 : ∀ e ∈ es1.toList, ∃ k', knd.is k' e.2 = true ∧ e.1 = knd.hash k' ∧ e.2.scannable = true ∧ k' ∈ ks ++ [k] := fun e he => by
      rcases List.mem_append.mp (pm.mem_iff.mp he) with z | z
      · obtain ⟨k', a1, a2, a3, a4⟩ := R.el e z
        exact ⟨k', a1, a2, a3, List.mem_append_left _ a4⟩
      · obtain rfl := List.mem_singleton.mp z
        exact ⟨k, hx, rfl, hs, by simp⟩
    have has1 : ∀ k' ∈ ks ++ [k], ∃ e ∈ es1.toList, knd.is k' e.2 = true := fun k' hk' => by
      rcases List.mem_append.mp hk' with z | z
      · obtain ⟨e, a1, a2⟩ := R.has k' z
        exact ⟨e, pm.mem_iff.mpr (List.mem_append_left _ a1), a2⟩
      · obtain rfl := List.mem_singleton.mp z
        exact ⟨_, pm.mem_iff.mpr (List.mem_append_right _ (List.mem_singleton.mpr rfl)), hx⟩
    have sz1 : es1.size = (ks ++ [k]).length := by
      have := pm.length_eq
      rw [Array.length_toList, List.length_append, Array.length_toList, sz] at this
      rw [this, List.length_append]
      rfl
    have few1 : es1.size < scanBound := by rw [sz1, List.length_append]; exact room
    have quiet : ∀ (b : Bool) {s₁ : Shared} {Q' : Unit → Shared → Prop}, Q' () s₁ → wpAny (model P w) A (match b with | true => rule "set.scan.the-table-gave-way" | false => pure ()) Q' E s₁ := fun b s₁ Q' q => by
      cases b
      · exact wpAny_pure q
      · exact wpAny_rule q
    have fin : ∀ (h' : Heap) (es' : Array (Int × Value)) (ep' : Nat) (t' : SetTable), Heap.SameBut a s.heap h' → SSet knd h' a (ks ++ [k]) es' ep' t' → Q true { s with heap := h' } := fun h' es' ep' t' sb S => hQ true h' es' ep' t' sb (by rw [if_neg m]; exact S)
    have tail : ∀ t2 : SetTable, t2.fits es1.size = true → Ris t2.place.toList → (w.params.followText "set-order" = true ∨ t2.led = true) → ∀ (g : Bool → Sem Unit), (∀ (b : Bool) (s₁ : Shared) (Q' : Unit → Shared → Prop), Q' () s₁ → wpAny (model P w) A (g b) Q' E s₁) →
        wpAny (model P w) A (storeSet a es1 t2 >>= fun _ => if (!wasD && t2.tooFull) = true then (g (relayAll t2 es1 (SetTable.grown es1.size)).2.2 >>= fun _ => storeSet a (relayAll t2 es1 (SetTable.grown es1.size)).1 (relayAll t2 es1 (SetTable.grown es1.size)).2.1 >>= fun _ => pure (some true)) else pure (some true))
          (fun r s' => wpAny (model P w) A (match r with | some added => pure added | none => setAddHashedIn a x (knd.hash k) 99999) Q E s') E s := fun t2 f2 r2 l2 g hg => by
      refine wpAny_bind (wpAny_storeSet_of ho hd ?_ (fits_of_scanBound few1))
      have S1 : SSet knd (s.heap.update a (Obj.putSet es1 t2)) a (ks ++ [k]) es1 (ep + 1) t2 := SSet.put ho hex hd el1 has1 sz1 f2 r2 l2 few1
      have sb1 := Heap.SameBut.update s.heap a (Obj.putSet es1 t2)
      split
      · have pm2 := relayAll_perm t2 es1 (SetTable.grown es1.size)
        have f3 := relayAll_fits t2 es1 (SetTable.grown es1.size)
        have r3 := relayAll_ris t2 es1 (SetTable.grown es1.size)
        have l3 := relayAll_led t2 es1 (SetTable.grown es1.size)
        generalize relayAll t2 es1 (SetTable.grown es1.size) = Y at pm2 f3 r3 l3 ⊢
        obtain ⟨es2, t3, gv⟩ := Y
        dsimp only at pm2 f3 r3 l3 ⊢
        have z2 : es2.size = es1.size := by
          have := pm2.length_eq
          rwa [Array.length_toList, Array.length_toList] at this
        obtain ⟨o1, ho1, hex1, hd1⟩ := S1.ob
        refine wpAny_bind (hg _ _ _ (wpAny_bind (wpAny_storeSet_of ho1 hd1 ?_ (fits_of_scanBound (by rw [z2]; exact few1)))))
        refine wpAny_pure (wpAny_pure (fin _ es2 _ t3 (sb1.trans (Heap.SameBut.update _ a _)) (SSet.put (s := { s with heap := s.heap.update a (Obj.putSet es1 t2) }) ho1 hex1 hd1 (fun e he => el1 e (pm2.mem_iff.mp he)) (fun k' hk' => ?_) (by rw [z2]; exact sz1) f3 r3 (by rw [l3]; exact l2) (by rw [z2]; exact few1))))
        obtain ⟨e, a1, a2⟩ := has1 k' hk'
        exact ⟨e, pm2.mem_iff.mpr a1, a2⟩
      · exact wpAny_pure (wpAny_pure (fin _ es1 _ t2 sb1 S1))
    refine wpAny_bind (quiet _ ?_)
    split
    · refine wpAny_bind ?_
      rw [hashByValue_scannable 8 hs]
      refine wpAny_pure ?_
      cases plainKind x
      · exact tail { t1 with plain := false } (SetTable.fits_plain_off f1) r1 led1 _ fun b s₁ Q' q => quiet b q
      · exact tail t1 f1 r1 led1 _ fun b s₁ Q' q => quiet b q
    · exact wpAny_bind (wpAny_pure (tail t1 f1 r1 led1 _ fun b s₁ Q' q => quiet b q))
end
section
variable {P : Program} {w : World} {A : Around} {E : Value → Shared → Prop} {s : Shared} {κ : Type} [DecidableEq κ] {knd : PySem.KeyKind P w κ}
theorem fill_scan {R : Result → Shared → Prop} {I : Addr} {fp wr : List Addr} {Gn : Array GenState → Array GenState → Prop} {n : Nat} {Pv : Nat → Value → Prop} {St : Nat → Shared → Prop} (W : WalksS P w A.in1 I fp wr Gn n Pv St) (S : Addr) (ns : S ∉ fp) (nb : n + 1 < scanBound)
    (val : Nat → κ) (hv : ∀ i v, Pv i v → knd.is (val i) v = true ∧ v.scannable = true) : ∀ (k i : Nat) (s : Shared), n - i = k → i ≤ n → St i s →
      (∃ es ep t, SSet knd s.heap S (metK val i) es ep t) → (∀ s' es ep t, Moved (S :: wr) Gn s s' → SSet knd s'.heap S (metK val n) es ep t → R (.ok (.ret .none)) s') → codeAny (model P w) A (.builtin "set.update.loop" ⟨[.ref S, .ref I], []⟩) R s := by
  have nw : S ∉ wr := fun q => ns (W.sub _ q)
  have sub : ∀ b ∈ wr, b ∈ S :: wr := fun b q => List.mem_cons_of_mem _ q
  intro k
  induction k with
  | zero =>
    intro i s ek hi st ⟨es, ep, t, hS⟩ hR
    obtain rfl : i = n := by omega
    refine codeAny_builtin F.entry_set_update_loop ?_
    rw [Around.under_plainId F.plain_set_update_loop _]
    show wpAny _ A.in1 (pyNext (.ref I) >>= _) _ _ s
    refine wpAny_bind (W.done s _ _ st fun u hm => ?_)
    show wpAny _ A.in1 (ret Value.none) _ _ u
    exact wpAny_pure (hR u es ep t (hm.mono sub) (hS.keep fun o e => hm.heap S o nw e))
  | succ k ih =>
    intro i s ek hi st ⟨es, ep, t, hS⟩ hR
    have lt : i < n := by omega
    refine codeAny_builtin F.entry_set_update_loop ?_
    rw [Around.under_plainId F.plain_set_update_loop _]
    show wpAny _ A.in1 (pyNext (.ref I) >>= _) _ _ s
    refine wpAny_bind (W.item i s _ _ lt st fun v u hP st2 hm => ?_)
    obtain ⟨v1, v2⟩ := hv i v hP
    show wpAny _ A.in1 (holding [v] (setAdd S v) >>= _) _ _ u
    refine wpAny_bind (wpAny_holding ?_)
    unfold setAdd
    refine wpAny_holding (wpAny_bind (knd.pyHash v1 ?_))
    have := metK_le val i
    refine (hS.keep fun o e => hm.heap S o nw e : SSet knd u.heap S (metK val i) es ep t).add (s := { u with toks := u.toks + 1 }) v1 v2 (by omega) fun bb h' es' ep' t' sb hS3 => ?_
    refine wpAny_pure ⟨plainId_quiet F.plain_set_update_loop _, ih (i + 1) _ (by omega) lt (W.frame _ u _ _ st2 (Nat.le_succ _) fun c q o e => ?_) ⟨es', ep', t', hS3⟩ fun s' es2 ep2 t2 hm2 hS4 => ?_⟩
    · rw [sb.2 c (fun z : c = S => ns (z ▸ q))]; exact e
    · refine hR s' es2 ep2 t2 (Moved.trans W.gtrans ((hm.mono sub).then_heap (Nat.le_succ _) fun c o q e => ?_) hm2) hS4
      rw [sb.2 c (fun z : c = S => q (z ▸ List.mem_cons_self))]; exact e
variable {l : Addr} {its : Array Value} {val : Nat → κ} {Q : Value → Shared → Prop}
theorem mkscan (hh : A.handled = none) (hl : s.heap.IsList l its) (hv : ∀ i v, its[i]? = some v → knd.is (val i) v = true ∧ v.scannable = true) (nb : its.size + 1 < scanBound)
    (q : ∀ (h' : Heap) (tk : Nat), (∃ es ep t, SSet knd h' s.heap.objs.size (metK val its.size) es ep t) → (∀ b o, b < s.heap.objs.size → s.heap.get? b = some o → h'.get? b = some o) → Q (.ref s.heap.objs.size) { s with heap := h', toks := tk }) :
    wpAny (model P w) A (call (.type "set") [.ref l]) Q E s := by
  obtain ⟨o, ho, hc, n, hd⟩ := hl
  refine set_new (Post := fun h' => (∃ es ep t, SSet knd h' s.heap.objs.size (metK val its.size) es ep t) ∧ ∀ b o, b < s.heap.objs.size → s.heap.get? b = some o → h'.get? b = some o) ho hc F.sub_list_set F.sub_list_frozenset (by decide) (fun led hled => ?_) fun h' tk z => q h' tk z.1 z.2
  have hl1 : (s.heap.push (set0 led)).IsList l its := ⟨o, Heap.get?_push_of_some _ ho, hc, n, hd⟩
  obtain ⟨a1, a2⟩ := away (led := led) (Heap.lt_size ho)
  exact wpAny_pyIter_list hl1 (fill_scan ((Walks.list (A := A.in1.in1.in1) (by simp [hh]) _ l a1 its).toS) s.heap.objs.size a2 nb val hv (its.size - 0) 0 _ (by omega) (Nat.zero_le _) ⟨⟨_, Heap.get?_push_size _ rfl, rfl, rfl⟩, hl1.push _⟩
    ⟨_, _, _, sset_fresh hled (Heap.get?_push_of_some _ (Heap.get?_push_size _ rfl))⟩ fun s' es ep t hm hS => ⟨rfl, moved_end hm fun k => ⟨⟨es, ep, t, hS⟩, k⟩⟩)
theorem mkscanT (hh : A.handled = none) (hl : s.heap.IsTuple l its) (hv : ∀ i v, its[i]? = some v → knd.is (val i) v = true ∧ v.scannable = true) (nb : its.size + 1 < scanBound)
    (q : ∀ (h' : Heap) (tk : Nat), (∃ es ep t, SSet knd h' s.heap.objs.size (metK val its.size) es ep t) → (∀ b o, b < s.heap.objs.size → s.heap.get? b = some o → h'.get? b = some o) → Q (.ref s.heap.objs.size) { s with heap := h', toks := tk }) :
    wpAny (model P w) A (call (.type "set") [.ref l]) Q E s := by
  obtain ⟨o, ho, hc, n, hd⟩ := hl
  refine set_new (Post := fun h' => (∃ es ep t, SSet knd h' s.heap.objs.size (metK val its.size) es ep t) ∧ ∀ b o, b < s.heap.objs.size → s.heap.get? b = some o → h'.get? b = some o) ho hc F.sub_tuple_set F.sub_tuple_frozenset (by decide) (fun led hled => ?_) fun h' tk z => q h' tk z.1 z.2
  have hl1 : (s.heap.push (set0 led)).IsTuple l its := ⟨o, Heap.get?_push_of_some _ ho, hc, n, hd⟩
  obtain ⟨a1, a2⟩ := away (led := led) (Heap.lt_size ho)
  exact wpAny_pyIter_tuple hl1 (fill_scan ((Walks.tuple (A := A.in1.in1.in1) (by simp [hh]) _ l a1 its).toS) s.heap.objs.size a2 nb val hv (its.size - 0) 0 _ (by omega) (Nat.zero_le _) ⟨⟨_, Heap.get?_push_size _ rfl, rfl, rfl⟩, hl1.push _⟩
    ⟨_, _, _, sset_fresh hled (Heap.get?_push_of_some _ (Heap.get?_push_size _ rfl))⟩ fun s' es ep t hm hS => ⟨rfl, moved_end hm fun k => ⟨⟨es, ep, t, hS⟩, k⟩⟩)
end
/-! ### what a set holds, in the order of its table -/
theorem nodup_perm {α : Type} [DecidableEq α] : ∀ {ks ps : List α}, ks.Nodup → (∀ k ∈ ks, k ∈ ps) → ps.length ≤ ks.length → ps.Perm ks
  | [], ps, _, _, hl => by
    rw [List.length_nil] at hl
    rw [List.eq_nil_of_length_eq_zero (Nat.le_zero.mp hl)]
  | k :: ks, ps, nd, hs, hl => by
    obtain ⟨n1, n2⟩ := List.nodup_cons.mp nd
    have hk := hs k List.mem_cons_self
    have pm := List.perm_cons_erase hk
    refine pm.trans (List.Perm.cons k (nodup_perm n2 (fun x hx => (List.mem_erase_of_ne (fun e : x = k => n1 (by rw [← e]; exact hx))).mpr (hs x (List.mem_cons_of_mem _ hx))) ?_))
    have := pm.length_eq
    rw [List.length_cons] at this hl
    omega
open PySem.W in
theorem each_some {α β : Type} {R : α → β → Prop} : ∀ {us : List α} {ks : List β}, (∀ u ∈ us, ∃ k, k ∈ ks ∧ R u k) → ∃ ps, EachIs R us ps ∧ ∀ p ∈ ps, p ∈ ks
  | [], _, _ => ⟨[], .nil, fun _ h => (by cases h)⟩
  | u :: us, ks, h => by
    obtain ⟨k, h1, h2⟩ := h u List.mem_cons_self
    obtain ⟨ps, e, hs⟩ := each_some (us := us) (ks := ks) fun v hv => h v (List.mem_cons_of_mem _ hv)
    refine ⟨k :: ps, .cons h2 e, fun p hp => ?_⟩
    rcases List.mem_cons.mp hp with rfl | q
    · exact h1
    · exact hs p q
open PySem.W in
theorem each_all {α β : Type} [DecidableEq β] {R : α → β → Prop} (fn : ∀ {u k k'}, R u k → R u k' → k = k') {us : List α} {ks : List β} (nd : ks.Nodup) (el : ∀ u ∈ us, ∃ k, k ∈ ks ∧ R u k) (has : ∀ k ∈ ks, ∃ u ∈ us, R u k) (sz : us.length = ks.length) : ∃ ps, EachIs R us ps ∧ ps.Perm ks := by
  obtain ⟨ps, e, hs⟩ := each_some el
  refine ⟨ps, e, nodup_perm nd (fun k hk => ?_) (by rw [← e.length, sz]; exact Nat.le_refl _)⟩
  obtain ⟨u, hu, r⟩ := has k hk
  obtain ⟨k', h1, h2⟩ := e.left u hu
  rw [fn r h2]
  exact h1
open PySem.W in
theorem each_perm {α β : Type} {R : α → β → Prop} : ∀ {us vs : List α}, us.Perm vs → ∀ {ps : List β}, EachIs R us ps → ∃ qs, EachIs R vs qs ∧ qs.Perm ps := by
  intro us vs pm
  induction pm with
  | nil => intro ps e; exact ⟨ps, e, List.Perm.refl _⟩
  | cons x _ ih =>
    intro ps e
    cases e with
    | cons r e =>
      obtain ⟨qs, h1, h2⟩ := ih e
      exact ⟨_ :: qs, .cons r h1, h2.cons _⟩
  | swap x y l =>
    intro ps e
    cases e with
    | cons r e => cases e with
      | cons r' e => exact ⟨_ :: _ :: _, .cons r' (.cons r e), List.Perm.swap _ _ _⟩
  | trans _ _ ih1 ih2 =>
    intro ps e
    obtain ⟨qs, h1, h2⟩ := ih1 e
    obtain ⟨rs, h3, h4⟩ := ih2 h1
    exact ⟨rs, h3, h4.trans h2⟩
open PySem.W in
theorem each_both {α β : Type} {R R' : α → β → Prop} : ∀ {us : List α} {ps : List β}, EachIs R us ps → EachIs R' us ps → EachIs (fun u p => R u p ∧ R' u p) us ps
  | _, _, .nil, _ => .nil
  | _, _, .cons r e, .cons r' e' => .cons ⟨r, r'⟩ (each_both e e')
/-- the set at a holds the values us -/
noncomputable def SetVals (w : World) (h : Heap) (a : Addr) (us : List Value) : Prop := ∃ o es ep t, h.get? a = some o ∧ o.ExactSet ∧ o.data = .set es ep t ∧ t.fits es.size = true ∧ Ris t.place.toList ∧ (w.params.followText "set-order" = true ∨ t.led = true) ∧ es.size < 4000 ∧ es.toList.map (·.2) = us
section
open PySem.W
variable {P : Program} {w : World} {A : Around} {E : Value → Shared → Prop} {s : Shared} {κ : Type} [DecidableEq κ] {knd : PySem.KeyKind P w κ} {a : Addr} {es : Array (Int × Value)} {ep : Nat} {t : SetTable}
theorem SSet.vals {h : Heap} {ks : List κ} (R : SSet knd h a ks es ep t) (nd : ks.Nodup) (few : ks.length < 4000) : ∃ us ps, SetVals w h a us ∧ EachIs (fun u k => knd.is k u = true) us ps ∧ ps.Perm ks := by
  obtain ⟨o, ho, r1, r2⟩ := R.ob
  obtain ⟨ps, h1, h2⟩ := each_all (R := fun u k => knd.is k u = true) (us := es.toList.map (·.2)) (ks := ks) (fun {u k k'} a b => of_decide_eq_true ((KeyKind.is_eq_decide b k).symm.trans a)) nd (fun u hu => by
    obtain ⟨e, he, rfl⟩ := List.mem_map.mp hu
    obtain ⟨k, a1, _, _, a4⟩ := R.el e he
    exact ⟨k, a4, a1⟩) (fun k hk => by
    obtain ⟨e, he, q⟩ := R.has k hk
    exact ⟨e.2, List.mem_map.mpr ⟨e, he, rfl⟩, q⟩) (by rw [List.length_map, Array.length_toList, R.sz])
  exact ⟨_, ps, ⟨o, es, ep, t, ho, r1, r2, R.fits, R.ris, R.led, by rw [R.sz]; exact few, rfl⟩, h1, h2⟩
theorem TSet.vals {M : NestedKey → Addr → Prop} {h : Heap} {ks : List NestedKey} (R : TSet P w M h a ks es ep t) (fn : ∀ {k k' b}, M k b → M k' b → k = k') (nd : ks.Nodup) : ∃ us ps, SetVals w h a us ∧ EachIs (fun u k => ∃ b, u = .ref b ∧ M k b) us ps ∧ ps.Perm ks := by
  obtain ⟨o, ho, r1, r2⟩ := R.ob
  obtain ⟨ps, h1, h2⟩ := each_all (R := fun u k => ∃ b, u = .ref b ∧ M k b) (us := es.toList.map (·.2)) (ks := ks) (fun {u k k'} ⟨b, e1, m1⟩ ⟨b', e2, m2⟩ => by
    rw [e1] at e2
    injection e2 with e2
    subst e2
    exact fn m1 m2) nd (fun u hu => by
    obtain ⟨e, he, rfl⟩ := List.mem_map.mp hu
    obtain ⟨k, b, rfl, a2, a3⟩ := R.el e he
    exact ⟨k, a3, b, rfl, a2⟩) (fun k hk => by
    obtain ⟨b, he, q⟩ := R.has k hk
    exact ⟨.ref b, List.mem_map.mpr ⟨_, he, rfl⟩, b, rfl, q⟩) (by rw [List.length_map, Array.length_toList, R.sz])
  have pl : t.place.size = es.size := by
    have := R.tab.sz
    rwa [List.length_map, Array.length_toList] at this
  exact ⟨_, ps, ⟨o, es, ep, t, ho, r1, r2, tab_fits R.tab.dm pl (by have := R.room; omega), R.tab.ris, R.led, by have := R.few; omega, rfl⟩, h1, h2⟩
/-- sorted(a set) -/
theorem sorted_setV {us : List Value} {Q : Value → Shared → Prop} {β : Type} {R : Value → β → Prop} {enc : β → PyData} {bs : List β} (S : SetVals w s.heap a us) (hh : A.handled = none) (e : EachIs R us bs) (er : EachIs (fun v b => Reads s.heap v (enc b) []) us bs)
    (hal : AllAlike (bs.map enc)) (hk : PySem.W.Sortable (bs.map enc)) (hu : ∀ b ∈ bs, A.units + 2 + (enc b).depth < cLine)
    (q : ∀ (s' : Shared) (p : Addr) (out : List Value) (c : Nat) (ps : List β), ps.Perm bs → EachIs R out (ps.mergeSort (dataLe false enc)) → (∀ b o, s.heap.get? b = some o → s'.heap.get? b = some o) → s'.gens = s.gens → s'.os = s.os → s.heap.objs.size ≤ p →
      s'.heap.get? p = some (seqObj "list" out.toArray c) → Q (.ref p) s') : wpAny (model P w) A (call (.builtin "sorted") [.ref a]) Q E s := by
  obtain ⟨o, es, ep, t, ho, hex, hd, fits, ris, led, few, rfl⟩ := S
  have lb : bs.length < 4000 := by rw [← e.length, List.length_map, Array.length_toList]; exact few
  refine Calls.call_function_entry kind_sorted plain_sorted entry_sorted (args_sorted1 _) ?_
  unfold Builtin.«sorted»
  refine wpAny_bind (m := checkCount "sorted" 1 1 _) (wpAny_pure ?_)
  refine wpAny_bind (collect_set (A := A.in1) hh ⟨o, ho, hex.1, hd⟩ fits (by unfold scanBound; omega) ris led fun s1 vs k1 hz g1 o1 pm => ?_)
  have lv : vs.length ≤ sizeLine := by rw [pm.length_eq, List.length_map, Array.length_toList, sizeLine_eq]; omega
  obtain ⟨ps, e1, p1⟩ := each_perm pm.symm (each_both e er)
  have mem : ∀ d, d ∈ ps.map enc → d ∈ bs.map enc := fun d hd => (p1.map enc).mem_iff.mp hd
  have hk' : PySem.W.Sortable (ps.map enc) := by
    rcases hk with h | h
    · exact .inl fun d hd => h d (mem d hd)
    · exact .inr fun d hd => h d (mem d hd)
  refine wpAny_bind (wpAny_newList ?_ (by simpa using lv))
  have hoL : (s1.heap.push (seqObj "list" vs.toArray 0)).get? s1.heap.objs.size = some (seqObj "list" vs.toArray 0) := Heap.get?_push_size _ rfl
  refine wpAny_bind (wpAny_holding (list_sort_data (R := R) (bs := ps) (enc := enc) (s := { s1 with heap := s1.heap.push (seqObj "list" vs.toArray 0) }) hoL (e1.mono fun _ _ x => x.1) (e1.mono fun _ _ x => ⟨[], PyProof.Rows.Reads.keeps (fun b o q => Heap.get?_push_of_some _ (k1 b o q)) x.2, by simp⟩) (fun d hd d' hd' => hal d (mem d hd) d' (mem d' hd')) hk'
    (by rw [← e1.length]; exact lv) (fun b hb => hu b (p1.mem_iff.mp hb)) fun out lo eo => ?_))
  obtain ⟨c, hc⟩ := sortedHeap_at (vs := vs) (out := out.toArray) hoL
  refine wpAny_pure ⟨_, rfl, q _ s1.heap.objs.size out c ps p1 eo (fun b u z => ?_) g1 o1 hz hc⟩
  have z1 := k1 b u z
  have hlt := Heap.lt_size z1
  show (sortedHeap (s1.heap.push (seqObj "list" vs.toArray 0)) s1.heap.objs.size vs out.toArray).get? b = some u
  rw [sortedHeap_old (Nat.ne_of_lt hlt) (by rw [size_push']; exact Nat.lt_succ_of_lt hlt)]
  exact Heap.get?_push_of_some _ z1
end
/-! ### the order of cells -/
section
open PySem.W
noncomputable def sortD (ds : List PyData) : List PyData := ds.mergeSort (dataLe false id)
theorem all_same {α : Type} : ∀ {l m : List α}, l.Perm m → (∀ x ∈ l, ∀ y ∈ l, x = y) → l = m
  | [], m, pm, _ => (List.nil_perm.mp pm).symm ▸ rfl
  | x :: l, [], pm, _ => by have := pm.length_eq; simp at this
  | x :: l, y :: m, pm, h => by
    have e : x = y := h x List.mem_cons_self y (pm.mem_iff.mpr List.mem_cons_self)
    subst e
    rw [all_same (List.perm_cons x |>.mp pm) fun a ha b hb => h a (List.mem_cons_of_mem _ ha) b (List.mem_cons_of_mem _ hb)]
theorem sort_perm {α : Type} {le : α → α → Bool} (T : TotalLe le) {l m : List α} (pm : m.Perm l) (anti : ∀ x ∈ l, ∀ y ∈ l, le x y = true → le y x = true → x = y) : m.mergeSort le = l.mergeSort le := by
  refine sort_one T _ _ (sort_pairwise T m) (sort_pairwise T l) fun c => ?_
  rw [sort_stable T, sort_stable T]
  refine all_same (pm.filter _) fun x hx y hy => ?_
  obtain ⟨x1, x2⟩ := List.mem_filter.mp hx
  obtain ⟨y1, y2⟩ := List.mem_filter.mp hy
  unfold sameRank at x2 y2
  rw [Bool.and_eq_true] at x2 y2
  exact anti x (pm.mem_iff.mp x1) y (pm.mem_iff.mp y1) (T.trans _ _ _ x2.2 y2.1) (T.trans _ _ _ y2.2 x2.1)
/-- cells of one kind: texts, numbers, pairs of both -/
noncomputable def OneKind (ds : List PyData) : Prop := (∃ ks : List Str, ds = ks.map PyData.str) ∨ (∃ ks : List Int, ds = ks.map PyData.int) ∨ ∃ ks : List (Int × Str), ds = ks.map cpd
theorem OneKind.perm {ds ps : List PyData} (h : OneKind ds) (pm : ps.Perm ds) : OneKind ps := by
  have back : ∀ {α : Type} (f : α → PyData) (ks : List α), ds = ks.map f → ∃ ks' : List α, ps = ks'.map f := fun {α} f ks e => by
    have : ∀ p ∈ ps, ∃ k, p = f k := fun p hp => by
      obtain ⟨k, _, q⟩ := List.mem_map.mp (e ▸ pm.mem_iff.mp hp)
      exact ⟨k, q.symm⟩
    clear pm h
    induction ps with
    | nil => exact ⟨[], rfl⟩
    | cons p ps ih =>
      obtain ⟨k, rfl⟩ := this p List.mem_cons_self
      obtain ⟨ks', rfl⟩ := ih fun q hq => this q (List.mem_cons_of_mem _ hq)
      exact ⟨k :: ks', rfl⟩
  rcases h with ⟨ks, e⟩ | ⟨ks, e⟩ | ⟨ks, e⟩
  · exact .inl (back _ ks e)
  · exact .inr (.inl (back _ ks e))
  · exact .inr (.inr (back _ ks e))
theorem OneKind.alike {ds : List PyData} (h : OneKind ds) : AllAlike (ds.map id) := by
  rw [List.map_id]
  rcases h with ⟨ks, rfl⟩ | ⟨ks, rfl⟩ | ⟨ks, rfl⟩
  · exact AllAlike.of fun _ _ => rfl
  · exact AllAlike.of fun _ _ => rfl
  · exact AllAlike.of fun _ _ => by simp [PySem.W.alike, alikeAll]
theorem OneKind.sortable {ds : List PyData} (h : OneKind ds) : PySem.W.Sortable (ds.map id) := by
  rw [List.map_id]
  rcases h with ⟨ks, rfl⟩ | ⟨ks, rfl⟩ | ⟨ks, rfl⟩
  · exact Sortable.others fun _ => ⟨by simp, by simp⟩
  · exact Sortable.others fun _ => ⟨by simp, by simp⟩
  · exact Sortable.tuples fun _ => ⟨_, _, rfl⟩
theorem OneKind.depth {ds : List PyData} (h : OneKind ds) : ∀ d ∈ ds, d.depth ≤ 1 := fun d hd => by
  rcases h with ⟨ks, rfl⟩ | ⟨ks, rfl⟩ | ⟨ks, rfl⟩
  all_goals
    obtain ⟨k, _, rfl⟩ := List.mem_map.mp hd
    simp [PyData.depth, PyData.depthAll]
theorem str_anti {x y : Str} (h1 : dataLt (.str x) (.str y) = false) (h2 : dataLt (.str y) (.str x) = false) : x = y := by
  rw [dataLt_str] at h1 h2
  have a := List.not_lt.mp (of_decide_eq_false h1)
  have b := List.not_lt.mp (of_decide_eq_false h2)
  have e := List.le_antisymm b a
  obtain ⟨⟨x⟩⟩ := x
  obtain ⟨⟨y⟩⟩ := y
  simp at e
  rw [e]
theorem OneKind.anti {ds : List PyData} (h : OneKind ds) : ∀ x ∈ ds, ∀ y ∈ ds, dataLe false id x y = true → dataLe false id y x = true → x = y := fun x hx y hy a b => by
  have a : dataLt y x = false := by rw [dataLe_eq] at a; simpa using a
  have b : dataLt x y = false := by rw [dataLe_eq] at b; simpa using b
  rcases h with ⟨ks, rfl⟩ | ⟨ks, rfl⟩ | ⟨ks, rfl⟩
  all_goals
    obtain ⟨k, _, rfl⟩ := List.mem_map.mp hx
    obtain ⟨k', _, rfl⟩ := List.mem_map.mp hy
  · rw [str_anti b a]
  · rw [dataLt_int] at a b
    have := of_decide_eq_false a
    have := of_decide_eq_false b
    rw [show k = k' by omega]
  · rw [dataLt_pair (by rfl) (by rfl)] at a b
    rw [dataLt_int] at a b
    simp only [PyData.eqv, beq_iff_eq] at a b
    by_cases c : k.1 = k'.1
    · rw [if_pos c.symm] at a
      rw [if_pos c] at b
      by_cases d : k.2 = k'.2
      · rw [show k = k' from Prod.ext c d]
      · rw [if_neg fun z => d z.symm] at a
        rw [if_neg d] at b
        exact absurd (str_anti b a) d
    · rw [if_neg fun z => c z.symm] at a
      rw [if_neg c] at b
      have := of_decide_eq_false a
      have := of_decide_eq_false b
      omega
theorem sortD_perm {ds ps : List PyData} (h : OneKind ds) (pm : ps.Perm ds) : sortD ps = sortD ds := sort_perm (sortLe_total _ _ _) pm h.anti
end
/-! ### sorted(set(xs)) in the layer -/
section
open PySem.W
variable {X : Cx}
noncomputable def setV (w : World) (a : Addr) (us : List Value) : HO := .ext fun h => SetVals w h a us
theorem setV_ok {P : Program} {w : World} {H : Hp} {h : Heap} {a : Addr} {us : List Value} (S : SetVals w h a us) : ObjOk P w H h a (setV w a us) := by
  obtain ⟨o, es, ep, t, ho, r⟩ := S
  refine ⟨⟨o, es, ep, t, ho, r⟩, ⟨o, ho⟩, fun u1 u2 hx kp => ?_⟩
  obtain ⟨o, es, ep, t, ho, r⟩ := hx
  exact ⟨o, es, ep, t, kp o ho, r⟩
theorem metK_nd {κ : Type} [DecidableEq κ] (v : Nat → κ) : ∀ i, (metK v i).Nodup
  | 0 => List.nodup_nil
  | i + 1 => by
    unfold metK
    split
    · exact metK_nd v i
    · rename_i h
      refine List.nodup_append.mpr ⟨metK_nd v i, List.nodup_cons.mpr ⟨by simp, List.nodup_nil⟩, fun x hx y hy e => ?_⟩
      rw [List.mem_singleton.mp hy] at e
      exact h (e ▸ hx)
/-- the different ones, as they are met -/
noncomputable def metL {κ : Type} [DecidableEq κ] [Inhabited κ] (l : List κ) : List κ := metK (fun i => l.getD i default) l.length
noncomputable def DistOf (yd ds : List PyData) : Prop := (∃ ks : List Str, yd = ks.map PyData.str ∧ ds = (metL ks).map PyData.str) ∨ (∃ ks : List Int, yd = ks.map PyData.int ∧ ds = (metL ks).map PyData.int) ∨ ∃ ks : List (Int × Str), yd = ks.map cpd ∧ ds = (metL ks).map cpd
theorem DistOf.kind {yd ds : List PyData} (h : DistOf yd ds) : OneKind ds := by
  rcases h with ⟨ks, _, e⟩ | ⟨ks, _, e⟩ | ⟨ks, _, e⟩
  · exact .inl ⟨_, e⟩
  · exact .inr (.inl ⟨_, e⟩)
  · exact .inr (.inr ⟨_, e⟩)
noncomputable abbrev EachD (K : PySem.W.Frag) (B : Hp) (us : List Value) (ps : List PyData) : Prop := EachIs (fun u d => ∃ v, RelV v u ∧ Dl.Dp K B v d) us ps
theorem dp_at {α : Type} [Inhabited α] {K : PySem.W.Frag} {B : Hp} (f : α → PyData) : ∀ {ks : List α} {vs : List V} {us : List Value} {i : Nat} {u : Value}, Dl.DpAll K B vs (ks.map f) → Vals vs us → us[i]? = some u → ∃ v, RelV v u ∧ Dl.Dp K B v (f (ks.getD i default))
  | [], _, _, i, u, h, r, e => by
    cases h
    cases r
    simp at e
  | k :: ks, _, _, 0, u, h, r, e => by
    cases h with
    | cons h1 h2 => cases r with
      | cons r1 r2 =>
        cases e
        exact ⟨_, r1, h1⟩
  | k :: ks, _, _, i + 1, u, h, r, e => by
    cases h with
    | cons h1 h2 => cases r with
      | cons r1 r2 =>
        obtain ⟨v, a, b⟩ := dp_at f (i := i) h2 r2 (by simpa using e)
        exact ⟨v, a, by simpa using b⟩
theorem each_dp {K : PySem.W.Frag} {B : Hp} : ∀ {us : List Value} {ds : List PyData}, EachD K B us ds → ∃ vs, Vals vs us ∧ Dl.DpAll K B vs ds
  | _, _, .nil => ⟨[], .nil, .nil⟩
  | _, _, .cons ⟨v, r, d⟩ e => by
    obtain ⟨vs, h1, h2⟩ := each_dp e
    exact ⟨v :: vs, .cons r h1, .cons d h2⟩
noncomputable def kd : NestedKey → PyData
  | .tup [.num i, .text x] => .tuple [.int i, .str x]
  | _ => .none
noncomputable def rSetV (K : PySem.W.Frag) (w : World) : List V → Hp → VK → Prop := fun xs H Q => ∃ p ys B yd ds, xs = [.ref p] ∧ (SqL K H p ys ∨ SqT K H p ys) ∧ Same B H ∧ Dl.DpAll K B ys yd ∧ yd.length < 64 ∧ DistOf yd ds ∧ ∀ q us ps, H q = none → ps.Perm ds → EachD K B us ps → Q (.ref q) (upd H q (setV w q us))
theorem str_is {P : Program} {w : World} {k : Str} {u : Value} (h : (PySem.strKind P w).is k u = true) : ∃ t, u = .str k t := Value.isStrOf_shape h
theorem int_is {P : Program} {w : World} {k : Int} {u : Value} (h : (PySem.intKind P w).is k u = true) : ∃ t, u = .int k t := Value.isInt_shape h
theorem call_setV (hc : X.calm = true) (hu : X.A.units + 65 < cLine) : CallR X (.type "set") (rSetV X.K X.w) := by
  intro pins s σ H xs us Q I r h
  obtain ⟨p, ys, B, yd, ds, rfl, hq, sb, hd, hb, hD, q⟩ := h
  obtain ⟨u, rfl, rx⟩ := vals1 r
  cases rx
  obtain ⟨its, r', src⟩ : ∃ its, Vals ys its ∧ (s.heap.IsList p its.toArray ∨ s.heap.IsTuple p its.toArray) := by
    rcases hq with hq | hq
    · obtain ⟨its, r', pl, hz⟩ := I.list hq
      exact ⟨its, r', .inl pl.isList⟩
    · obtain ⟨its, r', pl, hz⟩ := I.tuple hq
      exact ⟨its, r', .inr (show s.heap.IsTuple p its.toArray from pl)⟩
  have el : its.toArray.size = yd.length := by rw [List.size_toArray, ← r'.length, dpLen _ _ hd]
  have nS : H s.heap.objs.size = none := I.hok.fresh (Nat.le_refl _)
  have fin : ∀ (h' : Heap) (tk : Nat) (us : List Value) (ps : List PyData), SetVals X.w h' s.heap.objs.size us → (∀ b o, b < s.heap.objs.size → s.heap.get? b = some o → h'.get? b = some o) → ps.Perm ds → EachD X.K B us ps → EP X pins σ Q (.ref s.heap.objs.size) { s with heap := h', toks := tk } :=
    fun h' tk us ps S kp pm e => ⟨.ref s.heap.objs.size, _, I.laid (fun b o e => kp b o (Heap.lt_size e) e) (Nat.le_refl _) (setV_ok S), rfl, q _ us ps nS pm e⟩
  have scan : ∀ {κ : Type} [DecidableEq κ] [Inhabited κ] (knd : PySem.KeyKind X.prog X.w κ) (f : κ → PyData) (ks : List κ), yd = ks.map f → ds = (metL ks).map f → (∀ k v u, RelV v u → Dl.Dp X.K B v (f k) → knd.is k u = true ∧ u.scannable = true) → (∀ k u, knd.is k u = true → ∃ v, RelV v u ∧ Dl.Dp X.K B v (f k)) →
      wpAny (model X.prog X.w) X.A (call (.type "set") [.ref p]) (EP X pins σ Q) X.xe s := fun {κ} _ _ knd f ks e1 e2 to back => by
    subst e1
    have hv : ∀ i v, its.toArray[i]? = some v → knd.is (ks.getD i default) v = true ∧ v.scannable = true := fun i v e => by
      obtain ⟨v', a, b⟩ := dp_at f hd r' (by rw [List.getElem?_toArray] at e; exact e)
      exact to _ _ _ a b
    rw [List.length_map] at el hb
    have done : ∀ (h' : Heap) (tk : Nat), (∃ es ep t, SSet knd h' s.heap.objs.size (metK (fun i => ks.getD i default) its.toArray.size) es ep t) → (∀ b o, b < s.heap.objs.size → s.heap.get? b = some o → h'.get? b = some o) → EP X pins σ Q (.ref s.heap.objs.size) { s with heap := h', toks := tk } := fun h' tk ⟨es, ep, t, R⟩ kp => by
      rw [el] at R
      obtain ⟨us, ps, S, e, pm⟩ := R.vals (metK_nd _ _) (by have := metK_le (fun i => ks.getD i default) ks.length; omega)
      exact fin h' tk us (ps.map f) S kp (by rw [e2]; exact pm.map f) (each_map (R := fun u d => ∃ v, RelV v u ∧ Dl.Dp X.K B v d) f (e.mono fun u k z => back k u z))
    have nb : its.toArray.size + 1 < scanBound := by rw [el]; unfold scanBound; omega
    rcases src with pl | pl
    · exact mkscan (I.ok.hd hc) pl hv nb done
    · exact mkscanT (I.ok.hd hc) pl hv nb done
  rcases hD with ⟨ks, e1, e2⟩ | ⟨ks, e1, e2⟩ | ⟨ks, rfl, rfl⟩
  · refine scan (PySem.strKind X.prog X.w) PyData.str ks e1 e2 (fun k v u rv d => ?_) fun k u z => ?_
    · cases d
      obtain ⟨t, rfl⟩ := rv
      exact ⟨strKind_is _ _ _ _, rfl⟩
    · obtain ⟨t, rfl⟩ := str_is z
      exact ⟨.str k, ⟨t, rfl⟩, .str k⟩
  · refine scan (PySem.intKind X.prog X.w) PyData.int ks e1 e2 (fun k v u rv d => ?_) fun k u z => ?_
    · cases d
      obtain ⟨t, rfl⟩ := rv
      exact ⟨intKind_is _ _ _ _, rfl⟩
    · obtain ⟨t, rfl⟩ := int_is z
      exact ⟨.int k, ⟨t, rfl⟩, .int k⟩
  · rw [List.length_map] at el hb
    have hv : ∀ i v, its.toArray[i]? = some v → ∃ b, v = .ref b ∧ ((nestedKind X.prog X.w).is s.heap (ckey (ks.getD i default)) b ∧ ∃ p, ckey (ks.getD i default) = ckey p ∧ Dl.Dp X.K B (.ref b) (cpd p)) := fun i v e => by
      obtain ⟨v', a, d⟩ := dp_at cpd hd r' (by rw [List.getElem?_toArray] at e; exact e)
      obtain ⟨b, vs, rfl, s1, s2⟩ := DpV.tuple (H := H) (show DpV X.K B H _ (.tuple [.int (ks.getD i default).1, .str (ks.getD i default).2]) from .inl d) sb
      cases a
      cases s2 with
      | cons q1 s3 => cases s3 with
        | cons q2 s4 =>
          cases s4; cases q1; cases q2
          exact ⟨b, rfl, Inv.ckey I s1, _, rfl, d⟩
    have done : ∀ (h' : Heap) (tk : Nat), (∃ es ep t, TSet X.prog X.w (fun k b => (nestedKind X.prog X.w).is s.heap k b ∧ ∃ p, k = ckey p ∧ Dl.Dp X.K B (.ref b) (cpd p)) h' s.heap.objs.size (metK (fun i => ckey (ks.getD i default)) its.toArray.size) es ep t) → (∀ b o, b < s.heap.objs.size → s.heap.get? b = some o → h'.get? b = some o) →
        EP X pins σ Q (.ref s.heap.objs.size) { s with heap := h', toks := tk } := fun h' tk ⟨es, ep, t, R⟩ kp => by
      rw [el] at R
      obtain ⟨us, ps, S, e, pm⟩ := R.vals (fun {k k' b} m1 m2 => (nestedKind X.prog X.w).inj m1.1 m2.1) (metK_nd _ _)
      rw [metK_fmap ckey fun _ _ => ckey_inj] at pm
      refine fin h' tk us (ps.map kd) S kp ?_ (each_map (R := fun u d => ∃ v, RelV v u ∧ Dl.Dp X.K B v d) kd (e.mono fun u k z => ?_))
      · have := pm.map kd
        rw [List.map_map] at this
        exact this
      · obtain ⟨b, rfl, _, p, rfl, d⟩ := z
        exact ⟨.ref b, rfl, d⟩
    rcases src with pl | pl
    · exact mkkey (I.ok.hd hc) pl (fun _ _ x => x.1) hv (by omega) (by omega) done
    · exact mkkeyT (I.ok.hd hc) pl (fun _ _ x => x.1) hv (by omega) (by omega) done
noncomputable def rSortV (K : PySem.W.Frag) (w : World) : List V → Hp → VK → Prop := fun xs H Q => ∃ a us B ps, xs = [.ref a] ∧ H a = some (setV w a us) ∧ Same B H ∧ OneKind ps ∧ EachD K B us ps ∧ ∀ z vs, H z = none → Dl.DpAll K B vs (sortD ps) → Q (.ref z) (upd H z (.lst vs))
theorem reads_one {pins : List (Addr × Obj)} {σ : L2.St} {H B : Hp} {s : Shared} (I : Inv X pins σ H s) (sb : Same B H) {ps : List PyData} (k : OneKind ps) {u : Value} {d : PyData} (hd : d ∈ ps) (h : ∃ v, RelV v u ∧ Dl.Dp X.K B v d) : Reads s.heap u d [] := by
  obtain ⟨v, r, h⟩ := h
  rcases k with ⟨ks, rfl⟩ | ⟨ks, rfl⟩ | ⟨ks, rfl⟩
  all_goals obtain ⟨k, _, rfl⟩ := List.mem_map.mp hd
  · cases h
    obtain ⟨t, rfl⟩ := r
    exact .str _ _
  · cases h
    obtain ⟨t, rfl⟩ := r
    exact .int _ _
  · obtain ⟨b, vs, rfl, s1, s2⟩ := DpV.tuple (H := H) (show DpV X.K B H _ (.tuple [.int k.1, .str k.2]) from .inl h) sb
    cases r
    obtain ⟨its, rr, ⟨o, e, hc, n, hdt⟩, _⟩ := I.tuple s1
    cases s2 with
    | cons q1 s3 => cases s3 with
      | cons q2 s4 =>
        cases s4; cases q1; cases q2
        cases rr with
        | cons r1 rr => cases rr with
          | cons r2 rr =>
            cases rr
            obtain ⟨t1, rfl⟩ := r1
            obtain ⟨t2, rfl⟩ := r2
            exact .tuple (as := []) e hc hdt (.cons (as := []) (bs := []) (.int _ _) (.cons (as := []) (bs := []) (.str _ _) .nil))
theorem call_sortV (hc : X.calm = true) (hu : X.A.units + 65 < cLine) : CallR X (.builtin "sorted") (rSortV X.K X.w) := by
  intro pins s σ H xs us0 Q I r h
  obtain ⟨a, us, B, ps, rfl, ha, sb, ok, e, q⟩ := h
  obtain ⟨u, rfl, rx⟩ := vals1 r
  cases rx
  have S : SetVals X.w s.heap a us := (show ObjOk X.prog X.w H s.heap a (setV X.w a us) from I.hok a _ ha).1
  have lim : ps.length < 4000 := by
    obtain ⟨o, es, ep, t, _, _, _, _, _, _, few, eu⟩ := S
    rw [← e.length, ← eu, List.length_map, Array.length_toList]
    exact few
  refine sorted_setV (enc := id) (R := fun u d => ∃ v, RelV v u ∧ Dl.Dp X.K B v d) S (I.ok.hd hc) e ((each_mem e).mono fun u d z => reads_one I sb ok z.2 z.1) ok.alike ok.sortable (fun d hd => by have := ok.depth d hd; show _ + 2 + d.depth < _; omega) fun s' z out c qs pm eo k g o hz hp => ?_
  rw [show qs.mergeSort (dataLe false id) = sortD ps from sortD_perm ok pm] at eo
  obtain ⟨vs, v1, v2⟩ := each_dp eo
  have hn : H z = none := I.hok.fresh hz
  have hlen : vs.length ≤ sizeLine := by
    rw [v1.length, eo.length]
    unfold sortD
    rw [List.length_mergeSort, sizeLine_eq]
    omega
  have J : Inv X pins σ (upd H z (.lst vs)) { s with heap := s'.heap, gens := s'.gens, drawn := s'.drawn, toks := s'.toks } :=
    I.call (ch := []) (Un.laid k hz hn) (I.hok.laid k hz ⟨hlen, out, c, v1, hp⟩) (by rw [g]; exact I.bare) (fun _ z => nomatch z)
  have es : s' = { s with heap := s'.heap, gens := s'.gens, drawn := s'.drawn, toks := s'.toks } := by
    cases s'
    cases o
    rfl
  rw [es]
  exact ⟨.ref z, _, J, rfl, q z vs hn v2⟩
noncomputable def wSortSet : DCall := fun xs Q => match xs with
  | [.list yd] => yd.length < 64 ∧ ∃ ds, DistOf yd ds ∧ Q (.new (sortD ds))
  | [.tuple yd] => yd.length < 64 ∧ ∃ ds, DistOf yd ds ∧ Q (.new (sortD ds))
  | _ => False
theorem le_sortset {e : Expr} {wr : DA} {p pos p2 pos2 : Pos} (hc : X.calm = true) (hu : X.A.units + 65 < cLine) (hg : Gl X "sorted") (hm : X.mg "sorted" = none) (hg2 : Gl X "set") (hm2 : X.mg "set" = none) (ha : LA X [e] wr)
    (hs : starEach [e] X.env = (false, eval e X.env) :: starEach [] X.env := by rfl) (hs2 : starEach [.Call (.Name "set" p2) [e] [] pos2] X.env = (false, eval (.Call (.Name "set" p2) [e] [] pos2) X.env) :: starEach [] X.env := by rfl) :
    LE X (.Call (.Name "sorted" p) [.Call (.Name "set" p2) [e] [] pos2] [] pos) (dCB wSortSet wr) :=
  pe_imp (pe_callB (call_sortV hc hu) hg hm (by decide +kernel) (pa_cons (pe_callTy (call_setV hc hu) hg2 hm2 (by decide +kernel) ha (he := hs)) pa_nil hs2) (he := hs2)) fun σ H Q hu => by
    obtain ⟨ρ, n, B, bxs, Qd, g, e, w1, q⟩ := hu
    refine ⟨ρ, n, B, bxs, _, g, e, w1, fun rs n1 vs B1 H1 hq s1 vr f1 => ?_⟩
    obtain ⟨xs, ex, hq⟩ := onO_ex hq
    have dv := views_r _ _ _ vr ex
    have g1 := g.step s1
    have main : ∀ (p : Addr) (us : List V) (yd : List PyData), (SqL X.K H1 p us ∨ SqT X.K H1 p us) → Dl.DpAll X.K B1 us yd → (yd.length < 64 ∧ ∃ ds, DistOf yd ds ∧ Qd (.new (sortD ds)) n1) → rSetV X.K X.w [.ref p] H1 fun v H2 => rSortV X.K X.w [v] H2 Q := fun p us yd h1 h2 hq => by
      obtain ⟨hn, ds, hD, hq⟩ := hq
      refine ⟨p, us, B1, yd, ds, rfl, h1, g1.sub, h2, hn, hD, fun a ws ps na pm ea => ⟨a, ws, B1, ps, rfl, upd_same, ?_, hD.kind.perm pm, ea, fun z vs nz dz => ?_⟩⟩
      · exact (g.step (s1.lay0 na)).sub
      · rw [sortD_perm hD.kind pm] at dz
        have fb := freshB (g.step (s1.lay0 na)) nz
        exact q _ _ _ _ _ hq ((s1.lay0 na).lay0 nz) ⟨z, _, rfl, fb.1, fb.2, upd_same, dz⟩ ⟨z, rfl, (s1.lay0 na).free nz⟩
    unfold wSortSet at hq
    split at hq
    · obtain ⟨v, rfl, dx⟩ := dpvs1 dv
      obtain ⟨p, us, rfl, h1, h2⟩ := dx.list g1.sub
      exact main p us _ (.inl h1) h2 hq
    · obtain ⟨v, rfl, dx⟩ := dpvs1 dv
      obtain ⟨p, us, rfl, h1, h2⟩ := dx.tuple g1.sub
      exact main p us _ (.inr h1) h2 hq
    · exact hq.elim
end
end Dl

namespace Dl
open PySem PySem.Spec PyProof.Rows L2
/-! ### dicts whose keys are numbers, texts, None, or pairs of a number and a text -/
noncomputable def kD : Key → PyData
  | .inl i => .int i
  | .inr x => .str x
theorem kD_dp {K : PySem.W.Frag} {B : Hp} {k : Key} {v : V} (h : Dp K B v (kD k)) : v = kV k := by
  cases k <;> (cases h; rfl)
theorem kD_dpV {K : PySem.W.Frag} {B : Hp} (k : Key) : Dl.Dp K B (kV k) (kD k) := by
  cases k with
  | inl i => exact .int i
  | inr x => exact .str x
noncomputable abbrev CK := Sum Key (Int × Str)
noncomputable def ckD : CK → PyData
  | .inl l => kD l
  | .inr k => cpd k
noncomputable def ckOk : Bool → CK → Prop
  | false, .inl _ => True
  | true, .inr _ => True
  | _, _ => False
noncomputable def Shape (P : Program) (w : World) (h : Heap) (d : Addr) (xs : List (NestedKey × Addr × Value)) : Prop :=
  ∃ o es ep, h.get? d = some o ∧ o.ExactDict ∧ o.data = .dict es ep ∧ es.toList = xs.map (entryOfKey (nestedKind P w)) ∧ (xs.map (·.1)).Nodup
noncomputable abbrev RelL : List (CK × V × V) → List (Key × Value) → Prop := Paired fun p q => p.1 = .inl q.1 ∧ p.2.1 = kV q.1 ∧ RelV p.2.2 q.2
noncomputable abbrev RelN : List (CK × V × V) → List (NestedKey × Addr × Value) → Prop := Paired fun p x => ∃ k, p.1 = .inr k ∧ x.1 = ckey k ∧ p.2.1 = .ref x.2.1 ∧ RelV p.2.2 x.2.2
noncomputable def lookV (l : List (CK × V × V)) (k : CK) : Option V := (l.find? fun p => decide (p.1 = k)).map (·.2.2)
noncomputable def putV (l : List (CK × V × V)) (k : CK) (y z : V) : List (CK × V × V) := if (lookV l k).isSome then l.map (fun p => if p.1 = k then (p.1, p.2.1, z) else p) else l ++ [(k, y, z)]
noncomputable def DORel (P : Program) (w : World) (fl : Bool) (a : Addr) (l : List (CK × V × V)) (h : Heap) : Prop := l.length ≤ sizeLine ∧ (a == sysModules) = false ∧
  ((fl = false ∧ ∃ vs, RelL l vs ∧ h.DictOf (mixKind P w) a vs) ∨ (fl = true ∧ ∃ xs, RelN l xs ∧ Shape P w h a xs))
noncomputable def dO (P : Program) (w : World) (fl : Bool) (a : Addr) (l : List (CK × V × V)) : HO := .ext (DORel P w fl a l)
theorem RelL.val {l : List (CK × V × V)} {vs : List (Key × Value)} (r : RelL l vs) (k : Key) : RelO (lookV l (.inl k)) (valueAt vs k) := by
  induction r with
  | nil => exact True.intro
  | cons h _ ih =>
    rename_i p q l vs _
    unfold lookV valueAt
    rw [List.find?_cons, List.find?_cons]
    by_cases e : q.1 = k
    · rw [show decide (p.1 = Sum.inl k) = true from decide_eq_true (by rw [h.1, e]), show decide (q.1 = k) = true from decide_eq_true e]
      exact h.2.2
    · rw [show decide (p.1 = Sum.inl k) = false from decide_eq_false (by rw [h.1]; exact fun z => e (Sum.inl.inj z)), show decide (q.1 = k) = false from decide_eq_false e]
      exact ih
theorem RelN.val {l : List (CK × V × V)} {xs : List (NestedKey × Addr × Value)} (r : RelN l xs) (k : Int × Str) : RelO (lookV l (.inr k)) ((atKey xs (ckey k)).map (·.2)) := by
  induction r with
  | nil => exact True.intro
  | cons h _ ih =>
    rename_i p q l vs _
    obtain ⟨j, h1, h2, h3, h4⟩ := h
    unfold lookV atKey
    rw [List.find?_cons, List.find?_cons]
    by_cases e : j = k
    · rw [show decide (p.1 = Sum.inr k) = true from decide_eq_true (by rw [h1, e]), show decide (q.1 = ckey k) = true from decide_eq_true (by rw [h2, e])]
      exact h4
    · rw [show decide (p.1 = Sum.inr k) = false from decide_eq_false (by rw [h1]; exact fun z => e (Sum.inr.inj z)), show decide (q.1 = ckey k) = false from decide_eq_false (by rw [h2]; exact fun z => e (ckey_inj z))]
      exact ih
theorem valueAt_any {κ : Type} [DecidableEq κ] (k : κ) : ∀ vs : List (κ × Value), (vs.any fun kv => decide (kv.1 = k)) = (valueAt vs k).isSome
  | [] => rfl
  | p :: vs => by
    unfold valueAt
    rw [List.any_cons, List.find?_cons]
    by_cases e : p.1 = k
    · rw [decide_eq_true e]; rfl
    · rw [decide_eq_false e, Bool.false_or]; exact valueAt_any k vs
theorem RelL.put {l : List (CK × V × V)} {vs : List (Key × Value)} (r : RelL l vs) (k : Key) {z : V} {u : Value} (rz : RelV z u) : RelL (putV l (.inl k) (kV k) z) (stored vs k u) := by
  unfold putV stored
  rw [valueAt_any k vs, (r.val k).isSome_eq]
  by_cases e : (valueAt vs k).isSome = true
  · rw [if_pos e, if_pos e]
    clear e
    induction r with
    | nil => exact .nil
    | cons h _ ih =>
      rename_i p q l vs _
      refine .cons ?_ ih
      dsimp only
      by_cases e : q.1 = k
      · rw [if_pos (show p.1 = Sum.inl k by rw [h.1, e]), if_pos e]
        exact ⟨h.1, h.2.1, rz⟩
      · rw [if_neg (show ¬ p.1 = Sum.inl k by rw [h.1]; exact fun z => e (Sum.inl.inj z)), if_neg e]
        exact h
  · rw [if_neg e, if_neg e]
    exact Paired.snoc r ⟨rfl, rfl, rz⟩
theorem RelN.put {l : List (CK × V × V)} {xs : List (NestedKey × Addr × Value)} (r : RelN l xs) (k : Int × Str) {b : Addr} {z : V} {u : Value} (rz : RelV z u) : RelN (putV l (.inr k) (.ref b) z) (storedH xs (ckey k) b u) := by
  unfold putV storedH
  rw [(r.val k).isSome_eq, Option.isSome_map]
  by_cases e : (atKey xs (ckey k)).isSome = true
  · rw [if_pos e, if_pos e]
    clear e
    induction r with
    | nil => exact .nil
    | cons h _ ih =>
      rename_i p q l vs _
      refine .cons ?_ ih
      obtain ⟨j, h1, h2, h3, h4⟩ := h
      unfold putAt
      dsimp only
      by_cases e : j = k
      · rw [if_pos (show p.1 = Sum.inr k by rw [h1, e]), if_pos (show q.1 = ckey k by rw [h2, e])]
        exact ⟨j, h1, h2, h3, rz⟩
      · rw [if_neg (show ¬ p.1 = Sum.inr k by rw [h1]; exact fun z => e (Sum.inr.inj z)), if_neg (show ¬ q.1 = ckey k by rw [h2]; exact fun z => e (ckey_inj z))]
        exact ⟨j, h1, h2, h3, h4⟩
  · rw [if_neg e, if_neg e]
    exact Paired.snoc r ⟨k, rfl, rfl, rfl, rz⟩
theorem putV_new {l : List (CK × V × V)} {k : CK} (h : lookV l k = none) (y z : V) : putV l k y z = l ++ [(k, y, z)] := by
  unfold putV
  rw [h]
  rfl
theorem putV_len (l : List (CK × V × V)) (k : CK) (y z : V) : (putV l k y z).length ≤ l.length + 1 := by
  unfold putV
  split
  · rw [List.length_map]; omega
  · rw [List.length_append]; exact Nat.le_refl _
theorem Shape.of {P : Program} {w : World} {h : Heap} {d : Addr} {xs : List (NestedKey × Addr × Value)} (x : h.DictOfH (nestedKind P w) d xs) : Shape P w h d xs := by
  obtain ⟨o, es, ep, h1, h2, h3, h4, _, h5⟩ := x
  exact ⟨o, es, ep, h1, h2, h3, h4, h5⟩
section
variable {P : Program} {w : World}
theorem dO_ok {H : Hp} {h : Heap} {fl : Bool} {a : Addr} {l : List (CK × V × V)} (x : DORel P w fl a l h) : ObjOk P w H h a (dO P w fl a l) := by
  have he : ∃ q, h.get? a = some q := by
    obtain ⟨_, _, ⟨_, vs, _, o, es, ep, ho, _⟩ | ⟨_, xs, _, o, es, ep, ho, _⟩⟩ := x
    · exact ⟨o, ho⟩
    · exact ⟨o, ho⟩
  refine ⟨x, he, fun u1 u2 hx kp => ?_⟩
  obtain ⟨b1, b2, ⟨f, vs', r', o, es, ep, ho, rest⟩ | ⟨f, vs', r', o, es, ep, ho, rest⟩⟩ := hx
  · exact ⟨b1, b2, .inl ⟨f, vs', r', o, es, ep, kp o ho, rest⟩⟩
  · exact ⟨b1, b2, .inr ⟨f, vs', r', o, es, ep, kp o ho, rest⟩⟩
theorem dO_new (fl : Bool) (h : Heap) (hs : sysModules < h.objs.size) : DORel P w fl h.objs.size [] (h.push { cls := .type "dict", data := .dict #[] }) := by
  refine ⟨Nat.zero_le _, beq_eq_false_iff_ne.mpr (Ne.symm (Nat.ne_of_lt hs)), ?_⟩
  cases fl with
  | false => exact .inl ⟨rfl, [], .nil, Heap.DictOf.new h⟩
  | true => exact .inr ⟨rfl, [], .nil, Shape.of (Heap.DictOfH.new h)⟩
end
section
variable {X : Cx} {pins : List (Addr × Obj)} {σ : L2.St} {H : Hp} {s : Shared} {a : Addr} {fl : Bool} {l : List (CK × V × V)} {A : Around} {E : Value → Shared → Prop} {k : CK} {y z : V} {u r : Value}
theorem dO_at (I : Inv X pins σ H s) (e : H a = some (dO X.prog X.w fl a l)) : DORel X.prog X.w fl a l s.heap :=
  (show ObjOk X.prog X.w H s.heap a (dO X.prog X.w fl a l) from I.hok a _ e).1
theorem dO_type (x : DORel X.prog X.w fl a l s.heap) : s.TypeIs (.ref a) "dict" ∧ (∀ b, Value.ref a = .ref b → ∃ ob, s.heap.get? b = some ob ∧ ob.dict = none) := by
  obtain ⟨_, _, ⟨_, vs, _, o, es, ep, ho, hx, _⟩ | ⟨_, xs, _, o, es, ep, ho, hx, _⟩⟩ := x
  · exact ⟨⟨o, ho, hx.1⟩, fun b q => by cases q; exact ⟨o, ho, hx.2.1⟩⟩
  · exact ⟨⟨o, ho, hx.1⟩, fun b q => by cases q; exact ⟨o, ho, hx.2.1⟩⟩
/-- what is known of the keys -/
noncomputable def KeysIn (K : PySem.W.Frag) (H : Hp) (l : List (CK × V × V)) : Prop := ∀ p ∈ l, Dp K H p.2.1 (ckD p.1)
theorem key_in {k : Int × Str} {b : Addr} (I : Inv X pins σ H s) (h : Dp X.K H (.ref b) (cpd k)) : (nestedKind X.prog X.w).is s.heap (ckey k) b := by
  refine Inv.ckey I ?_
  unfold cpd at h
  cases h with
  | tup h1 h2 =>
    cases h2 with
    | cons q1 h3 => cases h3 with
      | cons q2 h4 => cases h4; cases q1; cases q2; exact h1
theorem shape_full (I : Inv X pins σ H s) (ks : KeysIn X.K H l) {xs : List (NestedKey × Addr × Value)} (r : RelN l xs) (x : Shape X.prog X.w s.heap a xs) : s.heap.DictOfH (nestedKind X.prog X.w) a xs := by
  obtain ⟨o, es, ep, h1, h2, h3, h4, h5⟩ := x
  refine ⟨o, es, ep, h1, h2, h3, h4, ?_, h5⟩
  clear h1 h2 h3 h4 h5
  induction r with
  | nil => intro q hq; cases hq
  | cons h _ ih =>
    intro q hq
    rcases List.mem_cons.mp hq with e | e
    · subst e
      obtain ⟨k, e1, e2, e3, _⟩ := h
      have hk := ks _ List.mem_cons_self
      rw [e1, e3] at hk
      rw [e2]
      exact key_in I hk
    · exact ih (fun p hp => ks p (List.mem_cons_of_mem _ hp)) q e
theorem cpd_ref {k : Int × Str} (h : Dp X.K H y (cpd k)) : ∃ b, y = .ref b := by
  unfold cpd at h
  cases h with
  | tup h1 h2 => exact ⟨_, rfl⟩
theorem lfl (I : Inv X pins σ H s) {vs : List (Key × Value)} (rel : RelL l vs) (z : l.length ≤ sizeLine) : vs.length ≤ sizeLine := by rw [← Paired.length rel]; exact z
/-- d.setdefault(y, z) -/
theorem dO_setd {Q : Value → Shared → Prop} (hu : A.units + 9 < cLine) (I : Inv X pins σ H s) (e : H a = some (dO X.prog X.w fl a l)) (ks : KeysIn X.K H l) (ok : ckOk fl k) (hy : Dp X.K H y (ckD k)) (ry : RelV y u) (rz : RelV z r) (hl : l.length < sizeLine)
    (h1 : ∀ v w' s', lookV l k = some v → Inv X pins σ H s' → RelV v w' → Q w' s') (h2 : lookV l k = none → ∀ s', Inv X pins σ (upd H a (dO X.prog X.w fl a (putV l k y z))) s' → Q r s') :
    wpAny (model X.prog X.w) A (call (.builtin "dict.setdefault") [.ref a, u, r]) Q E s := by
  have hl2 : (putV l k y z).length ≤ sizeLine := by have := putV_len l k y z; omega
  have mu : Mut (H a) := by rw [e]; exact True.intro
  obtain ⟨zl, hd, ⟨f, vs, rel, dd⟩ | ⟨f, xs, rel, sh⟩⟩ := dO_at I e
  · subst f
    cases k with
    | inr k => exact ok.elim
    | inl k =>
      have ey := kD_dp hy
      subst ey
      refine call_meetsIn PySem.F.slot_dict_setdefault dd.typeIs PySem.F.entry_dict_setdefault (PySem.F.args_dict_setdefault_3 _ _ _) (PySem.kt_meets_setdefault (mixKind X.prog X.w) a (kV_is ry) hd r) ⟨vs, dd, lfl I rel zl, fun v hv => ?_, fun hn h' dd' sb => ?_⟩
      · have ro := rel.val k
        rw [hv] at ro
        cases lk : lookV l (.inl k) with
        | none => rw [lk] at ro; exact ro.elim
        | some v0 => rw [lk] at ro; exact h1 v0 _ _ lk (I.tok _) ro
      · have ro := rel.val k
        rw [hn] at ro
        cases lk : lookV l (.inl k) with
        | some v0 => rw [lk] at ro; exact ro.elim
        | none =>
          have he : ∃ q, h'.get? a = some q := let ⟨q, _, _, hq, _⟩ := dd'; ⟨q, hq⟩
          exact h2 lk _ (d_write I mu sb he (dO_ok ⟨hl2, hd, .inl ⟨rfl, _, rel.put k rz, dd'⟩⟩))
  · subst f
    cases k with
    | inl k => exact ok.elim
    | inr k =>
      obtain ⟨b, rfl⟩ := cpd_ref hy
      cases (show u = Value.ref b from ry)
      refine call_setdefault_heap (knd := nestedKind X.prog X.w) (show A.in1.units + 8 < cLine from hu) (key_in I hy) hd (shape_full I ks rel sh) (fun p hp => ?_) (fun hn h' dd' sb => ?_) (by rw [← Paired.length rel]; exact zl)
      · have ro := rel.val k
        rw [hp] at ro
        cases lk : lookV l (.inr k) with
        | none => rw [lk] at ro; exact ro.elim
        | some v0 => rw [lk] at ro; exact h1 v0 _ _ lk (I.tok _) ro
      · have ro := rel.val k
        rw [hn] at ro
        cases lk : lookV l (.inr k) with
        | some v0 => rw [lk] at ro; exact ro.elim
        | none =>
          have he : ∃ q, h'.get? a = some q := let ⟨q, _, _, hq, _⟩ := dd'; ⟨q, hq⟩
          exact h2 lk _ (d_write I mu sb he (dO_ok ⟨hl2, hd, .inr ⟨rfl, _, rel.put k rz, Shape.of dd'⟩⟩))
end
end Dl

namespace Dl
open PySem PySem.Spec PyProof.Rows L2
/-! ### objects that are nobody's: laid, changed, taken as data -/
section
variable {K : PySem.W.Frag} {E : Ent} {M : Hp} {n : Nat} {B H : Hp} {bxs : List Addr} {σ : L2.St} {ρ : DEnv}
theorem SInv.poke (h : SInv K E M n B H bxs σ ρ) {a : Addr} {ob : HO} (hb : a ∉ bxs) (hB : B a = none) (hE : E.H a = none) (ho : ∀ (i : Nat) (r : RV), ρ[i]? = some (some r) → isOwn r → σ[i]? ≠ some (some (.ref a))) : SInv K E M n B (L2.upd H a ob) bxs σ ρ := by
  have nB : ∀ c o, B c = some o → c ≠ a := fun c o e q => by
    subst q
    rw [hB] at e
    cases e
  have kb : ∀ b ∈ bxs, ∀ o, H b = some o → L2.upd H a ob b = some o := fun b hb' o e => by
    rw [upd_ne (show b ≠ a from fun q => hb (q ▸ hb'))]
    exact e
  refine ⟨⟨h.st.b1, fun c o e => by rw [upd_ne (nB c o e)]; exact h.st.b2 c o e, h.st.b3, fun c o hc e => ?_, fun b hb' => (h.st.bx b hb').keep (kb b (h.sup b hb')), h.st.nn⟩, h.mb, ⟨fun c o e => by rw [upd_ne (nB c o e)]; exact h.g.sub c o e, fun b hb' => ⟨(h.g.box b hb').1, (h.g.box b hb').2.keep (kb b hb')⟩⟩, h.bs, h.sup, ⟨h.env.len, fun i r hr => ?_, h.env.own, h.env.ok⟩, h.ow⟩
  · rw [upd_ne (ne_of_none e hE)]
    exact h.st.h1 c o hc e
  · obtain ⟨u, e2, e3⟩ := h.env.val i r hr
    refine ⟨u, e2, ?_⟩
    cases r with
    | d x => exact e3
    | new ys =>
      obtain ⟨q, us, rfl, c1, c2, c3, c4⟩ := e3
      exact ⟨q, us, rfl, c1, c2, by rw [upd_ne (show q ≠ a from fun z => ho i _ hr trivial (z ▸ e2))]; exact c3, c4⟩
    | own T =>
      obtain ⟨q, us, rfl, c1, c2, c3, c4⟩ := e3
      exact ⟨q, us, rfl, c1, c2, by rw [upd_ne (show q ≠ a from fun z => ho i _ hr trivial (z ▸ e2))]; exact c3, c4⟩
    | bor ys => exact (h.env.ok i _ hr).elim
    | box => exact e3
    | obj o0 => exact e3
    | nbox => exact (h.env.ok i _ hr).elim
theorem SInv.adopt (h : SInv K E M n B H bxs σ ρ) {a : Addr} {ob : HO} (hb : a ∉ bxs) (hB : B a = none) (hH : H a = some ob) (hE : E.H a = none) (ho : ∀ (i : Nat) (r : RV), ρ[i]? = some (some r) → isOwn r → σ[i]? ≠ some (some (.ref a))) : SInv K E M n (L2.upd B a ob) H bxs σ ρ := by
  have sm : Same B (L2.upd B a ob) := sub_add hB
  have sub : ∀ S : Hp, Same B S → S a = some ob → Same (L2.upd B a ob) S := fun S hS e c o q => by
    by_cases z : c = a
    · subst z
      rw [upd_same] at q
      cases q
      exact e
    · rw [upd_ne z] at q
      exact hS c o q
  refine ⟨⟨h.st.b1.trans sm, sub _ h.st.b2 hH, fun c hc => ?_, h.st.h1, h.st.bx, h.st.nn⟩, h.mb.trans sm, ⟨sub _ h.g.sub hH, fun b hb' => ⟨?_, (h.g.box b hb').2⟩⟩, h.bs, h.sup, ⟨h.env.len, fun i r hr => ?_, h.env.own, h.env.ok⟩, h.ow⟩
  · rw [upd_ne (show c ≠ a from fun z => hc (z ▸ hE))]
    exact h.st.b3 c hc
  · rw [upd_ne (show b ≠ a from fun z => hb (z ▸ hb'))]
    exact (h.g.box b hb').1
  · obtain ⟨u, e2, e3⟩ := h.env.val i r hr
    refine ⟨u, e2, ?_⟩
    cases r with
    | d x => exact dpSame sm _ _ e3
    | new ys =>
      obtain ⟨q, us, rfl, c1, c2, c3, c4⟩ := e3
      exact ⟨q, us, rfl, c1, by rw [upd_ne (show q ≠ a from fun z => ho i _ hr trivial (z ▸ e2))]; exact c2, c3, dpSameAll sm _ _ c4⟩
    | own T =>
      obtain ⟨q, us, rfl, c1, c2, c3, c4⟩ := e3
      exact ⟨q, us, rfl, c1, by rw [upd_ne (show q ≠ a from fun z => ho i _ hr trivial (z ▸ e2))]; exact c2, c3, T.mono sm c4⟩
    | bor ys => exact (h.env.ok i _ hr).elim
    | box => exact e3
    | obj o0 => exact e3
    | nbox => exact (h.env.ok i _ hr).elim
theorem unset {i j : Nat} {r : RV} (h : (ρ.set i none)[j]? = some (some r)) : ρ[j]? = some (some r) ∧ i ≠ j := by
  by_cases hij : i = j
  · subst hij
    by_cases hi : i < ρ.length
    · rw [List.getElem?_set_self hi] at h
      cases h
    · rw [List.getElem?_eq_none (by rw [List.length_set]; omega)] at h
      cases h
  · rw [List.getElem?_set_ne hij] at h
    exact ⟨h, hij⟩
theorem SInv.forget (h : SInv K E M n B H bxs σ ρ) (i : Nat) : SInv K E M n B H bxs σ (ρ.set i none) :=
  ⟨h.st, h.mb, h.g, h.bs, h.sup, ⟨by rw [List.length_set]; exact h.env.len, fun j r e => h.env.val j r (unset e).1, fun j k r r' p h1 h2 => h.env.own j k r r' p (unset h1).1 (unset h2).1, fun j r e => h.env.ok j r (unset e).1⟩, fun j r p e => h.ow j r p (unset e).1⟩
theorem SInv.shade (h : SInv K E M n B H bxs σ ρ) (i : Nat) (v : Option V) : SInv K E M n B H bxs (σ.set i v) (ρ.set i none) := by
  refine ⟨h.st, h.mb, h.g, h.bs, h.sup, ⟨by rw [List.length_set, List.length_set]; exact h.env.len, fun j r e => ?_, fun j k r r' p h1 h2 o1 o2 h3 h4 => ?_, fun j r e => h.env.ok j r (unset e).1⟩, fun j r p e o e2 => ?_⟩
  · obtain ⟨a, b⟩ := unset e
    rw [List.getElem?_set_ne b]
    exact h.env.val j r a
  · rw [List.getElem?_set_ne (unset h1).2] at h3
    rw [List.getElem?_set_ne (unset h2).2] at h4
    exact h.env.own j k r r' p (unset h1).1 (unset h2).1 o1 o2 h3 h4
  · rw [List.getElem?_set_ne (unset e).2] at e2
    exact h.ow j r p (unset e).1 o e2
theorem SInv.claim (h : SInv K E M n B H bxs σ ρ) {i : Nat} {p : Addr} {T : OwnT} (hs : σ[i]? = some (some (.ref p))) (vr : ValR K bxs n B H (.own T) (.ref p)) (hE : E.H p = none) (ho : ∀ (j : Nat) (r : RV), ρ[j]? = some (some r) → isOwn r → j ≠ i → σ[j]? ≠ some (some (.ref p))) : SInv K E M n B H bxs σ (ρ.set i (some (.own T))) := by
  have hi : i < ρ.length := by
    rw [← h.env.len]
    exact (List.getElem?_eq_some_iff.mp hs).1
  have at_ : ∀ (j : Nat) (r : RV), (ρ.set i (some (.own T)))[j]? = some (some r) → (i = j ∧ r = .own T) ∨ (i ≠ j ∧ ρ[j]? = some (some r)) := fun j r e => by
    by_cases hij : i = j
    · subst hij
      rw [List.getElem?_set_self hi] at e
      cases e
      exact .inl ⟨rfl, rfl⟩
    · rw [List.getElem?_set_ne hij] at e
      exact .inr ⟨hij, e⟩
  refine ⟨h.st, h.mb, h.g, h.bs, h.sup, ⟨by rw [List.length_set]; exact h.env.len, fun j r e => ?_, fun j k r r' q h1 h2 o1 o2 h3 h4 => ?_, fun j r e => ?_⟩, fun j r q e o e2 => ?_⟩
  · rcases at_ j r e with ⟨rfl, rfl⟩ | ⟨_, e⟩
    · exact ⟨_, hs, vr⟩
    · exact h.env.val j r e
  · rcases at_ j r h1 with ⟨rfl, rfl⟩ | ⟨nj, e1⟩
    · rcases at_ k r' h2 with ⟨rfl, rfl⟩ | ⟨nk, e2⟩
      · rfl
      · rw [hs] at h3
        cases h3
        exact absurd h4 (ho k r' e2 o2 (Ne.symm nk))
    · rcases at_ k r' h2 with ⟨rfl, rfl⟩ | ⟨nk, e2⟩
      · rw [hs] at h4
        cases h4
        exact absurd h3 (ho j r e1 o1 (Ne.symm nj))
      · exact h.env.own j k r r' q e1 e2 o1 o2 h3 h4
  · rcases at_ j r e with ⟨rfl, rfl⟩ | ⟨_, e⟩
    · trivial
    · exact h.env.ok j r e
  · rcases at_ j r e with ⟨rfl, rfl⟩ | ⟨_, e⟩
    · rw [hs] at e2
      cases e2
      exact hE
    · exact h.ow j r q e o e2
end
/-! ### found = {}; for at, cell in ..: found.setdefault(cell, []).append(at) -/
instance : Inhabited CK := ⟨.inl (.inl 0)⟩
noncomputable def posK (v : Nat → CK) (t : Nat) (c : CK) : List Nat := (List.range t).filter fun m => decide (v m = c)
theorem posK_succ (v : Nat → CK) (t : Nat) (c : CK) : posK v (t + 1) c = posK v t c ++ (if v t = c then [t] else []) := by
  unfold posK
  rw [List.range_succ, List.filter_append, List.filter_cons, List.filter_nil]
  by_cases h : v t = c
  · rw [decide_eq_true h, if_pos h]; rfl
  · rw [decide_eq_false h, if_neg h]; rfl
theorem metK_has {κ : Type} [DecidableEq κ] {v : Nat → κ} {t m : Nat} (h : m < t) : v m ∈ metK v t := by
  induction t with
  | zero => omega
  | succ t ih =>
    unfold metK
    by_cases e : m = t
    · subst e
      split
      · assumption
      · exact List.mem_append.mpr (.inr (List.mem_singleton.mpr rfl))
    · have := ih (by omega)
      split
      · exact this
      · exact List.mem_append.mpr (.inl this)
theorem metK_old {κ : Type} [DecidableEq κ] {v : Nat → κ} {t : Nat} (h : v t ∈ metK v t) : metK v (t + 1) = metK v t := by
  rw [metK, if_pos h]
theorem metK_more {κ : Type} [DecidableEq κ] {v : Nat → κ} {t : Nat} (h : v t ∉ metK v t) : metK v (t + 1) = metK v t ++ [v t] := by
  rw [metK, if_neg h]
theorem posK_nil {v : Nat → CK} {t : Nat} {c : CK} (h : c ∉ metK v t) : posK v t c = [] := by
  unfold posK
  refine List.filter_eq_nil_iff.mpr fun m hm => ?_
  have hv := metK_has (v := v) (List.mem_range.mp hm)
  rw [decide_eq_false (show ¬ v m = c from fun e => h (e ▸ hv))]
  exact Bool.false_ne_true
noncomputable abbrev intsV (ms : List Nat) : List V := ms.map fun (m : Nat) => V.int (m : Int)
noncomputable abbrev intsD (ms : List Nat) : List PyData := ms.map fun (m : Nat) => PyData.int (m : Int)
theorem intsV_dp {K : PySem.W.Frag} {B : Hp} : ∀ ms : List Nat, DpAll K B (intsV ms) (intsD ms)
  | [] => .nil
  | m :: ms => .cons (.int _) (intsV_dp ms)
theorem look_key {l : List (CK × V × V)} {c : CK} {v : V} (h : lookV l c = some v) : ∃ e ∈ l, e.1 = c ∧ e.2.2 = v := by
  unfold lookV at h
  cases hf : l.find? fun p => decide (p.1 = c) with
  | none => rw [hf] at h; cases h
  | some e =>
    rw [hf] at h
    cases h
    exact ⟨e, List.mem_of_find?_eq_some hf, by simpa using List.find?_some hf, rfl⟩
theorem look_no {l : List (CK × V × V)} {c : CK} (h : lookV l c = none) : c ∉ l.map (·.1) := fun hm => by
  obtain ⟨e, he, rfl⟩ := List.mem_map.mp hm
  unfold lookV at h
  cases hf : l.find? fun p => decide (p.1 = e.1) with
  | none => exact absurd (List.find?_eq_none.mp hf e he) (by simp)
  | some e' => rw [hf] at h; cases h
theorem look_yes {l : List (CK × V × V)} {c : CK} (h : c ∈ l.map (·.1)) : ∃ v, lookV l c = some v := by
  cases hf : lookV l c with
  | some v => exact ⟨v, rfl⟩
  | none => exact absurd h (look_no hf)
noncomputable def tDNewO (X : Cx) : TE := fun _ H Q => ∃ fl, ∀ p, H p = none → Q (.ref p) (upd H p (dO X.prog X.w fl p []))
noncomputable def tSetd (X : Cx) (td ty tx : TE) : TE := fun σ H Q => td σ H fun x H1 => ∃ a fl, x = .ref a ∧ (∃ l, H1 a = some (dO X.prog X.w fl a l)) ∧ ty σ H1 fun y H2 => tx σ H2 fun z H3 =>
  ∃ l k, H3 a = some (dO X.prog X.w fl a l) ∧ KeysIn X.K H3 l ∧ ckOk fl k ∧ Dp X.K H3 y (ckD k) ∧ l.length < sizeLine ∧ (∀ v, lookV l k = some v → Q v H3) ∧ (lookV l k = none → Q z (upd H3 a (dO X.prog X.w fl a (putV l k y z))))
section
variable {X : Cx} {o e f : Expr} {pos apos cpos : Pos} {td ty tx : TE}
theorem pe_dnewO : PE X (.Dict [] [] pos) (tDNewO X) := ⟨fun pins s σ H Q I ⟨fl, h⟩ =>
  wpAny_Dict_empty ⟨.ref s.heap.objs.size, _, I.laid (a := s.heap.objs.size) (o := dO X.prog X.w fl s.heap.objs.size []) (t' := s.toks) (fun _ _ q => Heap.get?_push_of_some _ q) (Nat.le_refl _)
    (dO_ok (dO_new fl s.heap I.big)), rfl, h _ (I.hok.fresh (Nat.le_refl _))⟩⟩
theorem pe_setd (hu : X.A.units + 9 < cLine) (ho : PE X o td) (he : PE X e ty) (hf : PE X f tx) (m : M2 X o "setdefault" apos e f cpos) : PE X (.Call (.Attribute o "setdefault" apos) [e, f] [] cpos) (tSetd X td ty tx) := by
  refine ⟨fun pins s σ H Q I h => ?_⟩
  refine wpAny_Call_method m.base m.few m.line PySem.F.plainAttrs_dict PySem.F.slot_dict_setdefault PySem.F.type_dict_setdefault (thn (ho.run pins s σ H _ I h) fun u s1 ⟨x, H1, I1, rx, a, fl, ex, ⟨l0, d⟩, q1⟩ => ?_)
  subst ex
  obtain rfl : u = Value.ref a := rx
  obtain ⟨t1, t2⟩ := dO_type (dO_at I1 d)
  refine ⟨t1, t2, ?_⟩
  rw [m.trees]
  refine Calls.callWith_builtin rfl (Calls.evalArgs_plain (Calls.spliced_cons (thn (he.run pins s1 σ H1 _ I1 q1) fun iv s2 ⟨y, H2, I2, ry, q2⟩ =>
    Calls.spliced_cons (thn (hf.run pins s2 σ H2 _ I2 q2) fun fv s3 ⟨z, H3, I3, rz, l, k, e3, ks, ok, dy, hl, q3, q4⟩ => Calls.spliced_nil ?_))))
  exact dO_setd hu I3 e3 ks ok dy ry rz hl (fun v w' s' lk J r => ⟨v, H3, J, r, q3 v lk⟩) fun lk s' J => ⟨z, _, J, rz, q4 lk⟩
end
/-- what stands while the loop runs -/
structure GrpI (P : Program) (w : World) (K : PySem.W.Frag) (fl : Bool) (p : Addr) (v : Nat → CK) (t : Nat) (bxs : List Addr) (H0 B H : Hp) (l : List (CK × V × V)) (f : CK → Addr) : Prop where
  dict : H p = some (dO P w fl p l)
  keys : l.map (·.1) = metK v t
  ents : ∀ e ∈ l, Dp K B e.2.1 (ckD e.1) ∧ e.2.2 = .ref (f e.1)
  pB : B p = none
  lists : ∀ c ∈ metK v t, f c ≠ p ∧ f c ∉ bxs ∧ B (f c) = none ∧ H0 (f c) = none ∧ H (f c) = some (.lst (intsV (posK v t c)))
  inj : ∀ c ∈ metK v t, ∀ c' ∈ metK v t, f c = f c' → c = c'
theorem adoptAll {K : PySem.W.Frag} {E : Ent} {M : Hp} {n : Nat} {H : Hp} {bxs : List Addr} {σ : L2.St} {ρ : DEnv} {f : CK → Addr} {g : CK → HO} : ∀ (cs : List CK) (B : Hp), SInv K E M n B H bxs σ ρ → cs.Nodup → (∀ c ∈ cs, ∀ c' ∈ cs, f c = f c' → c = c') →
    (∀ c ∈ cs, f c ∉ bxs ∧ B (f c) = none ∧ E.H (f c) = none ∧ H (f c) = some (g c)) → (∀ c ∈ cs, ∀ (i : Nat) (r : RV), ρ[i]? = some (some r) → isOwn r → σ[i]? ≠ some (some (.ref (f c)))) →
    ∃ B', SInv K E M n B' H bxs σ ρ ∧ Same B B' ∧ (∀ c ∈ cs, B' (f c) = some (g c)) ∧ ∀ a, (∀ c ∈ cs, a ≠ f c) → B' a = B a
  | [], B, h, _, _, _, _ => ⟨B, h, Same.refl _, (fun c hc => nomatch hc), fun _ _ => rfl⟩
  | c :: cs, B, h, nd, inj, hl, ho => by
    obtain ⟨nc, nd⟩ := List.nodup_cons.mp nd
    obtain ⟨a1, a2, a3, a4⟩ := hl c List.mem_cons_self
    have h2 := h.adopt a1 a2 a4 a3 (ho c List.mem_cons_self)
    have ne : ∀ c' ∈ cs, f c' ≠ f c := fun c' hc' z => nc (inj c' (List.mem_cons_of_mem _ hc') c List.mem_cons_self z ▸ hc')
    obtain ⟨B', h3, sb, h4, h5⟩ := adoptAll (f := f) (g := g) cs _ h2 nd (fun x hx y hy => inj x (List.mem_cons_of_mem _ hx) y (List.mem_cons_of_mem _ hy)) (fun c' hc' => by
      obtain ⟨b1, b2, b3, b4⟩ := hl c' (List.mem_cons_of_mem _ hc')
      exact ⟨b1, by rw [upd_ne (ne c' hc')]; exact b2, b3, b4⟩) fun c' hc' => ho c' (List.mem_cons_of_mem _ hc')
    refine ⟨B', h3, (sub_add a2).trans sb, fun c' hc' => ?_, fun a ha => ?_⟩
    · rcases List.mem_cons.mp hc' with e | e
      · subst e
        rw [h5 (f c') fun x hx => Ne.symm (ne x hx)]
        exact upd_same
      · exact h4 c' e
    · rw [h5 a fun x hx => ha x (List.mem_cons_of_mem _ hx), upd_ne (ha c List.mem_cons_self)]
/-- a dict of lists of positions, only read from here on -/
noncomputable def dictG (P : Program) (w : World) (m : Nat) (v : Nat → CK) : OwnT where
  rel := fun K B a o => ∃ fl l, o = dO P w fl a l ∧ (∀ j < m, ckOk fl (v j)) ∧ l.map (·.1) = metK v m ∧ ∀ e ∈ l, Dp K B e.2.1 (ckD e.1) ∧ Dp K B e.2.2 (.list (intsD (posK v m e.1)))
  mono := fun s ⟨fl, l, e, ok, hk, h⟩ => ⟨fl, l, e, ok, hk, fun x hx => ⟨dpSame s _ _ (h x hx).1, dpSame s _ _ (h x hx).2⟩⟩
noncomputable def tGrpBody (X : Cx) (i j k : Nat) : TS := tDrop (tBM X.K "list" rAppend (tSetd X (tVar i) (tVar k) (tLst tNil)) (tCons (tVar j) tNil))
noncomputable def dGrp (P : Program) (w : World) (i j k : Nat) (wi : DI) (u : DS) : DS := fun D ρ n => (i < ρ.length ∧ j < ρ.length ∧ k < ρ.length) ∧ ∃ fl, wi (ρ.set i none) n fun items n1 => ∃ (m : Nat) (v : Nat → CK), items = (List.range m).map (fun t => .tuple [.int (t : Int), ckD (v t)]) ∧ (∀ t < m, ckOk fl (v t)) ∧ m < sizeLine ∧
  u D (((ρ.set i (some (.own (dictG P w m v)))).set j none).set k none) n1
theorem set3 {ρ : DEnv} {i j k : Nat} {a : Option RV} (hij : i ≠ j) (hik : i ≠ k) : (((ρ.set i none).set j none).set k none).set i a = ((ρ.set i a).set j none).set k none := by
  rw [List.set_comm _ _ (Ne.symm hik), List.set_comm _ _ (Ne.symm hij), List.set_set]
theorem set2_get {ρ ρ' : DEnv} {j k m : Nat} (e : (ρ'.set j none).set k none = (ρ.set j none).set k none) (hj : m ≠ j) (hk : m ≠ k) : ρ'[m]? = ρ[m]? := by
  have := congrArg (fun r : DEnv => r[m]?) e
  rw [List.getElem?_set_ne (Ne.symm hk), List.getElem?_set_ne (Ne.symm hj), List.getElem?_set_ne (Ne.symm hk), List.getElem?_set_ne (Ne.symm hj)] at this
  exact this
theorem lss_grp {X : Cx} {E : Ent} {P : Program} {w : World} {i j k : Nat} {s1 : Stmt} {tg iter : Expr} {body rest : List Stmt} {wi : DI} {u : DS} {pos : Pos} (hP : X.prog = P) (hw : X.w = w) (hij : i ≠ j) (hik : i ≠ k) (hjk : j ≠ k)
    (hp : PassesOwn (model X.prog X.w) X.A X.env X.xe) (hc : X.calm = true) (h1 : PS X s1 (tAsg (tDNewO X) (gName i))) (hi : LI X tg iter wi) (hg : LG X tg [j, k] (gdTup 2 (gdCons (gdName j) (gdCons (gdName k) gdNil)))) (hb : PSs X body (tGrpBody X i j k)) (hr : LSs X E rest u)
    (hs : ∀ x, foldedSetIterable iter X.env x = pure x := by intro _; rfl) : LSs X E (s1 :: .For tg iter body [] pos :: rest) (dGrp P w i j k wi u) := pss_imp (pss_cons h1 (pss_cons (ps_for hp hc hi (lg_up hg) hb hs) hr)) fun D σ H hu => by
  subst hP hw
  obtain ⟨ρ, n, B, M, bxs, Dd, h, ⟨⟨li, lj, lk⟩, fl, w1⟩, q⟩ := hu
  refine ⟨fl, fun p hp => ?_⟩
  have own0 : ∀ (m : Nat) (r : RV), ρ[m]? = some (some r) → isOwn r → ∀ a : Addr, σ[m]? = some (some (.ref a)) → H a ≠ none := fun m r e o a e2 => by
    obtain ⟨u, e3, e4⟩ := h.env.val m _ e
    rw [e2] at e3
    cases e3
    obtain ⟨_, _, o, e5⟩ := own_at e4 o
    exact ne_none_of e5
  have fb := freshB h.g hp
  have hE := h.st.free hp
  have h1 := (h.poke (ob := dO X.prog X.w fl p []) fb.1 fb.2 hE (fun m r e o z => own0 m r e o p z hp)).shade i (some (.ref p))
  refine ⟨ρ.set i none, n, B, bxs, _, h1.g, h1.env, w1, fun items n1 B1 H1 J hq s1 ji => ?_⟩
  obtain ⟨m, v, ei, okv, hm, hq⟩ := hq
  have h2 := h1.step s1
  have hM : Same M B1 := h2.mb
  have h2' : SInv X.K E B1 n1 B1 H1 bxs (σ.set i (some (.ref p))) (ρ.set i none) := ⟨h2.st, Same.refl _, h2.g, h2.bs, h2.sup, h2.env, h2.ow⟩
  have fr1 : ∀ a, H1 a = none → H a = none := fun a ha => by
    have := s1.free ha
    by_cases e : a = p
    · rw [e]; exact hp
    · rw [upd_ne e] at this; exact this
  have pB1 : B1 p = none := by
    rw [s1.b3 p (by rw [upd_same]; exact fun z => nomatch z)]
    exact fb.2
  have il : items.length = m := by rw [ei, List.length_map, List.length_range]
  have ownP : ∀ (ρ' : DEnv) (σ' : L2.St), (ρ'.set j none).set k none = ((ρ.set i none).set j none).set k none → (∀ x : Nat, x ≠ j → x ≠ k → σ'[x]? = (σ.set i (some (.ref p)))[x]?) → ∀ (x : Nat) (r : RV), x ≠ j → x ≠ k → ρ'[x]? = some (some r) → isOwn r → ∀ a : Addr, σ'[x]? = some (some (.ref a)) → H a ≠ none := fun ρ' σ' eρ eσ x r nj nk e o a e2 => by
    rw [set2_get eρ nj nk] at e
    obtain ⟨e3, ni⟩ := unset e
    rw [eσ x nj nk, List.getElem?_set_ne ni] at e2
    exact own0 x r e3 o a e2
  have si1 : (σ.set i (some (.ref p)))[i]? = some (some (.ref p)) := List.getElem?_set_self (by rw [h.env.len]; exact li)
  refine ⟨fun t mm σ' H' => mm = m - t ∧ t ≤ m ∧ ∃ (ρ' : DEnv) (B' : Hp) (l : List (CK × V × V)) (f : CK → Addr), SInv X.K E B1 n1 B' H' bxs σ' ρ' ∧ GrpI X.prog X.w X.K fl p v t bxs H B' H' l f ∧ (∀ a, H' a = none → H a = none) ∧
    (ρ'.set j none).set k none = ((ρ.set i none).set j none).set k none ∧ ∀ x : Nat, x ≠ j → x ≠ k → σ'[x]? = (σ.set i (some (.ref p)))[x]?,
    ⟨_, rfl, Nat.zero_le _, _, B1, [], fun _ => p, h2', ⟨s1.h1 p _ fb.1 upd_same, rfl, (fun e he => nomatch he), pB1, (fun c hc => nomatch hc), fun c hc => nomatch hc⟩, fr1, rfl, fun _ _ _ => rfl⟩, ?_⟩
  rintro t mm σ' H' ⟨rfl, hle, ρ', B', l, f, hv, G, fr, eρ, eσ⟩
  have lρ : ρ'.length = ρ.length := by
    have := congrArg List.length eρ
    simpa using this
  by_cases hlt : t < m
  · refine .inr ⟨ji.go t H' (hv.mb.trans hv.g.sub) (by omega), fun σ2 H2 => ∃ (ρ' : DEnv) (B' : Hp) (l : List (CK × V × V)) (f : CK → Addr), SInv X.K E B1 n1 B' H2 bxs σ2 ρ' ∧ GrpI X.prog X.w X.K fl p v (t + 1) bxs H B' H2 l f ∧ (∀ a, H2 a = none → H a = none) ∧
      (ρ'.set j none).set k none = ((ρ.set i none).set j none).set k none ∧ ∀ x : Nat, x ≠ j → x ≠ k → σ2[x]? = (σ.set i (some (.ref p)))[x]?, fun σ2 H2 hn => ⟨m - (t + 1), by omega, rfl, hlt, hn⟩, fun xv Hy hy => ?_⟩
    have hz : items[t]? = some (.tuple [.int (t : Int), ckD (v t)]) := by rw [ei, List.getElem?_map, List.getElem?_range hlt]; rfl
    obtain ⟨By, sy, dx⟩ := yr_step hv.g hv.mb (ji.yld t H' xv Hy _ (hv.mb.trans hv.g.sub) hy hz)
    have hy' := hv.step sy
    refine ⟨bxs, n1, By, ρ', _, fun ρ2 => ρ2 = (ρ'.set j (some (.d (.int (t : Int))))).set k (some (.d (ckD (v t)))), hy'.g, hy'.env, dx, ⟨rfl, rfl⟩, fun σ2 ρ2 hq2 e2 u2 => ?_⟩
    subst hq2
    have i2 := hy'.upd e2 u2
    have eσ2 : ∀ x : Nat, x ≠ j → x ≠ k → σ2[x]? = (σ.set i (some (.ref p)))[x]? := fun x nj nk => by
      rw [u2.out x (by simp [nj, nk])]
      exact eσ x nj nk
    have eρ2 : (((ρ'.set j (some (.d (.int (t : Int))))).set k (some (.d (ckD (v t))))).set j none).set k none = ((ρ.set i none).set j none).set k none := by
      rw [List.set_comm (i := k) (j := j) _ _ (Ne.symm hjk), List.set_set, List.set_set]
      exact eρ
    have own2 : ∀ (x : Nat) (r : RV), ((ρ'.set j (some (.d (.int (t : Int))))).set k (some (.d (ckD (v t)))))[x]? = some (some r) → isOwn r → ∀ a : Addr, σ2[x]? = some (some (.ref a)) → H a ≠ none := fun x r e o a ea => by
      by_cases xk : x = k
      · subst xk
        rw [List.getElem?_set_self (by rw [List.length_set]; omega)] at e
        cases e
        exact o.elim
      · by_cases xj : x = j
        · subst xj
          rw [List.getElem?_set_ne (Ne.symm xk), List.getElem?_set_self (by omega)] at e
          cases e
          exact o.elim
        · exact ownP _ σ2 eρ2 eσ2 x r xj xk e o a ea
    have si : σ2[i]? = some (some (.ref p)) := by rw [eσ2 i hij hik]; exact si1
    obtain ⟨vj, sj, dj⟩ := e2.val j (.d (.int (t : Int))) (by rw [List.getElem?_set_ne (Ne.symm hjk)]; exact List.getElem?_set_self (by omega))
    obtain ⟨vk, sk, dk⟩ := e2.val k (.d (ckD (v t))) (List.getElem?_set_self (by rw [List.length_set]; omega))
    have dj' : Dp X.K By vj (.int (t : Int)) := dj
    cases dj'
    have dk' : Dp X.K By vk (ckD (v t)) := dk
    have yp : Hy p = some (dO X.prog X.w fl p l) := sy.h1 p _ fb.1 G.dict
    refine ⟨.ref p, si, p, fl, rfl, ⟨l, yp⟩, vk, sk, Nat.zero_le _, fun z hz0 => ?_⟩
    have sz : Same Hy (L2.upd Hy z (.lst [])) := sub_add hz0
    have zp : p ≠ z := ne_of_none yp hz0
    have zH : H z = none := fr z (sy.free hz0)
    have zE : E.H z = none := h.st.free zH
    have bz := freshB hy'.g hz0
    have hl : l.length ≤ t := by
      rw [← List.length_map (f := (·.1)), G.keys]
      exact metK_le v t
    have i3 := i2.poke (ob := .lst []) bz.1 bz.2 zE fun x r e o ea => own2 x r e o z ea zH
    have lists3 : ∀ c ∈ metK v t, f c ≠ z ∧ L2.upd Hy z (.lst []) (f c) = some (.lst (intsV (posK v t c))) := fun c hc => by
      obtain ⟨a1, a2, a3, a4, a5⟩ := G.lists c hc
      have y5 := sy.h1 _ _ a2 a5
      exact ⟨ne_of_none y5 hz0, sz _ _ y5⟩
    have entsY : ∀ e ∈ l, Dp X.K By e.2.1 (ckD e.1) ∧ e.2.2 = .ref (f e.1) := fun e he => ⟨dpSame sy.b1 _ _ (G.ents e he).1, (G.ents e he).2⟩
    have pBy : By p = none := by rw [sy.b3 p (ne_none_of G.dict)]; exact G.pB
    have bY : ∀ c ∈ metK v t, By (f c) = none := fun c hc => by
      obtain ⟨a1, a2, a3, a4, a5⟩ := G.lists c hc
      rw [sy.b3 _ (ne_none_of a5)]
      exact a3
    have fr3 : ∀ a, L2.upd Hy z (.lst []) a = none → H a = none := fun a ha => by
      by_cases e : a = z
      · rw [e]; exact zH
      · rw [upd_ne e] at ha; exact fr a (sy.free ha)
    refine ⟨l, v t, sz _ _ yp, fun e he => dpSame (hy'.g.sub.trans sz) _ _ (entsY e he).1, okv t hlt, dpSame (hy'.g.sub.trans sz) _ _ dk', by omega, fun v0 lk => ?_, fun lk => ?_⟩
    · obtain ⟨e, he, e1, e3⟩ := look_key lk
      have hc : v t ∈ metK v t := by rw [← G.keys, ← e1]; exact List.mem_map.mpr ⟨e, he, rfl⟩
      have ev : v0 = .ref (f (v t)) := by rw [← e3, (G.ents e he).2, e1]
      subst ev
      obtain ⟨a1, a2, a3, a4, a5⟩ := G.lists _ hc
      obtain ⟨nz, h35⟩ := lists3 _ hc
      have pl : (intsV (posK v t (v t))).length ≤ t := by
        rw [List.length_map]
        refine Nat.le_trans (List.length_filter_le _ _) ?_
        rw [List.length_range]
        exact Nat.le_refl _
      refine ⟨.inl ⟨rfl, _, .inl (.inl h35)⟩, .int (t : Int), sj, f (v t), _, .int (t : Int), rfl, rfl, h35, by omega, ?_⟩
      have mt : metK v (t + 1) = metK v t := metK_old hc
      refine ⟨_, By, l, f, i3.poke a2 (bY _ hc) (h.st.free a4) fun x r e o ea => own2 x r e o _ ea a4, ⟨?_, by rw [mt]; exact G.keys, entsY, pBy, fun c hc' => ?_, by rw [mt]; exact G.inj⟩, fun a ha => ?_, eρ2, eσ2⟩
      · rw [upd_ne (Ne.symm a1)]
        exact sz _ _ yp
      · rw [mt] at hc'
        obtain ⟨b1, b2, b3, b4, b5⟩ := G.lists c hc'
        refine ⟨b1, b2, bY c hc', b4, ?_⟩
        rw [posK_succ]
        by_cases ec : v t = c
        · subst ec
          rw [if_pos rfl, upd_same]
          unfold intsV
          rw [List.map_append]
          rfl
        · rw [if_neg ec, List.append_nil, upd_ne (fun q => ec (G.inj c hc' _ hc q).symm)]
          exact (lists3 c hc').2
      · by_cases e : a = f (v t)
        · rw [e]; exact a4
        · rw [upd_ne e] at ha; exact fr3 a ha
    · have hc : v t ∉ metK v t := by rw [← G.keys]; exact look_no lk
      have yz : L2.upd (L2.upd Hy z (.lst [])) p (dO X.prog X.w fl p (putV l (v t) vk (.ref z))) z = some (.lst []) := by
        rw [upd_ne (Ne.symm zp)]
        exact upd_same
      refine ⟨.inl ⟨rfl, _, .inl (.inl yz)⟩, .int (t : Int), sj, z, _, .int (t : Int), rfl, rfl, yz, by show 0 < sizeLine; decide, ?_⟩
      have mt : metK v (t + 1) = metK v t ++ [v t] := metK_more hc
      have i4 := (i3.poke (ob := dO X.prog X.w fl p (putV l (v t) vk (.ref z))) fb.1 pBy hE fun x r e o ea => own2 x r e o p ea hp).poke (ob := .lst [.int (t : Int)]) bz.1 bz.2 zE fun x r e o ea => own2 x r e o z ea zH
      have nc : ∀ c ∈ metK v t, c ≠ v t := fun c hc' e => hc (e ▸ hc')
      refine ⟨_, By, putV l (v t) vk (.ref z), fun c => if c = v t then z else f c, i4, ⟨?_, ?_, fun e he => ?_, pBy, fun c hc' => ?_, fun c hc' c' hc2 e => ?_⟩, fun a ha => ?_, eρ2, eσ2⟩
      · rw [upd_ne zp]
        exact upd_same
      · rw [putV_new lk, List.map_append, G.keys, mt]
        rfl
      · rw [putV_new lk] at he
        rcases List.mem_append.mp he with he | he
        · have ne : e.1 ≠ v t := nc _ (by rw [← G.keys]; exact List.mem_map.mpr ⟨e, he, rfl⟩)
          refine ⟨(entsY e he).1, ?_⟩
          rw [if_neg ne]
          exact (entsY e he).2
        · obtain rfl := List.mem_singleton.mp he
          refine ⟨dk', ?_⟩
          rw [if_pos rfl]
      · rw [mt] at hc'
        rcases List.mem_append.mp hc' with hc' | hc'
        · obtain ⟨b1, b2, b3, b4, b5⟩ := G.lists c hc'
          obtain ⟨l1, l2⟩ := lists3 c hc'
          rw [if_neg (nc c hc'), posK_succ, if_neg (Ne.symm (nc c hc')), List.append_nil, upd_ne l1, upd_ne b1]
          exact ⟨b1, b2, bY c hc', b4, l2⟩
        · obtain rfl := List.mem_singleton.mp hc'
          rw [if_pos rfl, posK_succ, if_pos rfl, posK_nil hc, upd_same]
          exact ⟨Ne.symm zp, bz.1, bz.2, zH, rfl⟩
      · rw [mt] at hc' hc2
        have znf : ∀ c ∈ metK v t, f c ≠ z := fun c hc => (lists3 c hc).1
        rcases List.mem_append.mp hc' with hc' | hc' <;> rcases List.mem_append.mp hc2 with hc2 | hc2
        · rw [if_neg (nc c hc'), if_neg (nc c' hc2)] at e
          exact G.inj c hc' c' hc2 e
        · obtain rfl := List.mem_singleton.mp hc2
          rw [if_neg (nc c hc'), if_pos rfl] at e
          exact absurd e (znf c hc')
        · obtain rfl := List.mem_singleton.mp hc'
          rw [if_pos rfl, if_neg (nc c' hc2)] at e
          exact absurd e.symm (znf c' hc2)
        · rw [List.mem_singleton.mp hc', List.mem_singleton.mp hc2]
      · by_cases e : a = z
        · rw [e]; exact zH
        · rw [upd_ne e] at ha
          by_cases e' : a = p
          · rw [e']; exact hp
          · rw [upd_ne e'] at ha
            exact fr3 a ha
  · obtain rfl : t = m := by omega
    refine .inl ⟨by rw [← il]; exact ji.stop H' (hv.mb.trans hv.g.sub), ?_⟩
    have hf := (hv.forget j).forget k
    rw [eρ] at hf
    have own3 : ∀ (x : Nat) (r : RV), (((ρ.set i none).set j none).set k none)[x]? = some (some r) → isOwn r → ∀ a : Addr, σ'[x]? = some (some (.ref a)) → H a ≠ none := fun x r e o a ea => by
      obtain ⟨e1, n1⟩ := unset e
      obtain ⟨e2, n2⟩ := unset e1
      exact ownP _ σ' rfl eσ x r (Ne.symm n2) (Ne.symm n1) e2 o a ea
    obtain ⟨B2, h4, sb, hl4, hb4⟩ := adoptAll (f := f) (g := fun c => .lst (intsV (posK v t c))) (metK v t) B' hf (metK_nd v t) G.inj (fun c hc => by
      obtain ⟨b1, b2, b3, b4, b5⟩ := G.lists c hc
      exact ⟨b2, b3, h.st.free b4, b5⟩) fun c hc x r e o ea => own3 x r e o _ ea (G.lists c hc).2.2.2.1
    have h5 := h4.claim (i := i) (p := p) (T := dictG X.prog X.w t v) (by rw [eσ i hij hik]; exact si1) ⟨p, _, rfl, fb.1, by rw [hb4 p fun c hc => Ne.symm (G.lists c hc).1]; exact G.pB, G.dict, fl, l, rfl, okv, G.keys, fun e he => by
      obtain ⟨d1, d2⟩ := G.ents e he
      refine ⟨dpSame sb _ _ d1, ?_⟩
      rw [d2]
      exact .lst (.inl (.inl (hl4 e.1 (by rw [← G.keys]; exact List.mem_map.mpr ⟨e, he, rfl⟩)))) (intsV_dp _)⟩ hE fun x r e o _ ea => own3 x r e o p ea hp
    rw [set3 hij hik] at h5
    exact ⟨_, n1, B2, M, bxs, Dd, h5.weak hM, hq, q⟩
end Dl

namespace Dl
open PySem PySem.Spec PyProof.Rows L2
/-! ### sorted(d), d[k] of a dict of lists -/
section
open PySem.W
theorem each_of_at {α β : Type} {R : α → β → Prop} : ∀ {us : List α} {bs : List β}, us.length = bs.length → (∀ (j : Nat) u b, us[j]? = some u → bs[j]? = some b → R u b) → EachIs R us bs
  | [], [], _, _ => .nil
  | [], _ :: _, h, _ => by simp at h
  | _ :: _, [], h, _ => by simp at h
  | u :: us, b :: bs, h, f => .cons (f 0 u b rfl rfl) (each_of_at (by simpa using h) fun j x y h1 h2 => f (j + 1) x y (by simpa using h1) (by simpa using h2))
section
variable {P : Program} {w : World} {A : Around} {E : Value → Shared → Prop} {s : Shared} {a d : Addr} {T : String} {n : Nat} {Pv : Nat → Value → Prop} {OK : Heap → Prop}
theorem sorted_kdl {Q : Value → Shared → Prop} {β : Type} {R : Value → β → Prop} {enc : β → PyData} {bs : List β} (S : KdlSrc P w T a d n Pv OK) (hok : OK s.heap) (hn : n ≤ sizeLine) (hh : A.handled = none) (e : ∀ acc, ItemsOf Pv acc n → EachIs (fun u b => R u b ∧ Reads s.heap u (enc b) []) acc.toList bs)
    (hal : AllAlike (bs.map enc)) (hk : PySem.W.Sortable (bs.map enc)) (hu : ∀ b ∈ bs, A.units + 2 + (enc b).depth < cLine)
    (q : ∀ (s' : Shared) (p : Addr) (out : List Value) (c : Nat), EachIs R out (bs.mergeSort (dataLe false enc)) → (∀ b o, s.heap.get? b = some o → s'.heap.get? b = some o) → s'.gens = s.gens → s'.os = s.os → s.heap.get? p = none →
      s'.heap.get? p = some (seqObj "list" out.toArray c) → Q (.ref p) s') : wpAny (model P w) A (call (.builtin "sorted") [.ref a]) Q E s := by
  refine Calls.call_function_entry kind_sorted plain_sorted entry_sorted (args_sorted1 _) ?_
  unfold Builtin.«sorted»
  refine wpAny_bind (m := checkCount "sorted" 1 1 _) (wpAny_pure ?_)
  refine wpAny_bind (kdu_collect (A := A.in1) S hh hok hn fun h1 tk acc k1 it => ?_)
  have e1 := e acc it
  have lv : acc.toList.length ≤ sizeLine := by rw [Array.length_toList, it.1]; exact hn
  refine wpAny_bind (wpAny_newList ?_ (by simpa using lv))
  have hz : s.heap.get? h1.objs.size = none := by
    cases z : s.heap.get? h1.objs.size with
    | none => rfl
    | some o => exact absurd (Heap.lt_size (k1 _ _ z)) (Nat.lt_irrefl _)
  have hoL : (h1.push (seqObj "list" acc.toList.toArray 0)).get? h1.objs.size = some (seqObj "list" acc.toList.toArray 0) := Heap.get?_push_size _ rfl
  refine wpAny_bind (wpAny_holding (list_sort_data (R := R) (bs := bs) (enc := enc) (s := { s with heap := h1.push (seqObj "list" acc.toList.toArray 0), toks := tk }) hoL (e1.mono fun _ _ x => x.1) (e1.mono fun _ _ x => ⟨[], PyProof.Rows.Reads.keeps (fun b o q => Heap.get?_push_of_some _ (k1 b o q)) x.2, by simp⟩) hal hk
    (by rw [← e1.length]; exact lv) (fun b hb => hu b hb) fun out lo eo => ?_))
  obtain ⟨c, hc⟩ := sortedHeap_at (vs := acc.toList) (out := out.toArray) hoL
  refine wpAny_pure ⟨_, rfl, q _ h1.objs.size out c eo (fun b u z => ?_) rfl rfl hz hc⟩
  have z1 := k1 b u z
  have hlt := Heap.lt_size z1
  show (sortedHeap (h1.push (seqObj "list" acc.toList.toArray 0)) h1.objs.size acc.toList out.toArray).get? b = some u
  rw [sortedHeap_old (Nat.ne_of_lt hlt) (by rw [size_push']; exact Nat.lt_succ_of_lt hlt)]
  exact Heap.get?_push_of_some _ z1
end
theorem Paired.at_right {α β : Type} {F : α → β → Prop} : ∀ {l : List α} {m : List β}, Paired F l m → ∀ {j : Nat} {b : β}, m[j]? = some b → ∃ a, l[j]? = some a ∧ F a b
  | _, _, .nil, j, b, h => by simp at h
  | _, _, .cons h r, 0, b, e => by cases e; exact ⟨_, rfl, h⟩
  | _, _, .cons h r, j + 1, b, e => by
    obtain ⟨a, h1, h2⟩ := Dl.Paired.at_right r (by simpa using e)
    exact ⟨a, by simpa using h1, h2⟩
variable {X : Cx}
noncomputable def rSortO (X : Cx) : List V → Hp → VK → Prop := fun xs H Q => ∃ a fl l B, xs = [.ref a] ∧ H a = some (dO X.prog X.w fl a l) ∧ Same B H ∧ (∀ p ∈ l, Dl.Dp X.K B p.2.1 (ckD p.1)) ∧ OneKind (l.map fun p => ckD p.1) ∧ ∀ z vs, H z = none → Dl.DpAll X.K B vs (sortD (l.map fun p => ckD p.1)) → Q (.ref z) (upd H z (.lst vs))
theorem call_sortO (hc : X.calm = true) (hu : X.A.units + 65 < cLine) : CallR X (.builtin "sorted") (rSortO X) := by
  intro pins s σ H xs us0 Q I r h
  obtain ⟨a, fl, l, B, rfl, ha, sb, ks, ok, q⟩ := h
  obtain ⟨u, rfl, rx⟩ := vals1 r
  cases rx
  have fin : ∀ (s' : Shared) (z : Addr) (out : List Value) (c : Nat), EachIs (fun u d => ∃ v, RelV v u ∧ Dl.Dp X.K B v d) out (sortD (l.map fun p => ckD p.1)) → (∀ b o, s.heap.get? b = some o → s'.heap.get? b = some o) → s'.gens = s.gens → s'.os = s.os → s.heap.get? z = none →
      s'.heap.get? z = some (seqObj "list" out.toArray c) → l.length ≤ sizeLine → EP X pins σ Q (.ref z) s' := fun s' z out c eo k g o hz hp hl => by
    obtain ⟨vs, v1, v2⟩ := each_dp eo
    have hn : H z = none := by
      cases e : H z with
      | none => rfl
      | some o =>
        obtain ⟨q, hq⟩ := objOk_get (I.hok z o e)
        rw [hz] at hq
        cases hq
    have hlen : vs.length ≤ sizeLine := by
      rw [v1.length, eo.length]
      unfold sortD
      rw [List.length_mergeSort, List.length_map]
      exact hl
    have J : Inv X pins σ (upd H z (.lst vs)) { s with heap := s'.heap, gens := s'.gens, drawn := s'.drawn, toks := s'.toks } :=
      I.call (ch := []) (Un.laidN k hz hn) (I.hok.laidN k hn ⟨hlen, out, c, v1, hp⟩) (by rw [g]; exact I.bare) (fun _ z => nomatch z)
    have es : s' = { s with heap := s'.heap, gens := s'.gens, drawn := s'.drawn, toks := s'.toks } := by
      cases s'
      cases o
      rfl
    rw [es]
    exact ⟨.ref z, _, J, rfl, q z vs hn v2⟩
  have dep : ∀ d ∈ l.map (fun p => ckD p.1), X.A.units + 2 + (id d).depth < cLine := fun d hd => by
    have := ok.depth d hd
    show _ + 2 + d.depth < _
    omega
  have rd : ∀ (u : Value) (d : PyData), d ∈ l.map (fun p => ckD p.1) → (∃ v, RelV v u ∧ Dl.Dp X.K B v d) → (∃ v, RelV v u ∧ Dl.Dp X.K B v d) ∧ Reads s.heap u (id d) [] := fun u d hd h => ⟨h, reads_one I sb ok hd h⟩
  obtain ⟨zl, hd, ⟨f, vs, rel, dd⟩ | ⟨f, xs, rel, o, es, ep, ho, hx, hdt, hes, nd⟩⟩ := dO_at I ha
  · obtain ⟨ep, hat⟩ := dd.dictAt
    have hl : l.length = vs.length := Paired.length rel
    refine sorted_kdl (enc := id) (R := fun u d => ∃ v, RelV v u ∧ Dl.Dp X.K B v d) (kdl_dict (knd := mixKind X.prog X.w) (kvs := vs) (ep := ep) hd) hat (by rw [← hl]; exact zl) (I.ok.hd hc) (fun acc it => each_of_at ?_ fun j u d h1 h2 => ?_) ok.alike ok.sortable dep fun s' z out c eo k g o hz hp => fin s' z out c eo k g o hz hp zl
    · rw [Array.length_toList, it.1, List.length_map, hl]
    · obtain ⟨k, x, hk, hi⟩ := it.2 j u (by rw [← Array.getElem?_toList]; exact h1)
      have hd' := List.mem_of_getElem? h2
      refine rd u d hd' ?_
      have e : ∃ p : CK × V × V, l[j]? = some p ∧ p.1 = .inl k := by
        obtain ⟨p, hp1, hp2⟩ := Dl.Paired.at_right rel hk
        exact ⟨p, hp1, hp2.1⟩
      obtain ⟨p, hp, ep⟩ := e
      rw [List.getElem?_map, hp] at h2
      cases h2
      dsimp only
      rw [ep]
      exact ⟨kV k, keyIs_rel hi, kD_dpV k⟩
  · have l1 : es.size = xs.length := size_of_entries hes
    have hl : l.length = xs.length := Paired.length rel
    refine sorted_kdl (enc := id) (R := fun u d => ∃ v, RelV v u ∧ Dl.Dp X.K B v d) (kdl_raw hd hx hdt) ho (by rw [l1, ← hl]; exact zl) (I.ok.hd hc) (fun acc it => each_of_at ?_ fun j u d h1 h2 => ?_) ok.alike ok.sortable dep fun s' z out c eo k g o hz hp => fin s' z out c eo k g o hz hp zl
    · rw [Array.length_toList, it.1, List.length_map, hl, l1]
    · obtain ⟨en, hen, hv⟩ := it.2 j u (by rw [← Array.getElem?_toList]; exact h1)
      have hd' := List.mem_of_getElem? h2
      refine rd u d hd' ?_
      have qe := entry_at hes j
      rw [hen] at qe
      cases hb : xs[j]? with
      | none =>
        rw [hb] at qe
        exact nomatch (show some en = none from qe)
      | some x =>
        rw [hb] at qe
        have e2 : en = entryOfKey (nestedKind X.prog X.w) x := Option.some.inj qe
        obtain ⟨p, hp1, k, p1, p2, p3, p4⟩ := Dl.Paired.at_right rel hb
        have hdp := ks p (List.mem_of_getElem? hp1)
        rw [List.getElem?_map, hp1] at h2
        cases h2
        refine ⟨p.2.1, ?_, hdp⟩
        rw [p3, hv, e2]
        rfl
theorem ix_dO (hu : X.A.units + 9 < cLine) : IxR X (fun x y H Q => ∃ a fl l k v, x = .ref a ∧ H a = some (dO X.prog X.w fl a l) ∧ KeysIn X.K H l ∧ ckOk fl k ∧ Dl.Dp X.K H y (ckD k) ∧ lookV l k = some v ∧ Q v H) := by
  intro value slice pins s σ H x y v u Q I rx ry h hs
  obtain ⟨a, fl, l, k, r, rfl, ha, ks, ok, dy, lk, q⟩ := h
  obtain rfl : v = Value.ref a := rx
  have hx := dO_at I ha
  refine tail_any (dO_type hx).1 slot_dict_getitem.lookup ?_ hs
  obtain ⟨zl, hd, ⟨f, vs, rel, dd⟩ | ⟨f, xs, rel, sh⟩⟩ := hx
  · subst f
    cases k with
    | inr k => exact ok.elim
    | inl k =>
      have ey := kD_dp dy
      subst ey
      have ro := rel.val k
      rw [lk] at ro
      cases hv : valueAt vs k with
      | none => rw [hv] at ro; exact ro.elim
      | some v0 =>
        rw [hv] at ro
        exact wpAny_getItem_of (kV_is ry) dd.mapOf hv ⟨r, H, I.tok _, ro, q⟩
  · subst f
    cases k with
    | inl k => exact ok.elim
    | inr k =>
      obtain ⟨b, rfl⟩ := cpd_ref dy
      cases (show u = Value.ref b from ry)
      have ro := rel.val k
      rw [lk] at ro
      cases hv : atKey xs (ckey k) with
      | none => rw [hv] at ro; exact ro.elim
      | some p =>
        rw [hv] at ro
        exact wpAny_getItem_heap (knd := nestedKind X.prog X.w) (show X.A.in1.units + 8 < cLine from hu) (key_in I dy) (shape_full I ks rel sh) hv ⟨r, H, I.tok _, ro, q⟩
noncomputable def dSortO (P : Program) (w : World) (i : Nat) : DE := fun ρ n Q => ∃ v m, ρ[i]? = some (some (.own (dictG P w m v))) ∧ OneKind ((metK v m).map ckD) ∧ Q (.new (sortD ((metK v m).map ckD))) n
noncomputable def dDIx (P : Program) (w : World) (i : Nat) (we : DE) : DE := fun ρ n Q => ∃ v m, ρ[i]? = some (some (.own (dictG P w m v))) ∧ we ρ n fun r n1 => ∃ j, j < m ∧ r = .d (ckD (v j)) ∧ Q (.d (.list (intsD (posK v m (v j))))) n1
theorem le_sortO (P : Program) (w : World) (i : Nat) {x : Str} {p p1 pos : Pos} (hc : X.calm = true) (hu : X.A.units + 65 < cLine) (hg : Gl X "sorted") (hm : X.mg "sorted" = none) (hN : X.N[i]? = some x := by rfl) (hv : Vis X.env.scope x := by first | exact Or.inl rfl | exact Or.inr (Or.inl rfl) | exact Or.inr (Or.inr rfl)) (hd : (x == ("__debug__" : Str)) = false := by decide)
    (hcd : (x == ("__classdict__" : Str)) = false := by decide) (hs : starEach [.Name x p1] X.env = (false, eval (.Name x p1) X.env) :: starEach [] X.env := by rfl) (hP : X.prog = P := by rfl) (hw : X.w = w := by rfl) :
    LE X (.Call (.Name "sorted" p) [.Name x p1] [] pos) (dSortO P w i) := pe_imp (pe_callB (call_sortO hc hu) hg hm (by decide +kernel) (pa_cons (pe_var hN hv hd hcd) pa_nil hs) (he := hs)) fun σ H Q hu => by
  subst hP hw
  obtain ⟨ρ, n, B, bxs, Qd, g, en, ⟨v, m, hi, ok, w1⟩, q⟩ := hu
  obtain ⟨u, hs, a, ob, rfl, a1, a2, a3, fl, l, rfl, okv, hk, hl⟩ := en.val i _ hi
  have el : (l.map fun p => ckD p.1) = (metK v m).map ckD := by rw [← hk, List.map_map]; rfl
  refine ⟨.ref a, hs, a, fl, l, B, rfl, a3, g.sub, fun p hp => (hl p hp).1, by rw [el]; exact ok, fun z vs nz dz => ?_⟩
  rw [el] at dz
  have fb := freshB g nz
  exact q _ _ _ _ _ w1 (g.refl.lay0 nz) ⟨z, _, rfl, fb.1, fb.2, upd_same, dz⟩ ⟨z, rfl, nz⟩
theorem le_dix (P : Program) (w : World) (i : Nat) {x : Str} {e : Expr} {we : DE} {p1 pos : Pos} (hu : X.A.units + 9 < cLine) (he : LE X e we) (hN : X.N[i]? = some x := by rfl) (hv : Vis X.env.scope x := by first | exact Or.inl rfl | exact Or.inr (Or.inl rfl) | exact Or.inr (Or.inr rfl)) (hd : (x == ("__debug__" : Str)) = false := by decide)
    (hcd : (x == ("__classdict__" : Str)) = false := by decide) (hs : PlainIx e := by exact fun _ _ => rfl) (hP : X.prog = P := by rfl) (hw : X.w = w := by rfl) :
    LE X (.Subscript (.Name x p1) e pos) (dDIx P w i we) := pe_imp (pe_ix (ix_dO hu) (pe_var hN hv hd hcd) he hs) fun σ H Q hu => by
  subst hP hw
  obtain ⟨ρ, n, B, bxs, Qd, g, en, ⟨v, m, hi, w1⟩, q⟩ := hu
  obtain ⟨u, hs, a, ob, rfl, a1, a2, a3, fl, l, rfl, okv, hk, hl⟩ := en.val i _ hi
  refine ⟨.ref a, hs, ρ, n, B, bxs, _, g, en, w1, fun r n1 v1 B1 H1 ⟨j, hj, e1, w2⟩ s1 v1r f1 => ?_⟩
  subst e1
  have g1 := g.step s1
  obtain ⟨r, lk⟩ := look_yes (l := l) (c := v j) (by rw [hk]; exact metK_has hj)
  obtain ⟨en', he', e1, e2⟩ := look_key lk
  refine ⟨a, fl, l, v j, r, rfl, s1.h1 a _ a1 a3, fun p hp => dpSame (s1.b1.trans g1.sub) _ _ (hl p hp).1, okv j hj, dpSame g1.sub _ _ v1r, lk, q _ _ _ _ _ w2 s1 ?_ trivial⟩
  have := (hl en' he').2
  rw [e1, e2] at this
  exact dpSame s1.b1 _ _ this
theorem un9 {A : Around} (h : A.units + 65 < cLine) : A.units + 9 < cLine := by omega
end
end Dl

namespace Dl
open PySem PySem.Spec PyProof.Rows L2
/-! ### dicts of data: cells to data, in the order of insertion -/
noncomputable abbrev AL := List (CK × PyData)
noncomputable def lookA (l : AL) (k : CK) : Option PyData := (l.find? fun p => decide (p.1 = k)).map (·.2)
noncomputable def putA (l : AL) (k : CK) (z : PyData) : AL := if (lookA l k).isSome then l.map (fun p => if p.1 = k then (p.1, z) else p) else l ++ [(k, z)]
noncomputable abbrev RelA (K : PySem.W.Frag) (B : Hp) : List (CK × V × V) → AL → Prop := Paired fun p q => p.1 = q.1 ∧ Dl.Dp K B p.2.1 (ckD p.1) ∧ Dl.Dp K B p.2.2 q.2
theorem RelA.mono {K : PySem.W.Frag} {B B' : Hp} (s : Same B B') {l : List (CK × V × V)} {al : AL} (h : RelA K B l al) : RelA K B' l al := by
  induction h with
  | nil => exact .nil
  | cons h _ ih => exact .cons ⟨h.1, dpSame s _ _ h.2.1, dpSame s _ _ h.2.2⟩ ih
theorem RelA.look {K : PySem.W.Frag} {B : Hp} {l : List (CK × V × V)} {al : AL} (h : RelA K B l al) (k : CK) : OR K B (lookV l k) (lookA al k) := by
  induction h with
  | nil => exact True.intro
  | cons h _ ih =>
    rename_i p q l al _
    unfold lookV lookA
    rw [List.find?_cons, List.find?_cons, h.1]
    by_cases e : q.1 = k
    · rw [decide_eq_true e]
      exact h.2.2
    · rw [decide_eq_false e]
      exact ih
theorem OR.isSome {K : PySem.W.Frag} {B : Hp} {v : Option V} {x : Option PyData} (h : OR K B v x) : v.isSome = x.isSome := by
  cases v <;> cases x <;> first | rfl | exact h.elim
theorem RelA.put {K : PySem.W.Frag} {B : Hp} {l : List (CK × V × V)} {al : AL} (h : RelA K B l al) (k : CK) {y z : V} {x : PyData} (hy : Dl.Dp K B y (ckD k)) (hz : Dl.Dp K B z x) : RelA K B (putV l k y z) (putA al k x) := by
  unfold putV putA
  rw [(h.look k).isSome]
  by_cases e : (lookA al k).isSome = true
  · rw [if_pos e, if_pos e]
    clear e
    induction h with
    | nil => exact .nil
    | cons h _ ih =>
      rename_i p q l al _
      refine .cons ?_ ih
      dsimp only
      rw [h.1]
      by_cases e : q.1 = k
      · rw [if_pos e, if_pos e]
        exact ⟨rfl, by rw [← h.1]; exact h.2.1, hz⟩
      · rw [if_neg e, if_neg e]
        exact h
  · rw [if_neg e, if_neg e]
    exact Paired.snoc h ⟨rfl, hy, hz⟩
theorem RelA.keysIn {K : PySem.W.Frag} {B H : Hp} {l : List (CK × V × V)} {al : AL} (h : RelA K B l al) (s : Same B H) : KeysIn K H l := by
  induction h with
  | nil => intro p hp; cases hp
  | cons h _ ih =>
    intro p hp
    rcases List.mem_cons.mp hp with e | e
    · subst e; exact dpSame s _ _ h.2.1
    · exact ih p e
/-- a dict of data -/
noncomputable def dictL (P : Program) (w : World) (fl : Bool) (al : AL) : OwnT where
  rel := fun K B a o => ∃ l, o = dO P w fl a l ∧ RelA K B l al
  mono := fun s ⟨l, e, h⟩ => ⟨l, e, h.mono s⟩
section
variable {X : Cx} {pins : List (Addr × Obj)} {σ : L2.St} {H : Hp} {s : Shared} {a : Addr} {fl : Bool} {l : List (CK × V × V)} {A : Around} {E : Value → Shared → Prop} {k : CK} {y z : V} {u r : Value}
/-- d.get(y, z) -/
theorem dO_get {Q : Value → Shared → Prop} (hu : A.units + 9 < cLine) (I : Inv X pins σ H s) (e : H a = some (dO X.prog X.w fl a l)) (ks : KeysIn X.K H l) (ok : ckOk fl k) (hy : Dp X.K H y (ckD k)) (ry : RelV y u) (rz : RelV z r)
    (h1 : ∀ w' s', Inv X pins σ H s' → RelV ((lookV l k).getD z) w' → Q w' s') :
    wpAny (model X.prog X.w) A (call (.builtin "dict.get") [.ref a, u, r]) Q E s := by
  obtain ⟨zl, hd, ⟨f, vs, rel, dd⟩ | ⟨f, xs, rel, sh⟩⟩ := dO_at I e
  · subst f
    cases k with
    | inr k => exact ok.elim
    | inl k =>
      have ey := kD_dp hy
      subst ey
      refine call_meetsIn PySem.F.slot_dict_get dd.typeIs PySem.F.entry_dict_get (PySem.F.args_dict_get_3 _ _ _) (meets_dict_get_default (mixKind X.prog X.w) a (kV_is ry) hd r) ⟨_, dd.mapOf, h1 _ _ (I.tok _) ?_⟩
      have ro := rel.val k
      cases lk : lookV l (.inl k) with
      | none =>
        rw [lk] at ro
        cases hv : valueAt vs k with
        | none => exact rz
        | some v0 => rw [hv] at ro; exact ro.elim
      | some v0 =>
        rw [lk] at ro
        cases hv : valueAt vs k with
        | none => rw [hv] at ro; exact ro.elim
        | some v1 => rw [hv] at ro; exact ro
  · subst f
    cases k with
    | inl k => exact ok.elim
    | inr k =>
      obtain ⟨b, rfl⟩ := cpd_ref hy
      cases (show u = Value.ref b from ry)
      have sf := shape_full I ks rel sh
      refine call_meetsIn PySem.F.slot_dict_get sf.typeIs PySem.F.entry_dict_get (PySem.F.args_dict_get_3 _ _ _) (meetsH_dict_get_default (nestedKind X.prog X.w) a b hd r) ⟨(show A.in1.units + 8 < cLine from hu), _, xs, key_in I hy, sf, h1 _ _ (I.tok _) ?_⟩
      have ro := rel.val k
      cases lk : lookV l (.inr k) with
      | none =>
        rw [lk] at ro
        cases hv : atKey xs (ckey k) with
        | none => exact rz
        | some v0 => rw [hv] at ro; exact ro.elim
      | some v0 =>
        rw [lk] at ro
        cases hv : atKey xs (ckey k) with
        | none => rw [hv] at ro; exact ro.elim
        | some v1 => rw [hv] at ro; exact ro
end
noncomputable def tOGet2 (X : Cx) (td ty tx : TE) : TE := fun σ H Q => td σ H fun x H1 => ∃ a fl, x = .ref a ∧ (∃ l, H1 a = some (dO X.prog X.w fl a l)) ∧ ty σ H1 fun y H2 => tx σ H2 fun z H3 => ∃ l k, H3 a = some (dO X.prog X.w fl a l) ∧ KeysIn X.K H3 l ∧ ckOk fl k ∧ Dp X.K H3 y (ckD k) ∧ Q ((lookV l k).getD z) H3
section
variable {X : Cx} {o i e f value : Expr} {pos pos' apos cpos : Pos} {td ty tx tv : TE}
theorem pe_oget2 (hu : X.A.units + 9 < cLine) (ho : PE X o td) (he : PE X e ty) (hf : PE X f tx) (m : M2 X o "get" apos e f cpos) : PE X (.Call (.Attribute o "get" apos) [e, f] [] cpos) (tOGet2 X td ty tx) := by
  refine ⟨fun pins s σ H Q I h => ?_⟩
  refine wpAny_Call_method m.base m.few m.line PySem.F.plainAttrs_dict PySem.F.slot_dict_get PySem.F.type_dict_get (thn (ho.run pins s σ H _ I h) fun u s1 ⟨x, H1, I1, rx, a, fl, ex, ⟨l0, d⟩, q1⟩ => ?_)
  subst ex
  obtain rfl : u = Value.ref a := rx
  obtain ⟨t1, t2⟩ := dO_type (dO_at I1 d)
  refine ⟨t1, t2, ?_⟩
  rw [m.trees]
  refine Calls.callWith_builtin rfl (Calls.evalArgs_plain (Calls.spliced_cons (thn (he.run pins s1 σ H1 _ I1 q1) fun iv s2 ⟨y, H2, I2, ry, q2⟩ =>
    Calls.spliced_cons (thn (hf.run pins s2 σ H2 _ I2 q2) fun fv s3 ⟨z, H3, I3, rz, l, k, e3, ks, ok, dy, q3⟩ => Calls.spliced_nil ?_))))
  exact dO_get hu I3 e3 ks ok dy ry rz fun w' s' J r => ⟨_, H3, J, r, q3⟩
end
noncomputable def dLNew (P : Program) (w : World) : DE := fun _ n Q => ∃ fl, Q (.own (dictL P w fl [])) n
noncomputable def dLGet (P : Program) (w : World) (i : Nat) (wk wx : DE) : DE := fun ρ n Q => ∃ fl al, ρ[i]? = some (some (.own (dictL P w fl al))) ∧ wk ρ n fun r n1 => wx ρ n1 fun r2 n2 => ∃ k y, r = .d (ckD k) ∧ ckOk fl k ∧ r2 = .d y ∧ Q (.d ((lookA al k).getD y)) n2
noncomputable def dLIx (P : Program) (w : World) (i : Nat) (wk : DE) : DE := fun ρ n Q => ∃ fl al, ρ[i]? = some (some (.own (dictL P w fl al))) ∧ wk ρ n fun r n1 => ∃ k y, r = .d (ckD k) ∧ ckOk fl k ∧ lookA al k = some y ∧ Q (.d y) n1
noncomputable def dLPut (P : Program) (w : World) (i : Nat) (wk wv : DE) : DS := fun D ρ n => ∃ fl al, ρ[i]? = some (some (.own (dictL P w fl al))) ∧ al.length < sizeLine ∧ wv ρ n fun rv n1 => onO (dat rv) fun y => wk ρ n1 fun rk n2 => ∃ k, rk = .d (ckD k) ∧ ckOk fl k ∧ D.nx (ρ.set i (some (.own (dictL P w fl (putA al k y))))) n2
section
variable {X : Cx} {E : Ent} {x : Str} {o e f value : Expr} {pos pos' apos cpos p1 p2 : Pos} {wk wx wv : DE}
theorem le_lget (P : Program) (w : World) (i : Nat) (hu : X.A.units + 9 < cLine) (hk : LE X e wk) (hx : LE X f wx) (m : M2 X (.Name x p1) "get" apos e f cpos := by exact ⟨rfl, rfl, rfl, rfl⟩) (hN : X.N[i]? = some x := by rfl) (hv : Vis X.env.scope x := by first | exact Or.inl rfl | exact Or.inr (Or.inl rfl) | exact Or.inr (Or.inr rfl)) (hd : (x == ("__debug__" : Str)) = false := by decide)
    (hcd : (x == ("__classdict__" : Str)) = false := by decide) (hP : X.prog = P := by rfl) (hw : X.w = w := by rfl) : LE X (.Call (.Attribute (.Name x p1) "get" apos) [e, f] [] cpos) (dLGet P w i wk wx) := pe_imp (pe_oget2 hu (pe_var hN hv hd hcd) hk hx m) fun σ H Q hu => by
  subst hP hw
  obtain ⟨ρ, n, B, bxs, Qd, g, en, ⟨fl, al, hi, w1⟩, q⟩ := hu
  obtain ⟨v, hs, p, ob, rfl, a1, a2, a3, l, rfl, hr⟩ := en.val i _ hi
  refine ⟨.ref p, hs, p, fl, rfl, ⟨l, a3⟩, ρ, n, B, bxs, _, g, en, w1, fun r n1 v1 B1 H1 w2 s1 v1r f1 => ?_⟩
  refine ⟨ρ, n1, B1, bxs, _, g.step s1, en.step s1, w2, fun r2 n2 v2 B2 H2 ⟨k, y, e1, ok, e2, w3⟩ s2 v2r f2 => ?_⟩
  subst e1 e2
  have s12 := s1.trans s2
  have g2 := g.step s12
  have hk2 : Dp X.K B1 v1 (ckD k) := v1r
  refine ⟨l, k, s12.h1 p _ a1 a3, hr.keysIn (s12.b1.trans g2.sub), ok, dpSame (s2.b1.trans g2.sub) _ _ hk2, q _ _ _ _ _ w3 s12 ?_ trivial⟩
  exact ((hr.look k).mono s12.b1).getD v2r
end
end Dl

namespace Dl
open PySem PySem.Spec PyProof.Rows L2
/-! ### a name's own thing is handed back -/
section
variable {X : Cx} {E : Ent} {x : Str} {p1 pos : Pos}
noncomputable def dRetOwn (i : Nat) : DS := fun D ρ n => ∃ T, ρ[i]? = some (some (.own T)) ∧ D.rt (.own T) n
end
/-! ### d.values() of a dict that was handed back -/
noncomputable def dValsO (P : Program) (w : World) (we : DE) : DI := fun ρ n Q => we ρ n fun r n1 => ∃ fl al, r = .own (dictL P w fl al) ∧ Q (al.map (·.2)) n1
/-! ### dict(pairs) -/
noncomputable def pairD (p : CK × PyData) : PyData := .tuple [ckD p.1, p.2]
noncomputable def foldA (ps : AL) : AL := ps.foldl (fun acc p => putA acc p.1 p.2) []
structure DItem where
  T : Addr
  k : CK
  kv : V
  vv : V
  ku : Value
  vu : Value
  y : PyData
structure DItem.Ok (K : PySem.W.Frag) (B : Hp) (h : Heap) (d : DItem) : Prop where
  at_ : PairAt h d.T d.ku d.vu
  rk : RelV d.kv d.ku
  rv : RelV d.vv d.vu
  dk : Dl.Dp K B d.kv (ckD d.k)
  dv : Dl.Dp K B d.vv d.y
theorem items_of {X : Cx} {pins : List (Addr × Obj)} {σ : L2.St} {H B : Hp} {s : Shared} (I : Inv X pins σ H s) (sb : Same B H) : ∀ {ps : AL} {vs : List V}, Dl.DpAll X.K B vs (ps.map pairD) →
    ∃ ds : List DItem, vs = ds.map (fun d => V.ref d.T) ∧ ps = ds.map (fun d => (d.k, d.y)) ∧ ∀ d ∈ ds, d.Ok X.K B s.heap
  | [], _, h => by cases h; exact ⟨[], rfl, rfl, fun d hd => nomatch hd⟩
  | p :: ps, _, h => by
    cases h with
    | cons h1 h2 =>
      obtain ⟨ds, e1, e2, e3⟩ := items_of I sb h2
      obtain ⟨T, us, rfl, t1, t2⟩ := DpV.tuple (H := H) (show DpV X.K B H _ (.tuple [ckD p.1, p.2]) from .inl h1) sb
      obtain ⟨its, rr, ⟨o, ho, hc, n, hdt⟩, _⟩ := I.tuple t1
      cases t2 with
      | cons q1 t3 => cases t3 with
        | cons q2 t4 =>
          cases t4
          cases rr with
          | cons r1 rr => cases rr with
            | cons r2 rr =>
              cases rr
              have fin : ∀ x : DItem, x.T = T → (x.k, x.y) = p → x.Ok X.K B s.heap → ∃ ds' : List DItem, V.ref T :: List.map (fun d => V.ref d.T) ds = ds'.map (fun d => V.ref d.T) ∧ p :: List.map (fun d => (d.k, d.y)) ds = ds'.map (fun d => (d.k, d.y)) ∧ ∀ d ∈ ds', d.Ok X.K B s.heap := fun x x1 x2 x3 =>
                ⟨x :: ds, by rw [List.map_cons, x1], by rw [List.map_cons, x2], fun d hd => by
                  rcases List.mem_cons.mp hd with e | e
                  · rw [e]; exact x3
                  · exact e3 d e⟩
              rw [e1, e2]
              exact fin ⟨T, p.1, _, _, _, _, p.2⟩ rfl rfl ⟨.inl ⟨o, ho, hc, n, hdt⟩, r1, r2, q1, q2⟩
theorem item_rel {K : PySem.W.Frag} {B : Hp} {h : Heap} : ∀ (ds : List DItem) (l : List (CK × V × V)) (al : AL), (∀ d ∈ ds, d.Ok K B h) → RelA K B l al → RelA K B (ds.foldl (fun acc d => putV acc d.k d.kv d.vv) l) ((ds.map fun d => (d.k, d.y)).foldl (fun acc p => putA acc p.1 p.2) al)
  | [], l, al, _, r => r
  | d :: ds, l, al, h, r => by
    have hd := h d List.mem_cons_self
    exact item_rel ds _ _ (fun x hx => h x (List.mem_cons_of_mem _ hx)) (r.put d.k hd.dk hd.dv)
noncomputable def keyL : CK → Key
  | .inl k => k
  | .inr _ => .inl 0
theorem item_relL {K : PySem.W.Frag} {B : Hp} {h : Heap} : ∀ (ds : List DItem) (l : List (CK × V × V)) (vs : List (Key × Value)), (∀ d ∈ ds, d.Ok K B h) → (∀ d ∈ ds, ckOk false d.k) → RelL l vs → RelL (ds.foldl (fun acc d => putV acc d.k d.kv d.vv) l) (PySem.merged vs (ds.map fun d => (keyL d.k, d.vu)))
  | [], l, vs, _, _, r => r
  | d :: ds, l, vs, h, ok, r => by
    have hd := h d List.mem_cons_self
    have hk := ok d List.mem_cons_self
    refine item_relL ds _ _ (fun x hx => h x (List.mem_cons_of_mem _ hx)) (fun x hx => ok x (List.mem_cons_of_mem _ hx)) ?_
    obtain ⟨T, k, kv, vv, ku, vu, y⟩ := d
    cases k with
    | inr k => exact hk.elim
    | inl k =>
      have e : kv = kV k := kD_dp hd.dk
      dsimp only
      rw [e]
      exact r.put k hd.rv
noncomputable def keyN : CK → NestedKey
  | .inl _ => .none
  | .inr k => ckey k
theorem item_relN {K : PySem.W.Frag} {B : Hp} {h : Heap} : ∀ (ds : List DItem) (as : DItem → Addr) (l : List (CK × V × V)) (xs : List (NestedKey × Addr × Value)), (∀ d ∈ ds, d.Ok K B h ∧ d.kv = .ref (as d)) → (∀ d ∈ ds, ckOk true d.k) → RelN l xs → RelN (ds.foldl (fun acc d => putV acc d.k d.kv d.vv) l) (PySem.storedAllH xs (ds.map fun d => (keyN d.k, as d, d.vu)))
  | [], _, l, vs, _, _, r => r
  | d :: ds, as, l, vs, h, ok, r => by
    obtain ⟨hd, ha⟩ := h d List.mem_cons_self
    have hk := ok d List.mem_cons_self
    refine item_relN ds as _ _ (fun x hx => h x (List.mem_cons_of_mem _ hx)) (fun x hx => ok x (List.mem_cons_of_mem _ hx)) ?_
    dsimp only
    cases e : d.k with
    | inl k => rw [e] at hk; exact hk.elim
    | inr k =>
      rw [ha]
      exact r.put k hd.rv
theorem fold_len (ds : List DItem) : ∀ l : List (CK × V × V), (ds.foldl (fun acc d => putV acc d.k d.kv d.vv) l).length ≤ l.length + ds.length := by
  induction ds with
  | nil => intro l; exact Nat.le_refl _
  | cons d ds ih =>
    intro l
    have := ih (putV l d.k d.kv d.vv)
    have := putV_len l d.k d.kv d.vv
    show (List.foldl _ (putV l d.k d.kv d.vv) ds).length ≤ _
    rw [List.length_cons]
    omega
noncomputable def rDictO (X : Cx) : List V → Hp → VK → Prop := fun xs H Q => ∃ p vs B ps fl, xs = [.ref p] ∧ SqL X.K H p vs ∧ Same B H ∧ Dl.DpAll X.K B vs (ps.map pairD) ∧ (∀ q ∈ ps, ckOk fl q.1) ∧ ps.length ≤ sizeLine ∧
  ∀ q l, H q = none → RelA X.K B l (foldA ps) → Q (.ref q) (upd H q (dO X.prog X.w fl q l))
theorem call_dictO {X : Cx} (hc : X.calm = true) (hu : X.A.units + 65 < cLine) : CallR X (.type "dict") (rDictO X) := by
  intro pins s σ H xs us Q I r h
  obtain ⟨p, vs, B, ps, fl, rfl, hq, sb, dp, ok, hn, q⟩ := h
  obtain ⟨u, rfl, rx⟩ := vals1 r
  cases rx
  obtain ⟨ds, e1, e2, e3⟩ := items_of I sb dp
  have hl : ps.length = ds.length := by rw [e2, List.length_map]
  have ok' : ∀ d ∈ ds, ckOk fl d.k := fun d hd => ok (d.k, d.y) (by rw [e2]; exact List.mem_map.mpr ⟨d, hd, rfl⟩)
  have rA := item_rel ds [] [] e3 .nil
  rw [← e2] at rA
  have ln := fold_len ds []
  rw [List.length_nil, Nat.zero_add] at ln
  let Ts : Nat → Addr := fun j => (ds[j]?.map (·.T)).getD 0
  obtain ⟨its, T, P, hit⟩ : ∃ (its : Array Value) (T : String), PairArg X.prog X.w T p (p :: (List.range (ds.map fun d => (d.ku, d.vu)).length).map Ts) [] (ds.map fun d => (d.ku, d.vu)).length (PairRel (ds.map fun d => (d.ku, d.vu))) (fun h => PlainSeq T h p its ∧ PairItems h its Ts (ds.map fun d => (d.ku, d.vu))) ∧
      (PlainSeq T s.heap p its ∧ PairItems s.heap its Ts (ds.map fun d => (d.ku, d.vu))) := by
    have pit : ∀ its : List Value, Vals vs its → PairItems s.heap its.toArray Ts (ds.map fun d => (d.ku, d.vu)) := fun its rv => by
      refine ⟨by rw [List.size_toArray, ← rv.length, e1, List.length_map, List.length_map], fun j k v hj => ?_⟩
      rw [List.getElem?_map] at hj
      cases hd : ds[j]? with
      | none => rw [hd] at hj; cases hj
      | some d =>
        rw [hd] at hj
        cases hj
        have hT : Ts j = d.T := by show (ds[j]?.map (·.T)).getD 0 = _; rw [hd]; rfl
        rw [hT]
        obtain ⟨u, hu2, ru⟩ := rv.get (i := j) (x := .ref d.T) (by rw [e1, List.getElem?_map, hd]; rfl)
        cases ru
        exact ⟨by rw [List.getElem?_toArray]; exact hu2, (e3 d (List.mem_of_getElem? hd)).at_⟩
    obtain ⟨its, rv, ⟨o, n, ho, hcl, hd, hdt⟩, hz⟩ := I.list hq
    exact ⟨its.toArray, "list", PairArg.list _ _ _ _, ⟨⟨o, n, ho, hcl, hd, hdt⟩, pit its rv⟩⟩
  have nS : H s.heap.objs.size = none := I.hok.fresh (Nat.le_refl _)
  have sS : (s.heap.objs.size == sysModules) = false := beq_eq_false_iff_ne.mpr (Ne.symm (Nat.ne_of_lt I.big))
  have kl : (ds.map fun d => (d.ku, d.vu)).length ≤ sizeLine := by rw [List.length_map]; omega
  cases fl with
  | false =>
    refine call_dict_pairs (knd := mixKind X.prog X.w) (kvs := ds.map fun d => (keyL d.k, d.vu)) P (I.ok.hd hc) hit ⟨by rw [List.length_map, List.length_map], fun i key v hr => ?_⟩ kl fun h' tk dd kp => ?_
    · have hr : (ds.map fun d => (d.ku, d.vu))[i]? = some (key, v) := hr
      rw [List.getElem?_map] at hr
      cases hd : ds[i]? with
      | none => rw [hd] at hr; cases hr
      | some d =>
        rw [hd] at hr
        cases hr
        refine ⟨keyL d.k, by rw [List.getElem?_map, hd]; rfl, ?_⟩
        have hm := List.mem_of_getElem? hd
        have o1 := e3 d hm
        have o2 := ok' d hm
        cases ek : d.k with
        | inr k => rw [ek] at o2; exact o2.elim
        | inl k =>
          have dk := o1.dk
          rw [ek] at dk
          have e := kD_dp dk
          have rk := o1.rk
          rw [e] at rk
          exact kV_is rk
    · exact ⟨.ref s.heap.objs.size, _, I.laid (t' := tk) (fun b o e => kp b o (fun z => nomatch z) e) (Nat.le_refl _) (dO_ok ⟨by omega, sS, .inl ⟨rfl, _, item_relL ds [] [] e3 ok' .nil, dd⟩⟩), rfl, q _ _ nS rA⟩
  | true =>
    obtain ⟨as, has⟩ : ∃ as : DItem → Addr, ∀ d ∈ ds, d.kv = .ref (as d) := by
      refine ⟨fun d => match d.kv with | .ref a => a | _ => 0, fun d hd => ?_⟩
      have o1 := (e3 d hd).dk
      have o2 := ok' d hd
      cases ek : d.k with
      | inl k => rw [ek] at o2; exact o2.elim
      | inr k =>
        rw [ek] at o1
        obtain ⟨b, eb⟩ := cpd_ref o1
        dsimp only
        rw [eb]
    have key_is : ∀ d ∈ ds, (nestedKind X.prog X.w).is s.heap (keyN d.k) (as d) := fun d hd => by
      have o1 := (e3 d hd).dk
      have o2 := ok' d hd
      cases ek : d.k with
      | inl k => rw [ek] at o2; exact o2.elim
      | inr k =>
        rw [ek, has d hd] at o1
        exact key_in I (dpSame sb _ _ o1)
    refine call_dict_pairsH (knd := nestedKind X.prog X.w) (ps := ds.map fun d => (keyN d.k, as d, d.vu)) P (I.ok.hd hc) (show X.A.in1.in1.units + 8 < cLine from by show X.A.units + 2 + 8 < cLine; omega) hit ⟨by rw [List.length_map, List.length_map], fun i key v hr => ?_⟩ (fun h' hk x hx => ?_) kl fun h' tk dd kp => ?_
    · have hr : (ds.map fun d => (d.ku, d.vu))[i]? = some (key, v) := hr
      rw [List.getElem?_map] at hr
      cases hd : ds[i]? with
      | none => rw [hd] at hr; cases hr
      | some d =>
        rw [hd] at hr
        cases hr
        have hm := List.mem_of_getElem? hd
        refine ⟨keyN d.k, as d, by rw [List.getElem?_map, hd]; rfl, ?_⟩
        have rk := (e3 d hm).rk
        rw [has d hm] at rk
        exact rk
    · obtain ⟨d, hd, rfl⟩ := List.mem_map.mp hx
      exact nestedKind_stays.stays (fun b o vs n e _ => hk b o (Nat.ne_of_lt (Heap.lt_size e)) (fun z => nomatch z) e) (key_is d hd)
    · exact ⟨.ref s.heap.objs.size, _, I.laid (t' := tk) (fun b o e => kp b o (fun z => nomatch z) e) (Nat.le_refl _) (dO_ok ⟨by omega, sS, .inr ⟨rfl, _, item_relN ds as [] [] (fun d hd => ⟨e3 d hd, has d hd⟩) ok' .nil, Shape.of dd⟩⟩), rfl, q _ _ nS rA⟩
noncomputable def wDictO (P : Program) (w : World) : DCall := fun xs Q => match xs with
  | [.list ys] => ∃ fl ps, ys = ps.map pairD ∧ (∀ q ∈ ps, ckOk fl q.1) ∧ ps.length ≤ sizeLine ∧ Q (.own (dictL P w fl (foldA ps)))
  | _ => False
theorem lc_dict {X : Cx} (P : Program) (w : World) (hu : X.A.units + 65 < cLine) (hc : X.calm = true := by rfl) (hP : X.prog = P := by rfl) (hw : X.w = w := by rfl) : LCall X (.type "dict") (wDictO P w) := by
  subst hP hw
  refine ⟨_, call_dictO hc hu, fun bxs n B H xs vs Qd Q g hv w k => ?_⟩
  have main : ∀ (p : Addr) (us : List V) (ys : List PyData), SqL X.K H p us → Dl.DpAll X.K B us ys → (∃ fl ps, ys = ps.map pairD ∧ (∀ q ∈ ps, ckOk fl q.1) ∧ ps.length ≤ sizeLine ∧ Qd (.own (dictL X.prog X.w fl (foldA ps)))) → rDictO X [.ref p] H Q := fun p us ys h1 h2 ⟨fl, ps, e, ok, hn, w⟩ => by
    subst e
    refine ⟨p, us, B, ps, fl, rfl, h1, g.sub, h2, ok, hn, fun q l hq r => ?_⟩
    have fb := freshB g hq
    exact k _ _ _ _ w (g.refl.lay0 hq) ⟨q, _, rfl, fb.1, fb.2, upd_same, l, rfl, r⟩ ⟨q, rfl, hq⟩
  unfold wDictO at w
  split at w
  · obtain ⟨v, rfl, dx⟩ := dpvs1 hv
    obtain ⟨p, us, rfl, h1, h2⟩ := dx.list g.sub
    exact main p us _ h1 h2 w
  · exact w.elim
end Dl

namespace Dl
open PySem PySem.Spec PyProof.Rows L2
/-! ### text.split(sep) -/
section
variable {X : Cx} {o e : Expr} {es : List Expr} {wo : DE} {wr : DA} {pos apos : Pos}
noncomputable def wSplit : DMt := fun z xs Q => match xs with
  | [.str y] => (y.length == 0) = false ∧ z.length + 2 ≤ sizeLine ∧ Q (.new ((Txt.split z y).map .str))
  | _ => False
end
/-! ### a, *b = a list -/
section
variable {prog : Program} {w : World} {A : Around} {E : Value → Shared → Prop} {s : Shared}
end
section
variable {X : Cx} {E : Ent} {e : Expr} {we : DE} {x y : Str} {px py ps pt pos : Pos} {kt : Nat}
noncomputable def dUnpStar (i j : Nat) (we : DE) : DS := fun D ρ n => we ρ n fun r n1 => onO (dat r) fun z => match z with
  | .list (x :: xs) => D.nx ((ρ.set i (some (.d x))).set j (some (.d (.list xs)))) n1
  | _ => False
end
/-! ### if A or (x := e) is None: .. ; raise that is never reached -/
section
variable {X : Cx} {E : Ent} {a b e c : Expr} {body : List Stmt} {wt : DT} {we : DE} {wb : DS} {x : Str} {p p2 p3 p4 pos : Pos} {tA : TT} {tB : TTw}
noncomputable def dIfNm (i : Nat) (wt : DT) (we : DE) (wb : DS) : DS := fun D ρ n => wt ρ n fun k n1 => if k = true then wb D ρ n1 else we ρ n1 fun r n2 => onO (dat r) fun z => if isNone z = true then wb D (ρ.set i (some (.d z))) n2 else D.nx (ρ.set i (some (.d z))) n2
noncomputable def dNever : DS := fun _ _ _ => False
end
end Dl

namespace Dl
open PySem PySem.Spec PyProof.Rows L2
/-! ### sets of numbers and texts: set(), s.add(x), x in s -/
/-- a set as a function of its members; at most m of them -/
noncomputable def setF (P : Program) (w : World) (S : Key → Bool) (m : Nat) : OwnT where
  rel := fun _ _ a o => ∃ k, o = SetK P w a S k ∧ k ≤ m
  mono := fun _ h => h
noncomputable def wSet0 (P : Program) (w : World) : DE := fun _ n Q => Q (.own (setF P w (fun _ => false) 0)) n
noncomputable def dSAdd (P : Program) (w : World) (i : Nat) (we : DE) : DS := fun D ρ n => ∃ S m, ρ[i]? = some (some (.own (setF P w S m))) ∧ m + 1 < scanBound ∧ we ρ n fun r n1 => ∃ k, r = .d (kD k) ∧ D.nx (ρ.set i (some (.own (setF P w (fun j => S j || decide (j = k)) (m + 1))))) n1
noncomputable def dSIn (P : Program) (w : World) (neg : Bool) (i : Nat) (we : DE) : DT := fun ρ n Q => ∃ S m, ρ[i]? = some (some (.own (setF P w S m))) ∧ we ρ n fun r n1 => ∃ k, r = .d (kD k) ∧ Q (if neg then !S k else S k) n1
section
variable {X : Cx} {E : Ent} {x : Str} {e : Expr} {pos apos cpos p1 p2 : Pos} {we : DE}
end
/-! ### for .. else -/
section
variable {X : Cx} {E : Ent} {tg iter : Expr} {body orelse : List Stmt} {pos : Pos} {wb wu : DS}
end
/-! ### a, b = xs.pop() -/
section
variable {X : Cx} {E : Ent} {x : Str} {tg : Expr} {pos apos cpos p1 : Pos}
noncomputable def dUnpPop (i : Nat) (wg : DG) : DS := fun D ρ n => ∃ ys y, ρ[i]? = some (some (.new (ys ++ [y]))) ∧ wg y (ρ.set i (some (.new ys))) fun ρ' => D.nx ρ' n
end
end Dl

namespace Dl
open PySem PySem.Spec PyProof.Rows L2
/-! ### a, b, c, d = e1, e2, e3, e4: a tuple is made; some of the names own their new things -/
noncomputable def dPar4o (i j l m : Nat) (o1 o2 o3 o4 : Bool) (wa wb wc wd : DE) : DS := fun D ρ n => wa ρ n fun r n1 => setO o1 r fun r' => wb ρ n1 fun r2 n2 => setO o2 r2 fun r2' => wc ρ n2 fun r3 n3 => setO o3 r3 fun r3' => wd ρ n3 fun r4 n4 => setO o4 r4 fun r4' =>
  D.nx ((((ρ.set i (some r')).set j (some r2')).set l (some r3')).set m (some r4')) n4
section
variable {X : Cx} {E : Ent} {pos : Pos} {x y z t : Str} {px py pz pt pu : Pos} {wa wb wc wd : DE} {ea eb ec ed : Expr} {kt k2 : Nat} {pt2 : Pos}
end
/-! ### a pair of data and a thing of one's own, handed back; its first item -/
noncomputable def pairT (x : PyData) : OwnT where
  rel := fun K B _ o => ∃ v y, o = .tup [v, y] ∧ Dp K B v x
  mono := fun s ⟨v, y, e, h⟩ => ⟨v, y, e, dpSame s _ _ h⟩
noncomputable def dRetPair (i : Nat) (we : DE) : DS := fun D ρ n => we ρ n fun r n1 => ∃ x T, r = .d x ∧ ρ[i]? = some (some (.own T)) ∧ D.rt (.own (pairT x)) n1
noncomputable def dFst (we : DE) : DE := fun ρ n Q => we ρ n fun r n1 => ∃ x, r = .own (pairT x) ∧ Q (.d x) n1
section
variable {X : Cx} {E : Ent} {pos p1 p2 : Pos} {x : Str} {e : Expr} {we : DE} {kt k2 : Nat}
end
/-! ### d[k], d an expression -/
noncomputable def dLIxE (P : Program) (w : World) (wd wk : DE) : DE := fun ρ n Q => wd ρ n fun rd n1 => ∃ fl al, rd = .own (dictL P w fl al) ∧ wk ρ n1 fun r n2 => ∃ k y, r = .d (ckD k) ∧ ckOk fl k ∧ lookA al k = some y ∧ Q (.d y) n2
section
variable {X : Cx} {E : Ent} {pos p1 p2 : Pos} {e f : Expr} {wd wk : DE}
end
end Dl

namespace Dl
open PySem PySem.Spec PyProof.Rows L2
/-! ### a, b = a list -/
noncomputable def gdLst (n : Nat) (u : DGs) : DG := fun x ρ Q => match x with
  | .list xs => xs.length = n ∧ u xs ρ Q
  | _ => False
section
variable {X : Cx} {pos : Pos}
end
end Dl

namespace Dl
open PySem PySem.Spec PyProof.Rows L2
/-! ### Base.__init__(self, ..), Base a class of the program over ValueError -/
section
variable {X : Cx} {o e : Expr} {es : List Expr} {te : TE} {ta : TA} {p1 p2 pos : Pos} {x : Str} {C0 : Addr} {mc : Value}
end
end Dl

namespace Dl
open PySem PySem.Spec PyProof.Rows L2 GenW
/-! ### generators read whole (list(g)): if, for in the body -/
section
variable {X : Cx}
end
end Dl

namespace Dl
open PySem PySem.Spec PyProof.Rows L2 GenW
/-! ### a generator that nobody wakes stays as it is: the run is looked at with all sleepers struck dumb -/
noncomputable def isSus : GenState → Bool
  | .suspended .. => true
  | _ => false
/-- a sleeper that cannot be woken -/
noncomputable def dumb : GenState → GenState
  | .suspended _ l c p fs cl => .suspended (fun _ => .unsupported "") l c p fs cl
  | x => x
noncomputable def plainG : GenState → Prop
  | .suspended _ _ _ _ fs _ => splitAtGen fs = none
  | _ => True
theorem dumb_seen (x : GenState) : (dumb x).seen = x.seen := by cases x <;> rfl
structure SimG (G a b : Array GenState) : Prop where
  sz : a.size = b.size
  at_ : ∀ i : Nat, (∃ x, G[i]? = some x ∧ isSus x = true ∧ b[i]? = some x ∧ a[i]? = some (dumb x)) ∨ (a[i]? = b[i]? ∧ (∀ x, G[i]? = some x → isSus x = false) ∧ ∀ x, a[i]? = some x → plainG x)
theorem SimG.other {G a b : Array GenState} (h : SimG G a b) {g : Nat} {x : GenState} (e : a[g]? = some x) (hx : isSus x = false) : b[g]? = some x ∧ ∀ x, G[g]? = some x → isSus x = false := by
  rcases h.at_ g with ⟨y, _, h2, _, h4⟩ | ⟨h1, h2, _⟩
  · rw [e] at h4
    cases y with
    | suspended _ _ _ _ _ _ =>
      cases h4
      cases hx
    | _ => cases h2
  · exact ⟨by rw [← h1]; exact e, h2⟩
theorem SimG.see {G a b : Array GenState} (h : SimG G a b) {g : Nat} {st : GenState} (e : a[g]? = some st) : ∃ x, b[g]? = some x ∧ x.seen = st.seen := by
  rcases h.at_ g with ⟨x, _, _, h3, h4⟩ | ⟨h1, _⟩
  · rw [e] at h4
    cases h4
    exact ⟨x, h3, (dumb_seen x).symm⟩
  · exact ⟨st, by rw [← h1]; exact e, rfl⟩
theorem SimG.set {G a b : Array GenState} (h : SimG G a b) {g : Nat} {x : GenState} (hg : ∀ x, G[g]? = some x → isSus x = false) (hx : plainG x) : SimG G (a.setIfInBounds g x) (b.setIfInBounds g x) where
  sz := by rw [Array.size_setIfInBounds, Array.size_setIfInBounds]; exact h.sz
  at_ := fun i => by
    by_cases e : g = i
    · subst e
      refine .inr ⟨?_, hg, fun y hy => ?_⟩
      · rw [Array.getElem?_setIfInBounds_self, Array.getElem?_setIfInBounds_self, h.sz]
      · rw [Array.getElem?_setIfInBounds_self] at hy
        split at hy
        · cases hy; exact hx
        · cases hy
    · rw [Array.getElem?_setIfInBounds_ne e, Array.getElem?_setIfInBounds_ne e]
      exact h.at_ i
theorem SimG.push {G a b : Array GenState} (h : SimG G a b) (hG : G.size ≤ a.size) (c : Code) : SimG G (a.push (.fresh c)) (b.push (.fresh c)) where
  sz := by rw [Array.size_push, Array.size_push, h.sz]
  at_ := fun i => by
    by_cases e : i = a.size
    · refine .inr ⟨?_, fun x hx => ?_, fun x hx => ?_⟩
      · rw [e, Array.getElem?_push_size, h.sz, Array.getElem?_push_size]
      · have := (Array.getElem?_eq_some_iff.mp hx).1
        omega
      · rw [e, Array.getElem?_push_size] at hx
        cases hx
        trivial
    · have e2 : i ≠ b.size := by rw [← h.sz]; exact e
      rw [Array.getElem?_push, Array.getElem?_push, if_neg e, if_neg e2]
      exact h.at_ i
theorem Inv.gens {X : Cx} {pins : List (Addr × Obj)} {σ : L2.St} {H : Hp} {s : Shared} (I : Inv X pins σ H s) {g : Array GenState} (hg : AllBare g) : Inv X pins σ H { s with gens := g } :=
  ⟨I.ok, I.os, hg, I.base, I.loc, I.cell, I.free, I.freeC, I.pin, I.hok, I.len⟩
end Dl

namespace Dl
open PySem PySem.Spec PyProof.Rows L2 GenW
/-! ### a run to its next stop: an end, or an item that is handed out -/
noncomputable abbrev Stop := End → Shared → Prop
noncomputable def RunE (M : Model) (A : Around) (Φ : Stop) (c : Code) (t : Sem PySem.Fin) (fs : List Frame) (s : Shared) : Prop :=
  ∀ (Γ : PySem.Ctx) (p : Pos), Γ.code = c → Γ.Woken A → ∃ e s', Runs M Γ p t fs s e s' ∧ e.quiet = true ∧ Φ e s'
section
variable {M : Model} {A : Around} {Φ : Stop} {c : Code} {fs : List Frame} {s : Shared} {K : Flow → Sem PySem.Fin} {J : Value → Sem PySem.Fin} {gd : Bool → Bool} {lv : List Value → List Value} {env : Env}
end
section
variable {P : Program} {w : World} {A : Around} {Φ : Stop} {c : Code} {fs : List Frame} {s : Shared} {K : Flow → Sem PySem.Fin} {J : Value → Sem PySem.Fin} {gd : Bool → Bool} {lv : List Value → List Value} {env : Env}
end
/-! ### waking -/
noncomputable def GoesE (M : Model) (A : Around) (Φ : Stop) (gs : GenState) (s : Shared) : Prop := match gs with
  | .fresh c => RunE M A Φ c (M.den c) [] s
  | .suspended k _ c _ fs _ => RunE M A Φ c (k (.send .none)) fs s
  | _ => False
end Dl

namespace Dl
open PySem PySem.Spec PyProof.Rows L2 GenW
/-! ### a generator's statements at data level: what is still to be handed out -/
/-- further things of one's own, that no name holds -/
noncomputable abbrev XS := List (Addr × OwnT)
/-- what a sleeping generator has -/
structure GE where
  ρ : DEnv
  xs : XS
structure ZEnds where
  nx : List PyData → XS → DEnv → Prop
  bk : List PyData → XS → DEnv → Prop := fun _ _ _ => False
  ct : List PyData → XS → DEnv → Prop := fun _ _ _ => False
noncomputable abbrev DZ := ZEnds → List PyData → XS → DEnv → Prop
structure SX (K : PySem.W.Frag) (E : Ent) (M : Hp) (n : Nat) (B H : Hp) (bxs : List Addr) (σ : L2.St) (ρ : DEnv) (xs : XS) : Prop where
  sv : SInv K E M n B H bxs σ ρ
  xo : ∀ q ∈ xs, q.1 ∉ bxs ∧ B q.1 = none ∧ E.H q.1 = none ∧ ∃ o, H q.1 = some o ∧ q.2.rel K B q.1 o
  xw : ∀ q ∈ xs, ∀ (i : Nat) (r : RV), ρ[i]? = some (some r) → isOwn r → σ[i]? ≠ some (some (.ref q.1))
  xd : xs.Pairwise fun p q => p.1 ≠ q.1
section
variable {K : PySem.W.Frag} {E : Ent} {M : Hp} {n n1 : Nat} {B H B1 H1 : Hp} {bxs : List Addr} {σ σ' : L2.St} {ρ ρ' : DEnv} {xs : XS}
theorem SX.step (h : SX K E M n B H bxs σ ρ xs) (s : Step bxs n n1 B H B1 H1) : SX K E M n1 B1 H1 bxs σ ρ xs :=
  ⟨h.sv.step s, fun q hq => by
    obtain ⟨a1, a2, a3, o, a4, a5⟩ := h.xo q hq
    exact ⟨a1, by rw [s.b3 _ (ne_none_of a4)]; exact a2, a3, o, s.h1 _ _ a1 a4, q.2.mono s.b1 a5⟩, h.xw, h.xd⟩
theorem SX.upd {vs : List Nat} (h : SX K E M n B H bxs σ ρ xs) (e : EnvR K bxs n B H σ' ρ') (u : UpdR vs σ σ' ρ ρ') : SX K E M n B H bxs σ' ρ' xs :=
  ⟨h.sv.upd e u, h.xo, fun q hq i r h1 o h2 => by
    obtain ⟨a1, a2⟩ := u.own i r h1 o
    rw [a2] at h2
    exact h.xw q hq i r a1 o h2, h.xd⟩
theorem SX.weak {M' : Hp} (h : SX K E M n B H bxs σ ρ xs) (m : Same M' M) : SX K E M' n B H bxs σ ρ xs := ⟨h.sv.weak m, h.xo, h.xw, h.xd⟩
/-- the further things stand as if they had been there before -/
noncomputable def entX (E : Ent) (xs : XS) (H : Hp) : Ent := ⟨E.B, fun a => open Classical in if ∃ q ∈ xs, q.1 = a then H a else E.H a, E.bxs, E.n⟩
theorem entX_in {q : Addr × OwnT} (h : q ∈ xs) : (entX E xs H).H q.1 = H q.1 := if_pos ⟨q, h, rfl⟩
theorem SX.old (h : SX K E M n B H bxs σ ρ xs) {a : Addr} (e : E.H a ≠ none) : (entX E xs H).H a = E.H a := if_neg fun ⟨q, hq, z⟩ => e (by rw [← z]; exact (h.xo q hq).2.2.1)
theorem SX.inner (h : SX K E M n B H bxs σ ρ xs) : SInv K (entX E xs H) B n B H bxs σ ρ := by
  have sv := h.sv
  refine ⟨⟨sv.st.b1, sv.st.b2, fun a ha => ?_, fun a o hb ha => ?_, sv.st.bx, sv.st.nn⟩, Same.refl _, sv.g, fun b hb => ?_, sv.sup, sv.env, fun i r p h1 o h2 => ?_⟩
  · by_cases c : ∃ q ∈ xs, q.1 = a
    · obtain ⟨q, hq, rfl⟩ := c
      have z := (h.xo q hq).2.1
      rw [z]
      cases e : E.B q.1 with
      | none => exact e.symm
      | some o =>
        have := sv.st.b1 _ _ e
        rw [z] at this
        cases this
    · exact sv.st.b3 a (by rw [show (entX E xs H).H a = E.H a from if_neg c] at ha; exact ha)
  · by_cases c : ∃ q ∈ xs, q.1 = a
    · rw [show (entX E xs H).H a = H a from if_pos c] at ha
      exact ha
    · rw [show (entX E xs H).H a = E.H a from if_neg c] at ha
      exact sv.st.h1 a o hb ha
  · rcases sv.bs b hb with z | z
    · exact .inl z
    · refine .inr ?_
      rw [show (entX E xs H).H b = E.H b from if_neg fun ⟨q, hq, e⟩ => (h.xo q hq).1 (by rw [e]; exact hb)]
      exact z
  · rw [show (entX E xs H).H p = E.H p from if_neg fun ⟨q, hq, e⟩ => h.xw q hq i r h1 o (by rw [e]; exact h2)]
    exact sv.ow i r p h1 o h2
theorem SX.outer {n' : Nat} {B' H' : Hp} {bxs' : List Addr} (h : SX K E M n B H bxs σ ρ xs) (g : SInv K (entX E xs H) B n' B' H' bxs' σ' ρ') : SX K E M n' B' H' bxs' σ' ρ' xs := by
  have sv := h.sv
  have nb : ∀ q ∈ xs, q.1 ∉ E.bxs := fun q hq z => (h.xo q hq).1 (sv.sup _ z)
  have hq1 : ∀ q ∈ xs, (entX E xs H).H q.1 ≠ none := fun q hq => by
    obtain ⟨o, e, _⟩ := (h.xo q hq).2.2.2
    rw [entX_in hq]
    exact ne_none_of e
  refine ⟨⟨⟨g.st.b1, g.st.b2, fun a ha => g.st.b3 a (by rw [h.old ha]; exact ha), fun a o hb ha => g.st.h1 a o hb (by rw [h.old (ne_none_of ha)]; exact ha), g.st.bx, g.st.nn⟩, sv.mb.trans g.mb, g.g, fun b hb => ?_, g.sup, g.env, fun i r p h1 o h2 => ?_⟩, fun q hq => ?_, fun q hq i r h1 o h2 => ?_, h.xd⟩
  · rcases g.bs b hb with z | z
    · exact .inl z
    · refine .inr ?_
      cases e : E.H b with
      | none => rfl
      | some u => rw [h.old (ne_none_of e), e] at z; cases z
  · have z := g.ow i r p h1 o h2
    cases e : E.H p with
    | none => rfl
    | some u => rw [h.old (ne_none_of e), e] at z; cases z
  · obtain ⟨a1, a2, a3, o, a4, a5⟩ := h.xo q hq
    refine ⟨fun z => ?_, ?_, a3, o, g.st.h1 q.1 o (nb q hq) (by rw [entX_in hq]; exact a4), q.2.mono g.mb a5⟩
    · rcases g.bs _ z with y | y
      · exact nb q hq y
      · exact hq1 q hq y
    · rw [g.st.b3 q.1 (hq1 q hq)]
      cases e : E.B q.1 with
      | none => exact e
      | some u =>
        have := sv.st.b1 _ _ e
        rw [a2] at this
        cases this
  · exact hq1 q hq (g.ow i r q.1 h1 o h2)
end
/-- what a sleeping generator may hold -/
noncomputable def gOk : DEnv → Prop
  | [] => True
  | none :: r => gOk r
  | some (.d _) :: r => gOk r
  | some (.new _) :: r => gOk r
  | some (.own _) :: r => gOk r
  | some (.bor _) :: _ => False
  | some .box :: _ => False
  | some .nbox :: _ => False
  | some (.obj _) :: _ => False
noncomputable def gSlot : RV → Prop
  | .d _ => True
  | .new _ => True
  | .own _ => True
  | _ => False
theorem gOk_slot : ∀ {ρ : DEnv} {i : Nat} {r : RV}, gOk ρ → ρ[i]? = some (some r) → gSlot r
  | none :: ρ, 0, r, _, h => by simp at h
  | some x :: ρ, 0, r, g, h => by
    have e : x = r := by simpa using h
    subst e
    cases x <;> first | trivial | exact g.elim
  | none :: ρ, i + 1, r, g, h => gOk_slot (ρ := ρ) (i := i) g (by simpa using h)
  | some x :: ρ, i + 1, r, g, h => by
    have h' : ρ[i]? = some (some r) := by simpa using h
    cases x <;> first | exact gOk_slot (ρ := ρ) (i := i) g h' | exact g.elim
/-- the addresses of its own things -/
noncomputable def OwnA (σ : L2.St) (ρ : GE) (a : Addr) : Prop := (∃ (i : Nat) (r : RV), ρ.ρ[i]? = some (some r) ∧ isOwn r ∧ σ[i]? = some (some (.ref a))) ∨ ∃ q ∈ ρ.xs, q.1 = a
open Classical in
noncomputable def entS (σ : L2.St) (ρ : GE) (B H : Hp) : Ent := ⟨B, fun a => if OwnA σ ρ a then none else H a, [], 0⟩
theorem entS_own {σ : L2.St} {ρ : GE} {B H : Hp} {a : Addr} (h : OwnA σ ρ a) : (entS σ ρ B H).H a = none := if_pos h
theorem entS_not {σ : L2.St} {ρ : GE} {B H : Hp} {a : Addr} (h : ¬ OwnA σ ρ a) : (entS σ ρ B H).H a = H a := if_neg h
structure ZInv (X : Cx) (cp its : List (Addr × Obj)) (s₀ : Shared) (H₀ : Hp) (E : Ent) (M B H : Hp) (σ : L2.St) (ρ : GE) (s : Shared) : Prop where
  inv : Inv (XR X s₀ H₀) (cp ++ its) σ H s
  sv : ∃ n bxs, SX X.K E M n B H bxs σ ρ.ρ ρ.xs
  lo : X.env.locals < s₀.heap.objs.size
  dis : ∀ p ∈ its, ∀ q ∈ cp, p.1 ≠ q.1
  hi : ∀ p ∈ its, X.env.locals ≤ p.1
/-- woken -/
noncomputable abbrev StartZ (X : Cx) (cp its : List (Addr × Obj)) (σ : L2.St) (ρ : GE) (Bs : Hp) (s : Shared) (H B : Hp) : Prop := ZInv X cp its s H (entS σ ρ B H) Bs B H σ ρ s
noncomputable def Stp (X : Cx) (A : Around) : List PyData → List (Addr × Obj) → Shared → Hp → Ent → Stop
  | [], cp, s₀, H₀, E => fun e s => ∃ r its σ ρ M B H, e = .ret r ∧ (r = .ok (.ret .none) ∨ r = .ok .next) ∧ ZInv X cp its s₀ H₀ E M B H σ ρ s
  | x :: zs, cp, s₀, H₀, E => fun e s => ∃ v gg l k c p fs, e = .susp v gg l k c p fs ∧ ∃ vx its σ ρ M B H, RelV vx v ∧ Dp X.K B vx x ∧ gOk ρ.ρ ∧ ZInv X cp its s₀ H₀ E M B H σ ρ s ∧
      ∀ s' H' B' cp', StartZ X cp' its σ ρ B s' H' B' → GoesE (model X.prog X.w) A (Stp X A zs cp' s' H' (entS σ ρ B' H')) e.genState s'
/-- asleep -/
noncomputable def Nap (X : Cx) (A : Around) (zs : List PyData) (gs : GenState) (its : List (Addr × Obj)) (σ : L2.St) (ρ : GE) (Bs : Hp) : Prop :=
  ∀ s' H' B' cp', StartZ X cp' its σ ρ Bs s' H' B' → GoesE (model X.prog X.w) A (Stp X A zs cp' s' H' (entS σ ρ B' H')) gs s'
noncomputable def ZSP (D : ZEnds) (zs : List PyData) (ρ : GE) : Flow → Prop
  | .next => D.nx zs ρ.xs ρ.ρ
  | .brk => D.bk zs ρ.xs ρ.ρ
  | .cont => D.ct zs ρ.xs ρ.ρ
  | .ret _ => False
/-- what follows -/
structure ZK (X : Cx) (A : Around) (its : List (Addr × Obj)) (M : Hp) (c : Code) (fs : List Frame) (K : Flow → Sem PySem.Fin) (D : ZEnds) : Prop where
  ok : ∀ (zs : List PyData) (cp : List (Addr × Obj)) (s₀ : Shared) (H₀ : Hp) (E : Ent) (s : Shared) (f : Flow) (B H : Hp) (σ : L2.St) (ρ : GE), ZInv X cp its s₀ H₀ E M B H σ ρ s → ZSP D zs ρ f → RunE (model X.prog X.w) A (Stp X A zs cp s₀ H₀ E) c (K f) fs s
structure LZ (X : Cx) (st : Stmt) (w : DZ) : Prop where
  run : ∀ (A : Around) (its : List (Addr × Obj)) (M : Hp) (c : Code) (fs : List Frame) (K : Flow → Sem PySem.Fin) (J : Value → Sem PySem.Fin) (gd : Bool → Bool) (lv : List Value → List Value) (D : ZEnds) (zs : List PyData) (cp : List (Addr × Obj)) (s₀ : Shared) (H₀ : Hp) (E : Ent) (s : Shared) (B H : Hp) (σ : L2.St) (ρ : GE),
    GLC X A c fs gd → ZK X A its M c fs K D → ZInv X cp its s₀ H₀ E M B H σ ρ s → w D zs ρ.xs ρ.ρ → RunE (model X.prog X.w) A (Stp X A zs cp s₀ H₀ E) c ((exec st X.env).wrap K J gd lv) fs s
structure LZs (X : Cx) (st : List Stmt) (w : DZ) : Prop where
  run : ∀ (A : Around) (its : List (Addr × Obj)) (M : Hp) (c : Code) (fs : List Frame) (K : Flow → Sem PySem.Fin) (J : Value → Sem PySem.Fin) (gd : Bool → Bool) (lv : List Value → List Value) (D : ZEnds) (zs : List PyData) (cp : List (Addr × Obj)) (s₀ : Shared) (H₀ : Hp) (E : Ent) (s : Shared) (B H : Hp) (σ : L2.St) (ρ : GE),
    GLC X A c fs gd → ZK X A its M c fs K D → ZInv X cp its s₀ H₀ E M B H σ ρ s → w D zs ρ.xs ρ.ρ → RunE (model X.prog X.w) A (Stp X A zs cp s₀ H₀ E) c ((execs st X.env).wrap K J gd lv) fs s
section
variable {X : Cx} {st : Stmt} {rest : List Stmt} {pos yp : Pos}
noncomputable def dPlainZ (w : DS) : DZ := fun D zs xs ρ => ∀ n, w { nx := fun ρ' _ => D.nx zs xs ρ', rt := fun _ _ => False, bk := fun ρ' _ => D.bk zs xs ρ', ct := fun ρ' _ => D.ct zs xs ρ' } ρ n
noncomputable def dNilZ : DZ := fun D zs xs ρ => D.nx zs xs ρ
noncomputable def dIfZ (wt : DT) (wa wb : DZ) : DZ := fun D zs xs ρ => ∀ n, wt ρ n fun b _ => if b = true then wa D zs xs ρ else wb D zs xs ρ
noncomputable def dYieldZ (we : DE) : DZ := fun D zs xs ρ => gOk ρ ∧ ∃ x zs', zs = x :: zs' ∧ (∀ n, we ρ n fun r _ => dat r = some x) ∧ D.nx zs' xs ρ
end
end Dl

namespace Dl
open PySem PySem.Spec PyProof.Rows L2 GenW
/-! ### a generator that sleeps, as its consumer keeps it -/
structure BedX (X : Cx) (A : Around) (zs : List PyData) (gs : GenState) (o : Obj) (its : List (Addr × Obj)) (σ : L2.St) (ρ : GE) (B H : Hp) : Prop where
  cells : X.env.cells = []
  ex : X.ex = []
  pn : X.pn = []
  frl : ∀ b ∈ X.fs, b < X.env.locals
  nap : Nap X A zs gs its σ ρ B
  env : EnvR X.K [] 0 B H σ ρ.ρ
  ok : gOk ρ.ρ
  xo : ∀ q ∈ ρ.xs, ∃ o, H q.1 = some o ∧ q.2.rel X.K B q.1 o
  xw : ∀ q ∈ ρ.xs, ∀ (i : Nat) (r : RV), ρ.ρ[i]? = some (some r) → isOwn r → σ[i]? ≠ some (some (.ref q.1))
  xd : ρ.xs.Pairwise fun p q => p.1 ≠ q.1
  hi : ∀ p ∈ its, X.env.locals ≤ p.1
  inv : ∃ s₁ s₀ H₀, Inv (XR X s₀ H₀) its σ H s₁ ∧ s₁.heap.get? X.env.locals = some o
theorem BedX.there {X : Cx} {A : Around} {zs : List PyData} {gs : GenState} {o : Obj} {its : List (Addr × Obj)} {σ : L2.St} {ρ : GE} {B H : Hp} (bd : BedX X A zs gs o its σ ρ B H) {b : Addr} (h : OwnA σ ρ b) : ∃ u, H b = some u := by
  rcases h with ⟨j, r, e1, e2, e3⟩ | ⟨q, hq, rfl⟩
  · obtain ⟨v, e4, e5⟩ := bd.env.val j r e1
    rw [e3] at e4
    cases e4
    cases r with
    | new xs =>
      obtain ⟨p, vs, ep, _, _, h3, _⟩ := e5
      cases ep
      exact ⟨_, h3⟩
    | own T =>
      obtain ⟨p, ob, ep, _, _, h3, _⟩ := e5
      cases ep
      exact ⟨_, h3⟩
    | d x => exact e2.elim
    | bor xs => exact e2.elim
    | box => exact e2.elim
    | obj o0 => exact e2.elim
    | nbox => exact e2.elim
  · obtain ⟨o, e, _⟩ := bd.xo q hq
    exact ⟨o, e⟩
theorem BedX.start {X : Cx} {A : Around} {zs : List PyData} {gs : GenState} {o : Obj} {its cp : List (Addr × Obj)} {σ : L2.St} {ρ : GE} {B H B' H' : Hp} {s' : Shared} (b : BedX X A zs gs o its σ ρ B H) (bare : AllBare s'.gens)
    (bs : ∀ a o, X.base.get? a = some o → s'.heap.get? a = some o ∧ H' a = none) (funs : s'.heap.FunFrames X.base X.outer) (frf : ∀ a ∈ X.fs, H' a = none) (loc : s'.heap.get? X.env.locals = some o) (free : H' X.env.locals = none)
    (pin : ∀ p ∈ its, s'.heap.get? p.1 = some p.2 ∧ H' p.1 = none) (hok : HOk X.prog X.w H' s'.heap)
    (cpk : ∀ p ∈ cp, s'.heap.get? p.1 = some p.2 ∧ H' p.1 = none ∧ p.1 ≠ X.env.locals ∧ p.1 ∉ X.fs ∧ ∀ v, p.2.data ≠ .cell v) (dis : ∀ p ∈ its, ∀ q ∈ cp, p.1 ≠ q.1)
    (sb : Same B B') (sg : Same B' H') (own : ∀ a, OwnA σ ρ a → H' a = H a ∧ B' a = none) : StartZ X cp its σ ρ B s' H' B' := by
  obtain ⟨s1, s0, H0, I, e⟩ := b.inv
  have J : Inv (XR X s' H') its σ H' s' := rebase (X := XR X s0 H0) (s' := { s' with os := s1.os }) I b.cells b.ex b.pn rfl bare bs funs frf b.frl (fun ob q => by
    have q : s1.heap.get? X.env.locals = some ob := q
    rw [e] at q
    cases q
    exact loc) free pin hok |> fun J => ⟨⟨J.ok.mod, J.ok.kind, J.ok.glob, J.ok.blt, J.ok.above, J.ok.inj, J.ok.has, J.ok.cab, J.ok.hd, J.ok.frames, J.ok.stk, J.ok.exf, J.ok.bs, J.ok.bsz, J.ok.noex, J.ok.exfs, J.ok.funs, J.ok.frf⟩, rfl, J.bare, J.base, J.loc, J.cell, J.free, J.freeC, J.pin, J.hok, J.len⟩
  refine ⟨J.pins_of fun p hp => ?_, ⟨0, [], ⟨⟨⟨Same.refl _, sg, fun _ _ => rfl, fun a u _ h => ?_, fun _ q => (by cases q), Nat.le_refl _⟩, sb, ⟨sg, fun _ q => (by cases q)⟩, fun _ q => (by cases q), fun _ q => q, ⟨b.env.len, fun i r h => ?_, b.env.own, b.env.ok⟩, fun i r p h1 h2 h3 => entS_own (.inl ⟨i, r, h1, h2, h3⟩)⟩, fun q hq => ?_, b.xw, b.xd⟩⟩, Heap.lt_size loc, dis, b.hi⟩
  · rcases List.mem_append.mp hp with z | z
    · exact cpk p z
    · exact J.pin p (List.mem_append_right _ z)
  · by_cases z : OwnA σ ρ a
    · rw [entS_own z] at h
      cases h
    · rw [entS_not z] at h
      exact h
  · obtain ⟨v, e1, e2⟩ := b.env.val i r h
    refine ⟨v, e1, ?_⟩
    have gs := gOk_slot b.ok h
    cases r with
    | d x => exact dpSame sb x v e2
    | new xs =>
      obtain ⟨p, vs, rfl, h1, h2, h3, h4⟩ := e2
      obtain ⟨o1, o2⟩ := own p (.inl ⟨i, _, h, trivial, e1⟩)
      exact ⟨p, vs, rfl, h1, o2, by rw [o1]; exact h3, dpSameAll sb xs vs h4⟩
    | own T =>
      obtain ⟨p, ob, rfl, h1, h2, h3, h4⟩ := e2
      obtain ⟨o1, o2⟩ := own p (.inl ⟨i, _, h, trivial, e1⟩)
      exact ⟨p, ob, rfl, h1, o2, by rw [o1]; exact h3, T.mono sb h4⟩
    | bor xs => exact gs.elim
    | box => exact gs.elim
    | obj o0 => exact gs.elim
    | nbox => exact gs.elim
  · obtain ⟨o, e1, e2⟩ := b.xo q hq
    obtain ⟨o1, o2⟩ := own q.1 (.inr ⟨q, hq, rfl⟩)
    exact ⟨List.not_mem_nil, o2, entS_own (.inr ⟨q, hq, rfl⟩), o, by rw [o1]; exact e1, q.2.mono sb e2⟩
/-- what a generator's turn leaves of the rest -/
structure StepO (O : Addr → Prop) (B H B1 H1 : Hp) : Prop where
  b1 : Same B B1
  b2 : Same B1 H1
  b3 : ∀ a, ¬ O a → H a ≠ none → B1 a = B a
  h1 : ∀ a o, ¬ O a → H a = some o → H1 a = some o
/-- the consumer's context, seen from the generator whose frame is m; cp: what it wants kept of the younger things -/
structure Host (Xc X : Cx) (m : Addr) (cp pins : List (Addr × Obj)) (H : Hp) (O : Addr → Prop) : Prop where
  prog : X.prog = Xc.prog
  w : X.w = Xc.w
  K : X.K = Xc.K
  base : X.base = Xc.base
  outer : X.outer = Xc.stack
  me : X.env.locals = m
  calm : Xc.calm = true
  loc : Xc.env.locals < m ∨ ∃ q ∈ cp, q.1 = Xc.env.locals
  cell : ∀ x c, Xc.env.cells.lookup x = some c → c < m
  fs : ∀ b ∈ Xc.fs, b < m
  pins : ∀ p ∈ Xc.pn ++ pins, p.1 < m ∨ ∃ q ∈ cp, q.1 = p.1
  hi : ∀ q ∈ cp, m < q.1
  ex : ∀ b, m ≤ b → (∀ q ∈ cp, q.1 ≠ b) → H b = none ∨ O b → b ∈ Xc.ex ∨ Xc.s_0.heap.objs.size ≤ b
/-- the sleeper and its consumer -/
structure Pair (Xc X : Cx) (m a g : Addr) (go : Obj) (pins : List (Addr × Obj)) (zs : List PyData) (gs : GenState) (o : Obj) (its : List (Addr × Obj)) (σ : L2.St) (ρ : GE) (Bs Hs B H : Hp) (σc : L2.St) (s : Shared) : Prop where
  bed : BedX X Xc.A.in1 zs gs o its σ ρ Bs Hs
  inv : Inv Xc (pins ++ ((m, o) :: (a, go) :: its)) σc H s
  dis : ∀ p ∈ its, p.1 ≠ a
  gen : ∀ h : Heap, h.get? a = some go → h.IsGen a g
  gs : s.gens[g]? = some gs
  sb : Same Bs B
  sg : Same B H
  own : ∀ b, OwnA σ ρ b → H b = Hs b ∧ B b = none
end Dl

namespace Dl
open PySem PySem.Spec PyProof.Rows L2 GenW
/-! ### a generator def's promise: all its items -/
noncomputable abbrev DSpY := List RV → (List PyData → Prop) → Prop
noncomputable def GMadeE (P : Program) (w : World) (K : PySem.W.Frag) (base : Heap) (k : Nat) (outer : List Env) (zs : List PyData) (B H : Hp) (s : Shared) (u : Value) (s' : Shared) : Prop :=
  ∃ (a g m : Nat) (gs : GenState) (o go : Obj) (σ : L2.St) (ρ : GE), u = .ref a ∧ (∀ h : Heap, h.get? a = some go → h.IsGen a g) ∧ s'.heap.get? a = some go ∧ (∀ v, go.data ≠ .cell v) ∧ s'.gens[g]? = some gs ∧ s'.heap.get? m = some o ∧ s.heap.objs.size ≤ m ∧ m < a ∧
    s'.os = s.os ∧ AllBare s'.gens ∧ (∀ b o, s.heap.get? b = some o → s'.heap.get? b = some o) ∧ (∀ b, ¬ OwnA σ ρ b) ∧ HOk P w H s'.heap ∧
    ∀ A : Around, Room k A → A.guards = some [] → A.frames = some outer → ∃ X : Cx, X.prog = P ∧ X.w = w ∧ X.K = K ∧ X.base = base ∧ X.outer = outer ∧ X.env.locals = m ∧ BedX X A zs gs o [] σ ρ B H
structure GFnE (P : Program) (w : World) (K : PySem.W.Frag) (mg : Str → Option Value) (base : Heap) (k : Nat) (f : Addr) (fd : FuncData) (ps : List Str) (c : DSpY) : Prop where
  len : ∀ rs Q, c rs Q → rs.length = ps.length ∧ ∀ r ∈ rs, ∃ x, r = .d x
  run : ∀ (A : Around) (outer : List Env) (s : Shared) (H : Hp) (args : Args) (us : List Value) (vs : List V) (rs : List RV) (n : Nat) (B : Hp) (bxs : List Addr) (Q : List PyData → Prop), Room k A → Env0 P w K mg base A outer s H → BindsTo s fd args (ps.zip us) → Vals vs us → Good bxs n B H → ValsR K bxs n B H rs vs → c rs Q →
    codeAny (model P w) A (.call (.ref f) args) (fun r s' => match r with | .ok (.ret u) => ∃ zs, Q zs ∧ GMadeE P w K base k outer zs B H s u s' | _ => False) s
/-- such a def, as its callers see it -/
structure DefE (P : Program) (w : World) (K : PySem.W.Frag) (mg : Str → Option Value) (base : Heap) (k : Nat) (x : Str) (ps : List Str) (c : DSpY) : Prop where
  ex : ∃ (f : Addr) (fd : FuncData), GFnE P w K mg base k f fd ps c ∧ mg x = some (.ref f) ∧ PySem.W.keepIn K (.ref f) = true ∧ Binds K fd ps []
/-- the items of a call, as of a list -/
noncomputable def dCallY (c : DSpY) (wr : DA) : DI := fun ρ n Q => wr ρ n fun rs n1 => c rs fun zs => Q zs n1
section
variable {X : Cx} {k : Nat} {ps : List Str} {c : DSpY} {x : Str} {p cpos : Pos} {e : Expr} {es : List Expr} {wr : DA}
/-- another around -/
noncomputable abbrev Cx.arnd (X : Cx) (A : Around) : Cx := { X with A := A }
theorem Inv.arnd {pins : List (Addr × Obj)} {s : Shared} {σ : L2.St} {H : Hp} {A : Around} (I : Inv X pins σ H s) (hf : A.frames = X.A.frames) (hh : A.handled = none) : Inv (Cx.arnd X A) pins σ H s :=
  ⟨⟨I.ok.mod, I.ok.kind, I.ok.glob, I.ok.blt, I.ok.above, I.ok.inj, I.ok.has, I.ok.cab, fun _ => hh, hf.trans I.ok.frames, I.ok.stk, I.ok.exf, I.ok.bs, I.ok.bsz, I.ok.noex, I.ok.exfs, I.ok.funs, I.ok.frf⟩, I.os, I.bare, I.base, I.loc, I.cell, I.free, I.freeC, I.pin, I.hok, I.len⟩
/-- an expression whose value is a generator that sleeps beside its consumer, who will wake it from A -/
structure EvE (X : Cx) (k : Nat) (it : Expr) (wi : DI) : Prop where
  run : ∀ {A : Around}, Here (k + 1) A → A.frames = X.A.frames → ∀ {pins : List (Addr × Obj)} {s : Shared} {σ : L2.St} {H B : Hp} {ρ : DEnv} {n : Nat} {bxs : List Addr} {Q : List PyData → Nat → Prop}, Inv X pins σ H s → Good bxs n B H → EnvR X.K bxs n B H σ ρ → wi ρ n Q →
    wpAny (model X.prog X.w) X.A (eval it X.env) (fun u s2 => ∃ (Xg : Cx) (m a gg : Nat) (go : Obj) (zs : List PyData) (gs : GenState) (o : Obj) (σg : L2.St) (ρg : GE) (H2 B2 : Hp) (n2 : Nat), u = .ref a ∧ Q zs n2 ∧ Step bxs n n2 B H B2 H2 ∧ (∀ b, ¬ OwnA σg ρg b) ∧
      (∀ b, m ≤ b → H2 b = none) ∧ Pair (Cx.arnd X A) Xg m a gg go pins zs gs o [] σg ρg B2 H2 B2 H2 σ s2 ∧ Host (Cx.arnd X A) Xg m [(a, go)] pins H2 (fun _ => False)) X.xe s
/-- such a def, called by names -/
structure DefEK (P : Program) (w : World) (K : PySem.W.Frag) (mg : Str → Option Value) (base : Heap) (k : Nat) (x : Str) (ps : List Str) (st : Stmt) (c : DSpY) : Prop where
  ex : ∃ (f : Addr) (fd : FuncData), GFnE P w K mg base k f fd ps c ∧ mg x = some (.ref f) ∧ Fun K x x st f fd
noncomputable def dCallYK (idx : List Nat) (c : DSpY) (wr : DA) : DI := fun ρ n Q => wr ρ n fun rs n1 => c (pick idx rs) fun zs => Q zs n1
end
end Dl

namespace Dl
open PySem PySem.Spec PyProof.Rows L2 GenW
/-! ### for over a generator -/
/-- the sleeper's own things stand apart from the consumer's -/
structure OwnF (E : Ent) (O : Addr → Prop) (B H : Hp) (bxs : List Addr) (σ : L2.St) (ρ : DEnv) : Prop where
  eh : ∀ b, O b → E.H b = none
  nb : ∀ b, O b → b ∉ bxs
  bn : ∀ b, O b → B b = none
  at_ : ∀ b, O b → ∃ u, H b = some u
  ow : ∀ b, O b → ∀ (j : Nat) (r : RV), ρ[j]? = some (some r) → isOwn r → σ[j]? ≠ some (some (.ref b))
open Classical in
section
variable {K : PySem.W.Frag} {E : Ent} {O : Addr → Prop} {M B H B1 H1 Hs : Hp} {n n1 : Nat} {bxs : List Addr} {σ : L2.St} {ρ : DEnv}
theorem BoxAt.same {H H' : Hp} {b : Addr} {n : Nat} (h : BoxAt H b n) (k : ∀ o, H b = some o → H' b = some o) : BoxAt H' b n := h.keep k
end
section
variable {X : Cx} {E : Ent} {k : Nat} {it : Expr} {wi : DI} {pos : Pos} {tg : Expr} {us : List Nat} {wg : DG} {body : List Stmt} {wb : DS}
end
end Dl

namespace Dl
open PySem PySem.Spec PyProof.Rows L2 GenW
/-! ### a list comprehension over a generator -/
/-- the sleeper's own things, seen from an expression that began at H -/
structure OwnL (O : Addr → Prop) (D : Addr) (bxs : List Addr) (H Bc Hc : Hp) : Prop where
  new : ∀ b, O b → H b = none
  nb : ∀ b, O b → b ∉ bxs
  nD : ∀ b, O b → b ≠ D
  bn : ∀ b, O b → Bc b = none
  at_ : ∀ b, O b → ∃ u, Hc b = some u
section
variable {X : Cx} {k : Nat} {it : Expr} {wi : DI} {tg : Expr} {us : List Nat} {wg : DG} {elt : Expr} {ifs : List Expr} {scope : Scope} {own : List (Str × Nat)} {tt : DT} {we : DE}
end
end Dl

namespace Dl
open PySem PySem.Spec PyProof.Rows L2 GenW
/-! ### list(g), tuple(g) -/
/-- a young thing of the consumer's -/
structure Yng (X Xg : Cx) (pins : List (Addr × Obj)) (m a S : Addr) : Prop where
  ex : S ∈ X.ex ∨ X.s_0.heap.objs.size ≤ S
  loc : S ≠ X.env.locals
  cell : ∀ x c, X.env.cells.lookup x = some c → c ≠ S
  pins : ∀ p ∈ X.pn ++ pins, p.1 ≠ S
  m : m < S
  a : a ≠ S
  fs : S ∉ Xg.fs
section
variable {X Xg : Cx} {A : Around} {k m a g S : Nat} {go : Obj} {pins : List (Addr × Obj)} {res : Value} {R : Result → Shared → Prop} {bxs : List Addr} {n n2 : Nat} {B0 H0 : Hp} {σ : L2.St} {items : List PyData}
end
/-- all items, as a list or a tuple -/
noncomputable def dListY (wi : DI) : DE := fun ρ n Q => wi ρ n fun items n1 => items.length ≤ sizeLine ∧ Q (.new items) n1
noncomputable def dTupY (wi : DI) : DE := fun ρ n Q => wi ρ n fun items n1 => items.length ≤ sizeLine ∧ Q (.d (.tuple items)) n1
section
variable {X : Cx} {k : Nat} {it : Expr} {wi : DI} {pos p1 : Pos}
end
end Dl

namespace Dl
open PySem PySem.Spec PyProof.Rows L2 GenW
/-! ### name = [.. for .. in g] on one line -/
section
variable {X : Cx} {E : Ent} {k : Nat} {it : Expr} {wi : DI} {tg : Expr} {us : List Nat} {wg : DG} {elt : Expr} {ifs : List Expr} {scope : Scope} {own : List (Str × Nat)} {tt : DT} {we : DE} {pos spos py : Pos} {y : Str}
end
end Dl

namespace Dl
open PySem PySem.Spec PyProof.Rows L2 GenW
/-! ### readings of generators, part by part -/
/-! ### x is True, x a bool -/
section
variable {X : Cx}
noncomputable def wIsB : DOp := fun x y Q => match x, y with
  | .bool a, .bool b => Q (.d (.bool (a == b)))
  | _, _ => False
end
end Dl

namespace Dl
open PySem PySem.Spec PyProof.Rows L2 GenW
/-! ### objects of the program's classes: methods and __init__ whose defs are read at data level -/
section
variable {X : Cx} {k : Nat} {C f : Addr} {fd : FuncData} {ps : List Str} {sp : Sp} {x m : Str} {p pos apos : Pos} {e o : Expr} {es : List Expr} {ta : TE} {t : TA}
/-- a field that holds data -/
noncomputable def FldOf (C : Addr) (f : Str) (T : OwnT) (x : PyData) : Prop := ∀ (K : PySem.W.Frag) (B : Hp) (a : Addr) (o : HO), T.rel K B a o → ∃ dx fs v, o = .ins C dx fs ∧ fs.lookup f = some v ∧ Dp K B v x
noncomputable def dFld (C : Addr) (f : Str) (i : Nat) : DE := fun ρ n Q => ∃ T x, ρ[i]? = some (some (.own T)) ∧ FldOf C f T x ∧ Q (.d x) n
theorem StepO.of {O : Addr → Prop} {n n1 : Nat} {B H B1 H1 : Hp} (s : Step [] n n1 B H B1 H1) : StepO O B H B1 H1 := ⟨s.b1, s.b2, fun a _ h => s.b3 a h, fun a o _ h => s.h1 a o List.not_mem_nil h⟩
theorem StepO.trans {O : Addr → Prop} {B H B1 H1 B2 H2 : Hp} (s : StepO O B H B1 H1) (t : StepO O B1 H1 B2 H2) : StepO O B H B2 H2 :=
  ⟨s.b1.trans t.b1, t.b2, fun a hn h => by
    cases e : H a with
    | none => exact absurd e h
    | some o => rw [t.b3 a hn (ne_none_of (s.h1 a o hn e)), s.b3 a hn h], fun a o hn h => t.h1 a o hn (s.h1 a o hn h)⟩
/-- an own place is written -/
theorem StepO.put {O : Addr → Prop} {B H : Hp} {a : Addr} {o : HO} (sg : Same B H) (ha : O a) (hb : B a = none) : StepO O B H B (upd H a o) :=
  ⟨Same.refl _, fun b u e => by
    rw [upd_ne (ne_of_none e hb)]
    exact sg b u e, fun _ _ _ => rfl, fun b u hn e => by
    rw [upd_ne fun z => hn (by rw [z]; exact ha)]
    exact e⟩
end
end Dl

namespace Dl
open PySem PySem.Spec PyProof.Rows L2
/-! ### a, b = a pair of data and a thing of one's own: the second name holds nothing that is read any more -/
noncomputable def dUnpPair (i j : Nat) (we : DE) : DS := fun D ρ n => we ρ n fun r n1 => ∃ x, r = .own (pairT x) ∧ D.nx ((ρ.set i (some (.d x))).set j none) n1
section
variable {X : Cx} {E : Ent} {pos : Pos} {x y : Str} {px py pu : Pos} {we : DE} {e : Expr} {kt : Nat}
end
/-! ### xs[i] += e, xs an own list -/
noncomputable def dAugIx (i : Nat) (f : Int → Int → Int) (wj we : DE) : DS := fun D ρ n => onS ρ[i]? fun xs => wj ρ n fun rj n1 => onI rj fun k => ∃ m a, ixN xs.length k = some m ∧ xs[m]? = some (.int a) ∧ we ρ n1 fun r n2 => onI r fun b => D.nx (ρ.set i (some (.new (xs.set m (.int (f a b)))))) n2
section
variable {X : Cx} {E : Ent} {pos p1 p2 : Pos} {x : Str} {wj we : DE} {ej e : Expr} {op : Operator}
end
end Dl

namespace Dl
open PySem PySem.Spec PyProof.Rows L2
/-! ### a dict of numbers with numbers, made by a comprehension: its keys stay -/
noncomputable def kvF (xs : List Int) (f : Int → Int) : List (Key × V) := xs.map fun x => (.inl x, V.int (f x))
noncomputable def dKF (xs : List Int) (f : Int → Int) : OwnT where
  rel := fun _ _ _ o => o = .dK (kvF xs f)
  mono := fun _ h => h
noncomputable def dDKnew (i j : Nat) (we : DE) : DS := fun D ρ n => j < ρ.length ∧ we ρ n fun r n1 => ∃ xs : List Int, r = .d (.tuple (xs.map .int)) ∧ xs.Nodup ∧ xs.length < 1000 ∧ D.nx (ρ.set i (some (.own (dKF xs fun _ => 0)))) n1
noncomputable def dDKaug (i : Nat) (wk we : DE) : DS := fun D ρ n => ∃ xs f, ρ[i]? = some (some (.own (dKF xs f))) ∧ xs.length < 1000 ∧ wk ρ n fun rk n1 => onI rk fun k => k ∈ xs ∧ we ρ n1 fun r n2 => onI r fun b => D.nx (ρ.set i (some (.own (dKF xs fun x => if x = k then f k + b else f x)))) n2
noncomputable def dDKix (i : Nat) (wk : DE) : DE := fun ρ n Q => ∃ xs f, ρ[i]? = some (some (.own (dKF xs f))) ∧ wk ρ n fun rk n1 => onI rk fun k => k ∈ xs ∧ Q (.d (.int (f k))) n1
noncomputable def dDKsort (i : Nat) : DE := fun ρ n Q => ∃ xs f, ρ[i]? = some (some (.own (dKF xs f))) ∧ xs.length < 64 ∧ ∀ ys : List Int, ys.Perm xs → ys.Pairwise (· ≤ ·) → Q (.new (ys.map .int)) n
section
variable {X : Cx} {E : Ent} {pos p1 p2 p3 p4 p5 : Pos} {x y : Str} {wk we : DE} {ek e iter : Expr} {scope : Scope}
end
/-! ### sorted(set(xs)) of more numbers -/
section
variable {X : Cx} {E : Ent}
noncomputable def wSortSetI : DCall := fun xs Q => match xs with
  | [.list yd] => ∃ ks : List Int, yd = ks.map PyData.int ∧ ks.length < 200 ∧ Q (.new (sortD ((metL ks).map PyData.int)))
  | [.tuple yd] => ∃ ks : List Int, yd = ks.map PyData.int ∧ ks.length < 200 ∧ Q (.new (sortD ((metL ks).map PyData.int)))
  | _ => False
end
end Dl

namespace Dl
open PySem PySem.Spec PyProof.Rows L2
/-! ### max(xs), min(xs) of a list of numbers -/
noncomputable def IsMx (m : Int) (ns : List Int) : Prop := m ∈ ns ∧ ∀ y, y ∈ ns → y ≤ m
noncomputable def IsMn (m : Int) (ns : List Int) : Prop := m ∈ ns ∧ ∀ y, y ∈ ns → m ≤ y
theorem IsMx.eq {m k : Int} {ns : List Int} (h : IsMx m ns) (g : IsMx k ns) : m = k := Int.le_antisymm (g.2 m h.1) (h.2 k g.1)
theorem IsMn.eq {m k : Int} {ns : List Int} (h : IsMn m ns) (g : IsMn k ns) : m = k := Int.le_antisymm (h.2 k g.1) (g.2 m h.1)
noncomputable def wMaxL : DCall := fun xs Q => ∃ ns : List Int, xs = [.list (ns.map .int)] ∧ 0 < ns.length ∧ ∀ m, IsMx m ns → Q (.d (.int m))
noncomputable def wMinL : DCall := fun xs Q => ∃ ns : List Int, xs = [.list (ns.map .int)] ∧ 0 < ns.length ∧ ∀ m, IsMn m ns → Q (.d (.int m))
section
variable {X : Cx}
theorem lc_minL (hc : X.calm = true) : LCall X (.builtin "min") wMinL := by
  refine ⟨_, cr_min hc, fun bxs n B H xs vs Qd Q g hv w k => ?_⟩
  obtain ⟨ns, rfl, h0, w⟩ := w
  obtain ⟨v, rfl, dx⟩ := dpvs1 hv
  obtain ⟨p, us, rfl, h1, h2⟩ := dx.list g.sub
  rw [ofInts _ _ h2] at h1
  exact ⟨p, ns, rfl, h1, h0, fun m hm hy => k _ _ B H (w m ⟨hm, hy⟩) g.refl (.int _) trivial⟩
end
end Dl

namespace Dl
open PySem PySem.Spec PyProof.Rows L2
/-! ### defs that may raise an exception of the program's own, with one field -/
structure FnX (P : Program) (w : World) (K : PySem.W.Frag) (mg : Str → Option Value) (base : Heap) (k : Nat) (f : Addr) (fd : FuncData) (ps : List Str) (sp : Sp) : Prop where
  len : ∀ vs H Q E, sp vs H Q E → vs.length = ps.length
  run : ∀ (A : Around) (outer : List Env) (s : Shared) (H : Hp) (args : Args) (us : List Value) (vs : List V) (Q : VK) (E : XK), Room k A → A.guards = some [] → Env0 P w K mg base A outer s H → BindsTo s fd args (ps.zip us) → Vals vs us → sp vs H Q E →
    codeAny (model P w) A (.call (.ref f) args) (CR (L2.CX P w) outer P w H s Q E) s
section
variable {P : Program} {w : World} {K : PySem.W.Frag} {mg : Str → Option Value} {base : Heap}
end
section
variable {X : Cx} {k : Nat} {f : Addr} {fd : FuncData} {ps : List Str} {sp : Sp} {E : L2.St → XK} {x : Str} {p pos : Pos} {e : Expr} {es : List Expr} {t : TA}
end
/-! ### the same at data level: plain data in, plain data or an exception's value out -/
noncomputable abbrev DSpX := List PyData → (PyData → Prop) → (PyData → Prop) → Prop
noncomputable def liftX (K : PySem.W.Frag) (C : Addr) (fld : Str) (c : DSpX) : Sp := fun vs H Q E => ∃ (xs : List PyData) (B : Hp) (Qd Ed : PyData → Prop), Same B H ∧ DpAll K B vs xs ∧ c xs Qd Ed ∧
  (∀ y v n B1 H1, Qd y → Step [] 0 n B H B1 H1 → Dp K B1 v y → Q v H1) ∧ (∀ y v d n B1 H1, Ed y → Step [] 0 n B H B1 H1 → Dp K B1 v y → B1 d = some (.xd [(fld, v)]) → E (.ref C) (some d) H1)
section
variable {P : Program} {w : World} {K : PySem.W.Frag} {mg : Str → Option Value} {base : Heap}
end
/-! ### the exception's own __init__, and raise C(e) -/
noncomputable def spExI (K : PySem.W.Frag) (C : Addr) (fld : Str) (ok : PyData → Prop) : Sp := fun vs H Q _ => ∃ (a : Addr) (v : V) (x : PyData) (B : Hp), vs = [.ref a, v] ∧ H a = some (exo a C none) ∧ Same B H ∧ Dp K B v x ∧ ok x ∧
  ∀ d, H d = none → d ≠ a → Q .non (upd (upd H d (exd d [(fld, v)])) a (exo a C (some d)))
/-! ### C(e, ..), C's own __init__ a def that may use repr -/
section
variable {X : Cx} {C fI : Addr} {k : Nat} {fd : FuncData} {ps : List Str} {sp : Sp}
end
/-- the class, as its users see it -/
structure ExDef (P : Program) (w : World) (K : PySem.W.Frag) (mg : Str → Option Value) (base : Heap) (k : Nat) (x : Str) (fld : Str) (ok : PyData → Prop) (C : Addr) : Prop where
  oex : OexC K C
  ex : ∃ (fI : Addr) (fdI : FuncData) (pn : Str), PySem.W.findIn K (.ref C) "__init__" = some (some (.ref fI)) ∧ PySem.W.typeIn K (.ref fI) = some (.type "function") ∧ FnG P w K mg base k fI fdI ["self", pn] (spExI K C fld ok) ∧ Binds K fdI ["self", pn] []
  mgC : mg x = some (.ref C)
  xfc : XfC K C
  nof : PySem.W.findIn K (.ref C) fld = some none
  exm : PySem.W.exmOne K (.ref C) (.ref C) = some true
noncomputable def dRaiseX (ok Ed : PyData → Prop) (we : DE) : DS := fun _ ρ n => we ρ n fun r _ => ∃ y, r = .d y ∧ ok y ∧ Ed y
/-! ### a def that may raise, as its callers see it; try: x = (c1, f(..)) except C as e: x = (c2, e.fld) -/
structure DefX (P : Program) (w : World) (K : PySem.W.Frag) (mg : Str → Option Value) (base : Heap) (k : Nat) (x : Str) (ps : List Str) (C : Addr) (fld : Str) (c : DSpX) : Prop where
  ex : ∃ (f : Addr) (fd : FuncData), FnX P w K mg base k f fd ps (liftX K C fld c) ∧ mg x = some (.ref f) ∧ PySem.W.keepIn K (.ref f) = true ∧ Binds K fd ps []
noncomputable def allD : List RV → Option (List PyData)
  | [] => some []
  | .d x :: rs => (allD rs).map (x :: ·)
  | _ => none
noncomputable def dTryX (i k : Nat) (c1 c2 : Str) (c : DSpX) (wr : DA) : DS := fun D ρ n => k < ρ.length ∧ wr ρ n fun rs n1 => ∃ xs, allD rs = some xs ∧
  c xs (fun y => D.nx (ρ.set i (some (.d (.tuple [.str c1, y])))) n1) (fun y => D.nx (((ρ.set k none).set i (some (.d (.tuple [.str c2, y])))).set k none) n1)
section
variable {X : Cx} {En : Ent} {x fn cn en : Str} {fld c1 c2 : Str} {px px2 pf pc p1 p2 p3 p4 pt pt2 ps ps2 np pos pos' : Pos} {j1 j2 kt kt2 : Nat} {e : Expr} {es : List Expr} {wr : DA}
end
end Dl

namespace Dl
open PySem PySem.Spec PyProof.Rows L2
/-! ### an exception that stays behind its handler -/
noncomputable def xobj (a : Addr) (oe : Obj) : HO := .ext fun h => h.get? a = some oe
section
variable {X : Cx} {x n : Str} {c : Value} {i : Nat} {body suite : List Stmt} {b₀ : Stmt} {np pos pos' : Pos} {tb : WX → TS} {ts : Addr → Value → Option Addr → TS}
end
end Dl

namespace Dl
open PySem PySem.Spec PyProof.Rows L2
/-! ### a kept exception as a thing of one's own -/
noncomputable def excT (C : Addr) (fld : Str) (x : PyData) : OwnT where
  rel := fun K B p o => ∃ (oe : Obj) (d : Addr) (v : V), o = xobj p oe ∧ Zc (.ref C) (some d) oe ∧ (∃ vs, oe.data = .fields vs) ∧ B d = some (.xd [(fld, v)]) ∧ Dp K B v x
  mono := fun s ⟨oe, d, v, e, h1, h2, h3, h4⟩ => ⟨oe, d, v, e, h1, h2, s d _ h3, dpSame s _ _ h4⟩
noncomputable def dTryRet (j k : Nat) (C : Addr) (fld : Str) (c : DSpX) (wr : DA) : DS := fun D ρ n => k < ρ.length ∧ wr ρ n fun rs n1 => ∃ xs, allD rs = some xs ∧
  c xs (fun y => D.rt (.d y) n1) (fun y => D.nx (((ρ.set k none).set j (some (.own (excT C fld y)))).set k none) n1)
section
variable {X : Cx} {En : Ent} {x fn cn en : Str} {fld : Str} {px pf pc p1 p2 ps ps2 np pos pos' : Pos} {e : Expr} {es : List Expr} {wr : DA}
/-! ### isinstance(x, D), x.fld -/
noncomputable def dIsX (j : Nat) (C : Addr) (b : Bool) : DE := fun ρ n Q => ∃ fld y, ρ[j]? = some (some (.own (excT C fld y))) ∧ Q (.d (.bool b)) n
structure IsxC (K : PySem.W.Frag) (C : Addr) : Prop where
  hcl : PySem.W.isClsIn K C = true
  hga : PySem.W.findIn K (.ref C) "__getattribute__" = some (some (.builtin "BaseException.__getattribute__"))
  hgt : PySem.W.findIn K (.ref C) "__getattr__" = some none
  hsub : PySem.W.subIn K (.ref C) (.type "BaseException") = some true
  ha : PySem.W.findIn K (.ref C) "__class__" = some (some (.builtin "object.__class__"))
  hn : PySem.W.specialIn K (.builtin "object.__class__") "__get__" = some (some (.builtin "getset_descriptor.__get__"))
  htk : PySem.W.takesIn K (.builtin "object.__class__") = some true
  hm : PySem.W.mroIn K C (.type "object") = some true
section
variable {X : Cx} {x nm fld : Str} {p p1 p2 pos : Pos} {C : Addr}
/-- x.fld -/
noncomputable def dXFld (j : Nat) (C : Addr) (fld : Str) : DE := fun ρ n Q => ∃ y, ρ[j]? = some (some (.own (excT C fld y))) ∧ Q (.d y) n
end
end
end Dl

namespace Dl
open PySem PySem.Spec PyProof.Rows L2
/-! ### f'{x!r}', x any plain data -/
section
variable {X : Cx}
end
/-! ### the __init__ of an exception with a value of any kind: Base.__init__(self, f'{value!r} ..'); self.value = value -/
noncomputable def okV (x : PyData) : Prop := x.showable = true ∧ x.shown.length ≤ 60000 ∧ x.depth ≤ 60
theorem okV.repr {x : PyData} (h : okV x) : ReprOk x := ⟨h.1, Nat.le_trans h.2.1 (by rw [sizeLine_eq]; decide), h.2.2⟩
end Dl

namespace Dl
open PySem PySem.Spec PyProof.Rows L2
/-! ### comprehensions with two for clauses -/
theorem del_upd2 {H : Hp} {D : Addr} {x : HO} : L2.del (L2.upd H D x) D = L2.del H D := by
  funext c
  by_cases q : c = D
  · rw [q, del_same, del_same]
  · rw [del_ne q, upd_ne q, del_ne q]
theorem del_none {H : Hp} {D c : Addr} (h : H c = none) : L2.del H D c = none := by
  by_cases q : c = D
  · rw [q, del_same]
  · rw [del_ne q, h]
theorem of_del {H : Hp} {D c : Addr} {o : HO} (h : L2.del H D c = some o) : c ≠ D ∧ H c = some o := by
  by_cases q : c = D
  · rw [q, del_same] at h
    cases h
  · rw [del_ne q] at h
    exact ⟨q, h⟩
theorem same_del {B H : Hp} {D : Addr} (s : Same B H) (h : B D = none) : Same B (L2.del H D) := fun c o e => by
  rw [del_ne (fun q => by rw [q, h] at e; cases e)]
  exact s c o e
theorem Step.del {bxs : List Addr} {n n' : Nat} {B H B' H' : Hp} {D : Addr} (s : Step bxs n n' B H B' H') (nD : D ∉ bxs) (bD : B' D = none) : Step bxs n n' B (L2.del H D) B' (L2.del H' D) where
  b1 := s.b1
  b2 := same_del s.b2 bD
  b3 := fun a h => s.b3 a fun z => h (del_none z)
  h1 := fun a o ha h => by
    obtain ⟨q, h⟩ := of_del h
    rw [del_ne q]
    exact s.h1 a o ha h
  bx := fun b hb => (s.bx b hb).keep fun o h => by
    rw [del_ne fun q => nD (by rw [← q]; exact hb)]
    exact h
  nn := s.nn
theorem EnvR.del {K : PySem.W.Frag} {bxs : List Addr} {n : Nat} {B H : Hp} {σ : L2.St} {ρ : DEnv} {D : Addr} (e : EnvR K bxs n B H σ ρ) (ho : ∀ (i : Nat) (r : RV), ρ[i]? = some (some r) → isOwn r → σ[i]? ≠ some (some (.ref D))) : EnvR K bxs n B (L2.del H D) σ ρ :=
  ⟨e.len, fun i r hr => by
    obtain ⟨u, e2, e3⟩ := e.val i r hr
    refine ⟨u, e2, ?_⟩
    cases r with
    | d x => exact e3
    | box => exact e3
    | bor ys => exact (e.ok i _ hr).elim
    | new ys =>
      obtain ⟨q, us, rfl, c1, c2, c3, c4⟩ := e3
      exact ⟨q, us, rfl, c1, c2, by rw [del_ne (show q ≠ D from fun z => ho i _ hr trivial (z ▸ e2))]; exact c3, c4⟩
    | obj o0 => exact e3
    | nbox => exact (e.ok i _ hr).elim
    | own T =>
      obtain ⟨q, us, rfl, c1, c2, c3, c4⟩ := e3
      exact ⟨q, us, rfl, c1, c2, by rw [del_ne (show q ≠ D from fun z => ho i _ hr trivial (z ▸ e2))]; exact c3, c4⟩, e.own, e.ok⟩
theorem EnvR.undel {K : PySem.W.Frag} {bxs : List Addr} {n : Nat} {B H : Hp} {σ : L2.St} {ρ : DEnv} {D : Addr} (e : EnvR K bxs n B (L2.del H D) σ ρ) : EnvR K bxs n B H σ ρ :=
  ⟨e.len, fun i r hr => by
    obtain ⟨u, e2, e3⟩ := e.val i r hr
    refine ⟨u, e2, ?_⟩
    cases r with
    | d x => exact e3
    | box => exact e3
    | bor ys => exact (e.ok i _ hr).elim
    | new ys =>
      obtain ⟨q, us, rfl, c1, c2, c3, c4⟩ := e3
      exact ⟨q, us, rfl, c1, c2, (of_del c3).2, c4⟩
    | obj o0 => exact e3
    | nbox =>
      obtain ⟨q, rfl, c1, c2, c3⟩ := e3
      exact ⟨q, rfl, c1, c2, c3.keep fun o h => (of_del h).2⟩
    | own T =>
      obtain ⟨q, us, rfl, c1, c2, c3, c4⟩ := e3
      exact ⟨q, us, rfl, c1, c2, (of_del c3).2, c4⟩, e.own, e.ok⟩
/-- the list under way at D -/
structure LSt (K : PySem.W.Frag) (bxs : List Addr) (n : Nat) (B H B1 : Hp) (D : Addr) (acc : List PyData) (nc : Nat) (Bc Hc : Hp) (av : List V) : Prop where
  st : Step bxs n nc B H Bc (L2.del Hc D)
  sb : Same B1 Bc
  bD : Bc D = none
  hD : Hc D = some (.lst av)
  da : DpAll K Bc av acc
section
variable {K : PySem.W.Frag} {bxs : List Addr} {n nc n2 : Nat} {B H B1 Bc Hc B2 H2 : Hp} {D : Addr} {acc : List PyData} {av : List V} {σ : L2.St} {ρ : DEnv}
theorem LSt.step (L : LSt K bxs n B H B1 D acc nc Bc Hc av) (nD : D ∉ bxs) (s : Step bxs nc n2 Bc Hc B2 H2) : LSt K bxs n B H B1 D acc n2 B2 H2 av := by
  have b2 : B2 D = none := by rw [s.b3 D (ne_none_of L.hD)]; exact L.bD
  exact ⟨L.st.trans (s.del nD b2), L.sb.trans s.b1, b2, s.h1 D _ nD L.hD, dpSameAll s.b1 _ _ L.da⟩
theorem LSt.env (L : LSt K bxs n B H B1 D acc nc Bc Hc av) (e : EnvR K bxs n B H σ ρ) : EnvR K bxs nc Bc Hc σ ρ := (e.step L.st).undel
theorem LSt.whole (L : LSt K bxs n B H B1 D acc nc Bc Hc av) : Step bxs n nc B H Bc Hc where
  b1 := L.st.b1
  b2 := fun c o h => (of_del (L.st.b2 c o h)).2
  b3 := L.st.b3
  h1 := fun a o ha h => (of_del (L.st.h1 a o ha h)).2
  bx := fun b hb => (L.st.bx b hb).keep fun o h => (of_del h).2
  nn := L.st.nn
end
section
variable {X : Cx} {elt tg iter tg1 iter1 : Expr} {ifs ifs1 : List Expr} {scope : Scope} {own : List (Str × Nat)} {us us1 vs1 : List Nat} {pos : Pos} {wi wi1 : DI} {wg wg1 : DG} {tt tt1 : DT} {we : DE}
end
end Dl

namespace Dl
open PySem PySem.Spec PyProof.Rows L2
/-! ### zip taken by one name: the tuple handed out may still be held -/
section
variable {prog : Program} {w : World} {A : Around} {E : Value → Shared → Prop} {s : Shared} {z TI TO T i1 i2 : Addr} {fp1 fp2 : List Addr} {n1 n2 i : Nat} {P1 P2 : Nat → Value → Prop} {St1 St2 : Nat → Heap → Prop} {f : Bool} {a1 a2 : Value}
noncomputable abbrev IsZipY (h : Heap) (z TI TO : Addr) (x : Value) (f : Bool) : Prop := h.get? z = some { cls := .type "zip", data := .fields #[x, .bool f, .bool false, .ref TI, .ref TO] }
theorem free_gone {Q : Bool → Shared → Prop} (hz : IsZipO s.heap z TI TO T f) (hT : s.heap.get? T = none) (hQ : Q true s) : wpAny (model prog w) A (Builtin.SmallTypes.ownedTupleIsFree (.ref z)) Q E s := by
  unfold Builtin.SmallTypes.ownedTupleIsFree
  refine wpAny_bind (wpAny_field hz rfl (x := rawInt T) rfl ?_)
  unfold rawInt
  dsimp only
  refine wpAny_bind (alive_look ?_)
  rw [show ((T : Int)).toNat = T from Int.toNat_natCast T, hT]
  show wpAny _ _ (if (Option.none : Option Obj).isNone = true then _ else _) _ _ _
  rw [if_pos (by rfl)]
  exact wpAny_pure hQ
/-- the tuple of before is gone: the zip's own one serves again -/
theorem gone_item {Q : Value → Shared → Prop} (S : ZipSep2 z TI TO i1 i2 fp1 fp2) (D1 : Draws prog w A i1 fp1 n1 P1 St1) (D2 : Draws prog w A i2 fp2 n2 P2 St2)
    (hz : IsZipO s.heap z TI TO T f) (hT : s.heap.get? T = none) (hTI : IsTupOf2 s.heap TI (.ref i1) (.ref i2)) (hTO : IsTupOf2 s.heap TO a1 a2) (st1 : St1 i s.heap) (st2 : St2 i s.heap) (l1 : i < n1) (l2 : i < n2)
    (hQ : ∀ x1 x2 h' tk T', P1 i x1 → P2 i x2 → IsZipO h' z TI TO T' false → IsTupOf2 h' TO x1 x2 → St1 (i + 1) h' → St2 (i + 1) h' → IsTupOf2 h' s.heap.objs.size x1 x2 → h'.objs.size = s.heap.objs.size + 1 →
      (∀ c o, c ≠ z → c ≠ TO → c ≠ i1 → c ≠ i2 → s.heap.get? c = some o → h'.get? c = some o) → Q (.ref s.heap.objs.size) { s with heap := h', toks := tk }) :
    wpAny (model prog w) A (Builtin.«zip.__next__» ⟨[.ref z], []⟩) (fun fin s' => ∃ v, fin = .done (.ret v) ∧ Q v s') E s := by
  obtain ⟨hp, g, d, tk0, os⟩ := s
  show wpAny _ _ (field (.ref z) 2 >>= _) _ _ _
  refine wpAny_bind (wpAny_field hz rfl (x := .bool false) rfl ?_)
  show wpAny _ _ (field (.ref z) 3 >>= _) _ _ _
  refine wpAny_bind (wpAny_field hz rfl (x := .ref TI) rfl ?_)
  refine wpAny_bind (wpAny_seqItems hTI rfl ?_)
  show wpAny _ _ (Builtin.SmallTypes.ownedTupleIsFree (.ref z) >>= _) _ _ _
  refine wpAny_bind (free_gone (s := ⟨hp, g, d, tk0, os⟩) hz hT ?_)
  simp only [if_true]
  refine wpAny_bind (wpAny_rule ?_)
  refine wpAny_bind (wpAny_field hz rfl (x := .ref TO) rfl ?_)
  refine wpAny_bind (wpAny_setField_rec hz (by simp) fun g0 hz0 hs0 => ?_)
  replace hz0 : IsZipY g0 z TI TO .ellipsis f := hz0
  replace hs0 : Heap.SameBut z hp g0 := hs0
  refine wpAny_bind ?_
  simp only [List.zipIdx_cons, List.zipIdx_nil, List.forIn_cons, List.forIn_nil]
  refine wpAny_bind (wpAny_bind (wpAny_onRaise ?_))
  show wpAny _ _ (Builtin.SmallTypes.nextOf (.ref i1) >>= _) _ _ ⟨g0, g, d, tk0, os⟩
  refine wpAny_bind (D1.item i _ _ _ l1 (D1.over st1 hs0 S.zf1) fun x1 p1 tk1 hx1 sn1 hp1 => wpAny_pure ?_)
  replace hp1 : Heap.SameBut i1 g0 p1 := hp1
  have u1 : IsTupOf2 p1 TO a1 a2 := hp1.extBut _ _ S.Ti1 (hs0.extBut _ _ S.TOz hTO)
  refine wpAny_bind (wpAny_seqItems (s := ⟨p1, g, d, tk1, os⟩) u1 rfl ?_)
  refine wpAny_bind (updateSeq_IsTupOf2 (s := ⟨p1, g, d, tk1, os⟩) u1 fun g1 v1 hs1 => ?_)
  replace v1 : IsTupOf2 g1 TO x1 a2 := v1
  replace hs1 : Heap.SameBut TO p1 g1 := hs1
  refine wpAny_bind (wpAny_letGo (wpAny_pure ?_))
  refine wpAny_bind (wpAny_bind (wpAny_onRaise ?_))
  show wpAny _ _ (Builtin.SmallTypes.nextOf (.ref i2) >>= _) _ _ ⟨g1, g, d, tk1, os⟩
  refine wpAny_bind (D2.item i _ _ _ l2 (D2.over (D2.over (D2.over st2 hs0 S.zf2) hp1 S.sep1_2) hs1 S.Tf2) fun x2 p2 tk2 hx2 sn2 hp2 => wpAny_pure ?_)
  replace hp2 : Heap.SameBut i2 g1 p2 := hp2
  have u2 : IsTupOf2 p2 TO x1 a2 := hp2.extBut _ _ S.Ti2 v1
  refine wpAny_bind (wpAny_seqItems (s := ⟨p2, g, d, tk2, os⟩) u2 rfl ?_)
  refine wpAny_bind (updateSeq_IsTupOf2 (s := ⟨p2, g, d, tk2, os⟩) u2 fun g2 v2 hs2 => ?_)
  replace v2 : IsTupOf2 g2 TO x1 x2 := v2
  replace hs2 : Heap.SameBut TO p2 g2 := hs2
  refine wpAny_bind (wpAny_letGo (wpAny_pure (wpAny_pure ?_)))
  refine wpAny_bind (wpAny_seqItems (s := ⟨g2, g, d, tk2, os⟩) v2 rfl ?_)
  refine wpAny_bind (wpAny_newTuple ?_)
  have sz : g2.objs.size = hp.objs.size := by rw [hs2.1, hp2.1, hs1.1, hp1.1, hs0.1]
  have zz : IsZipY g2 z TI TO .ellipsis f := hs2.extBut _ _ S.TOz.symm (hp2.extBut _ _ S.zi2 (hs1.extBut _ _ S.TOz.symm (hp1.extBut _ _ S.zi1 hz0)))
  have kk : ∀ c o, c ≠ z → c ≠ TO → c ≠ i1 → c ≠ i2 → hp.get? c = some o → g2.get? c = some o := fun c o cz cT c1 c2 e =>
    hs2.extBut _ _ cT (hp2.extBut _ _ c2 (hs1.extBut _ _ cT (hp1.extBut _ _ c1 (hs0.extBut _ _ cz e))))
  have j1 : St1 (i + 1) g2 := D1.over (D1.over (D1.over sn1 hs1 S.Tf1) hp2 S.sep2_1) hs2 S.Tf1
  have j2 : St2 (i + 1) g2 := D2.over sn2 hs2 S.Tf2
  have zlt : z < g2.objs.size := Heap.lt_size zz
  show wpAny _ _ (Builtin.SmallTypes.ownedTupleHandOut (.ref z) (.ref g2.objs.size) >>= _) _ _ ⟨g2.push { cls := .type "tuple", data := .seq #[x1, x2] }, g, d, tk2, os⟩
  refine wpAny_bind ?_
  unfold Builtin.SmallTypes.ownedTupleHandOut
  have z6 : IsZipY (g2.push { cls := .type "tuple", data := .seq #[x1, x2] }) z TI TO .ellipsis f := Heap.get?_push_of_some _ zz
  refine wpAny_bind (wpAny_setField_rec z6 (by simp) fun h7 z7 s7 => ?_)
  replace z7 : IsZipO h7 z TI TO g2.objs.size f := z7
  refine wpAny_setField_rec z7 (by simp) fun h8 z8 s8 => ?_
  replace z8 : IsZipO h8 z TI TO g2.objs.size false := z8
  replace s7 : Heap.SameBut z (g2.push { cls := .type "tuple", data := .seq #[x1, x2] }) h7 := s7
  replace s8 : Heap.SameBut z h7 h8 := s8
  have up : ∀ c o, c ≠ z → g2.get? c = some o → h8.get? c = some o := fun c o c1 e => s8.extBut _ _ c1 (s7.extBut _ _ c1 (Heap.get?_push_of_some _ e))
  have t8 : IsTupOf2 h8 g2.objs.size x1 x2 := s8.extBut _ _ (Nat.ne_of_gt zlt) (s7.extBut _ _ (Nat.ne_of_gt zlt) (Heap.get?_push_size _ rfl))
  have e8 : h8.objs.size = g2.objs.size + 1 := by rw [s8.1, s7.1, Heap.size_push]
  rw [sz] at t8 e8
  refine wpAny_pure ⟨_, rfl, ?_⟩
  show Q (.ref g2.objs.size) ⟨h8, g, d, tk2, os⟩
  rw [sz]
  exact hQ x1 x2 h8 tk2 _ hx1 hx2 z8 (up _ _ S.TOz v2) (D1.frame _ _ _ j1 fun b hb o e => up b o (fun q => S.zf1 (q ▸ hb)) e) (D2.frame _ _ _ j2 fun b hb o e => up b o (fun q => S.zf2 (q ▸ hb)) e) t8 e8 fun c o cz cT c1 c2 e => up c o cz (kk c o cz cT c1 c2 e)
theorem gone_end {Q : PySem.Fin → Shared → Prop} (S : ZipSep2 z TI TO i1 i2 fp1 fp2) (D1 : Draws prog w A i1 fp1 n1 P1 St1) (D2 : Draws prog w A i2 fp2 n2 P2 St2)
    (hz : IsZipO s.heap z TI TO T f) (hT : s.heap.get? T = none) (hTI : IsTupOf2 s.heap TI (.ref i1) (.ref i2)) (hTO : IsTupOf2 s.heap TO a1 a2) (st1 : St1 i s.heap) (st2 : St2 i s.heap) (l1 : i ≤ n1) (l2 : i ≤ n2) (he : i = n1 ∨ i = n2)
    (hE : ∀ h' tk e, (∀ c o, c ≠ z → c ≠ TO → c ≠ i1 → c ≠ i2 → s.heap.get? c = some o → h'.get? c = some o) → (∃ o, h'.get? e = some o ∧ o.cls = .type "StopIteration") → E (.ref e) { s with heap := h', toks := tk }) :
    wpAny (model prog w) A (Builtin.«zip.__next__» ⟨[.ref z], []⟩) Q E s := by
  obtain ⟨hp, g, d, tk0, os⟩ := s
  show wpAny _ _ (field (.ref z) 2 >>= _) _ _ _
  refine wpAny_bind (wpAny_field hz rfl (x := .bool false) rfl ?_)
  show wpAny _ _ (field (.ref z) 3 >>= _) _ _ _
  refine wpAny_bind (wpAny_field hz rfl (x := .ref TI) rfl ?_)
  refine wpAny_bind (wpAny_seqItems hTI rfl ?_)
  show wpAny _ _ (Builtin.SmallTypes.ownedTupleIsFree (.ref z) >>= _) _ _ _
  refine wpAny_bind (free_gone (s := ⟨hp, g, d, tk0, os⟩) hz hT ?_)
  simp only [if_true]
  refine wpAny_bind (wpAny_rule ?_)
  refine wpAny_bind (wpAny_field hz rfl (x := .ref TO) rfl ?_)
  refine wpAny_bind (wpAny_setField_rec hz (by simp) fun g0 hz0 hs0 => ?_)
  replace hz0 : IsZipY g0 z TI TO .ellipsis f := hz0
  replace hs0 : Heap.SameBut z hp g0 := hs0
  refine wpAny_bind ?_
  simp only [List.zipIdx_cons, List.zipIdx_nil, List.forIn_cons, List.forIn_nil]
  refine wpAny_bind (wpAny_bind (wpAny_onRaise ?_))
  show wpAny _ _ (Builtin.SmallTypes.nextOf (.ref i1) >>= _) _ _ ⟨g0, g, d, tk0, os⟩
  by_cases q1 : i < n1
  · refine wpAny_bind (D1.item i _ _ _ q1 (D1.over st1 hs0 S.zf1) fun x1 p1 tk1 hx1 sn1 hp1 => wpAny_pure ?_)
    replace hp1 : Heap.SameBut i1 g0 p1 := hp1
    have u1 : IsTupOf2 p1 TO a1 a2 := hp1.extBut _ _ S.Ti1 (hs0.extBut _ _ S.TOz hTO)
    refine wpAny_bind (wpAny_seqItems (s := ⟨p1, g, d, tk1, os⟩) u1 rfl ?_)
    refine wpAny_bind (updateSeq_IsTupOf2 (s := ⟨p1, g, d, tk1, os⟩) u1 fun g1 v1 hs1 => ?_)
    replace hs1 : Heap.SameBut TO p1 g1 := hs1
    refine wpAny_bind (wpAny_letGo (wpAny_pure ?_))
    have e2 : i = n2 := by omega
    refine wpAny_bind (wpAny_bind (wpAny_onRaise ?_))
    show wpAny _ _ (Builtin.SmallTypes.nextOf (.ref i2) >>= _) _ _ ⟨g1, g, d, tk1, os⟩
    refine wpAny_bind (D2.done ⟨g1, g, d, tk1, os⟩ _ _ (by rw [← e2]; exact D2.over (D2.over (D2.over st2 hs0 S.zf2) hp1 S.sep1_2) hs1 S.Tf2) fun q e hq he => ?_)
    replace hq : Heap.ExtBut i2 g1 q := hq
    obtain ⟨oe, ho, hc⟩ := he
    replace ho : q.get? e = some oe := ho
    have zq : IsZipY q z TI TO .ellipsis f := hq _ _ S.zi2 (hs1.extBut _ _ S.TOz.symm (hp1.extBut _ _ S.zi1 hz0))
    have ne : e ≠ z := fun x => by subst x; rw [zq] at ho; cases ho; simp at hc
    refine wpAny_setField_rec (s := ⟨q, g, d, tk1, os⟩) zq (by simp) fun q' _ hq' => ?_
    replace hq' : Heap.SameBut z q q' := hq'
    exact hE q' tk1 e (fun c o cz cT c1 c2 x => hq'.extBut _ _ cz (hq _ _ c2 (hs1.extBut _ _ cT (hp1.extBut _ _ c1 (hs0.extBut _ _ cz x))))) ⟨oe, hq'.extBut _ _ ne ho, hc⟩
  · have e1 : i = n1 := by omega
    refine wpAny_bind (D1.done ⟨g0, g, d, tk0, os⟩ _ _ (by rw [← e1]; exact D1.over st1 hs0 S.zf1) fun q e hq he => ?_)
    replace hq : Heap.ExtBut i1 g0 q := hq
    obtain ⟨oe, ho, hc⟩ := he
    replace ho : q.get? e = some oe := ho
    have zq : IsZipY q z TI TO .ellipsis f := hq _ _ S.zi1 hz0
    have ne : e ≠ z := fun x => by subst x; rw [zq] at ho; cases ho; simp at hc
    refine wpAny_setField_rec (s := ⟨q, g, d, tk0, os⟩) zq (by simp) fun q' _ hq' => ?_
    replace hq' : Heap.SameBut z q q' := hq'
    exact hE q' tk0 e (fun c o cz cT c1 c2 x => hq'.extBut _ _ cz (hq _ _ c1 (hs0.extBut _ _ cz x))) ⟨oe, hq'.extBut _ _ ne ho, hc⟩
/-- the zip at a turn, whatever became of its last tuple -/
noncomputable def ZT (z TI TO i1 i2 : Addr) (St1 St2 : Nat → Heap → Prop) (i : Nat) (h : Heap) : Prop :=
  IsTupOf2 h TI (.ref i1) (.ref i2) ∧ St1 i h ∧ St2 i h ∧ (∃ a b, IsTupOf2 h TO a b) ∧ (IsZip h z TI TO .none ∨ ∃ T f, IsZipO h z TI TO T f)
theorem zt_item {Q : Option Value → Shared → Prop} (S : ZipSep2 z TI TO i1 i2 fp1 fp2) (D1 : Draws prog w A.in1 i1 fp1 n1 P1 St1) (D2 : Draws prog w A.in1 i2 fp2 n2 P2 St2)
    (st : ZT z TI TO i1 i2 St1 St2 i s.heap) (h1 : i < n1) (h2 : i < n2)
    (hQ : ∀ x1 x2 h' tk, P1 i x1 → P2 i x2 → ZT z TI TO i1 i2 St1 St2 (i + 1) h' → IsTupOf2 h' s.heap.objs.size x1 x2 → h'.objs.size = s.heap.objs.size + 1 →
      (∀ c o, c ∉ [z, TI, TO, i1, i2] → s.heap.get? c = some o → h'.get? c = some o) → Q (some (.ref s.heap.objs.size)) { s with heap := h', toks := tk }) :
    wpAny (model prog w) A (pyNext (.ref z)) Q E s := by
  obtain ⟨hTI, st1, st2, ⟨a, b, hTO⟩, d⟩ := st
  have out : ∀ {h' : Heap}, (∀ c o, c ≠ z → c ≠ TO → c ≠ i1 → c ≠ i2 → s.heap.get? c = some o → h'.get? c = some o) → ∀ c o, c ∉ [z, TI, TO, i1, i2] → s.heap.get? c = some o → h'.get? c = some o :=
    fun k c o hc e => k c o (fun q => hc (by simp [q])) (fun q => hc (by simp [q])) (fun q => hc (by simp [q])) (fun q => hc (by simp [q])) e
  rcases d with hz | ⟨T, f, hz⟩
  · exact wpAny_pyNext_zipD2_item S D1 D2 hz hTI hTO st1 st2 h1 h2 fun x1 x2 h' tk y1 y2 b1 b2 d1 d2 b5 b6 k => hQ x1 x2 h' tk y1 y2 ⟨k _ _ S.TIz S.TITO S.TIi1 S.TIi2 hTI, d1, d2, ⟨_, _, b2⟩, .inr ⟨_, _, b1⟩⟩ b5 b6 (out k)
  · have hTy : s.TypeIs (.ref z) "zip" := ⟨_, hz, rfl⟩
    unfold pyNext
    cases hT : s.heap.get? T with
    | none =>
      exact wpAny_bind (wpAny_attempt (wpAny_callSpecial?_slot (name := Str.ofString "__next__") hTy F.slot_zip_next
        (wpAny_call_entry F.slot_zip_next hTy F.entry_zip_next
          (gone_item S D1 D2 hz hT hTI hTO st1 st2 h1 h2 fun x1 x2 h' tk T' y1 y2 b1 b2 d1 d2 b5 b6 k => wpAny_pure (hQ x1 x2 h' tk y1 y2 ⟨k _ _ S.TIz S.TITO S.TIi1 S.TIi2 hTI, d1, d2, ⟨_, _, b2⟩, .inr ⟨_, _, b1⟩⟩ b5 b6 (out k))) (F.args_zip_next_1 _))))
    | some o =>
      exact wpAny_bind (wpAny_attempt (wpAny_callSpecial?_slot (name := Str.ofString "__next__") hTy F.slot_zip_next
        (wpAny_call_entry F.slot_zip_next hTy F.entry_zip_next
          (out_item S D1 D2 hz hT hTI st1 st2 h1 h2 fun x1 x2 h' tk y1 y2 b1 d1 d2 b5 b6 k => wpAny_pure (hQ x1 x2 h' tk y1 y2 ⟨k _ _ S.TIz S.TIi1 S.TIi2 hTI, d1, d2, ⟨_, _, k _ _ S.TOz S.Ti1 S.Ti2 hTO⟩, .inr ⟨_, _, b1⟩⟩ b5 b6
            (fun c o hc e => k c o (fun q => hc (by simp [q])) (fun q => hc (by simp [q])) (fun q => hc (by simp [q])) e))) (F.args_zip_next_1 _))))
theorem zt_end {Q : Option Value → Shared → Prop} (S : ZipSep2 z TI TO i1 i2 fp1 fp2) (D1 : Draws prog w A.in1 i1 fp1 n1 P1 St1) (D2 : Draws prog w A.in1 i2 fp2 n2 P2 St2)
    (st : ZT z TI TO i1 i2 St1 St2 i s.heap) (h1 : i ≤ n1) (h2 : i ≤ n2) (he : i = n1 ∨ i = n2)
    (hQ : ∀ h' tk, (∀ c o, c ∉ [z, TI, TO, i1, i2] → s.heap.get? c = some o → h'.get? c = some o) → Q none { s with heap := h', toks := tk }) :
    wpAny (model prog w) A (pyNext (.ref z)) Q E s := by
  obtain ⟨hTI, st1, st2, ⟨a, b, hTO⟩, d⟩ := st
  have out : ∀ {h' : Heap}, (∀ c o, c ≠ z → c ≠ TO → c ≠ i1 → c ≠ i2 → s.heap.get? c = some o → h'.get? c = some o) → ∀ c o, c ∉ [z, TI, TO, i1, i2] → s.heap.get? c = some o → h'.get? c = some o :=
    fun k c o hc e => k c o (fun q => hc (by simp [q])) (fun q => hc (by simp [q])) (fun q => hc (by simp [q])) (fun q => hc (by simp [q])) e
  rcases d with hz | ⟨T, f, hz⟩
  · exact wpAny_pyNext_zipD2_end S D1 D2 hz hTI hTO st1 st2 h1 h2 he fun h' tk k => hQ h' tk (out k)
  · have hTy : s.TypeIs (.ref z) "zip" := ⟨_, hz, rfl⟩
    have stop : ∀ (h' : Heap) (tk : Nat) (e : Addr), (∀ c o, c ∉ [z, TI, TO, i1, i2] → s.heap.get? c = some o → h'.get? c = some o) → (∃ o, h'.get? e = some o ∧ o.cls = .type "StopIteration") →
        wpAny (model prog w) A (isInstance (.ref e) (.type "StopIteration")) (fun r s' => r = true ∧ s' = { s with heap := h', toks := tk }) E { s with heap := h', toks := tk } := fun h' tk e k ⟨o, ho, hc⟩ => wpAny_isInstance (T := "StopIteration") (b := true) ⟨o, ho, hc⟩ isSubtype_stop ⟨rfl, rfl⟩
    unfold pyNext
    cases hT : s.heap.get? T with
    | none =>
      refine wpAny_bind (wpAny_attempt (wpAny_callSpecial?_slot (name := Str.ofString "__next__") hTy F.slot_zip_next
        (wpAny_call_entry F.slot_zip_next hTy F.entry_zip_next (gone_end S D1 D2 hz hT hTI hTO st1 st2 h1 h2 he fun h' tk e k hx => ?_) (F.args_zip_next_1 _))))
      obtain ⟨o, ho, hc⟩ := hx
      refine wpAny_bind (wpAny_isInstance (T := "StopIteration") (b := true) ⟨o, ho, hc⟩ isSubtype_stop ?_)
      exact wpAny_pure (hQ _ _ (out k))
    | some oT =>
      refine wpAny_bind (wpAny_attempt (wpAny_callSpecial?_slot (name := Str.ofString "__next__") hTy F.slot_zip_next
        (wpAny_call_entry F.slot_zip_next hTy F.entry_zip_next (out_end S D1 D2 hz hT hTI st1 st2 h1 h2 he fun h' tk e k hx => ?_) (F.args_zip_next_1 _))))
      obtain ⟨o, ho, hc⟩ := hx
      refine wpAny_bind (wpAny_isInstance (T := "StopIteration") (b := true) ⟨o, ho, hc⟩ isSubtype_stop ?_)
      exact wpAny_pure (hQ _ _ fun c o hc e => k c o (fun q => hc (by simp [q])) (fun q => hc (by simp [q])) (fun q => hc (by simp [q])) e)
end
/-! ### as an iterator of HandS -/
noncomputable def SqK (K : PySem.W.Frag) : Bool → Hp → Addr → List V → Prop
  | true => SqT K
  | false => SqL K
noncomputable def ItK : Bool → Heap → Addr → Addr → Nat → Prop
  | true => fun h it a i => h.IsTupleIter it a i
  | false => fun h it a i => h.IsListIter it a i
noncomputable def AtK : Bool → Heap → Addr → Array Value → Prop
  | true => fun h a its => h.IsTuple a its
  | false => fun h a its => h.IsList a its
theorem drK (k : Bool) {P : Program} {w : World} {A : Around} (hh : A.handled = none) (it a : Addr) (ne : a ≠ it) (its : Array Value) : Draws P w A it [it, a] its.size (fun j v => its[j]? = some v) (fun i h => ItK k h it a i ∧ AtK k h a its) := by
  cases k with
  | true => exact Draws.tuple hh it a ne its
  | false => exact Draws.list hh it a ne its
theorem sqk_at {X : Cx} {pins : List (Addr × Obj)} {σ : L2.St} {H : Hp} {s : Shared} {k : Bool} {a : Addr} {xs : List V} (I : Inv X pins σ H s) (h : SqK X.K k H a xs) : ∃ its, Vals xs its ∧ AtK k s.heap a its.toArray := by
  cases k with
  | true =>
    obtain ⟨its, rv, p, _⟩ := I.tuple h
    exact ⟨its, rv, p⟩
  | false =>
    obtain ⟨its, rv, p, _⟩ := I.list h
    exact ⟨its, rv, p.isList⟩
theorem sqk_inj {X : Cx} {pins : List (Addr × Obj)} {σ : L2.St} {H : Hp} {s : Shared} {k : Bool} {a : Addr} {xs ys : List V} (I : Inv X pins σ H s) (h : SqK X.K k H a xs) (h' : SqK X.K k H a ys) : xs = ys := by
  cases k with
  | true => exact I.tuple_inj h h'
  | false => exact I.list_inj h h'
theorem itK_at {k : Bool} {h h' : Heap} {it a : Addr} {i : Nat} (q : ItK k h it a i) (e : ∀ o, h.get? it = some o → h'.get? it = some o) : ItK k h' it a i := by
  cases k with
  | true => exact Heap.IsTupleIter.at q e
  | false => exact Heap.IsListIter.at q e
theorem at_ne {k k' : Bool} {h : Heap} {it a c : Addr} {i : Nat} {its : Array Value} (q : ItK k h it a i) (p : AtK k' h c its) : c ≠ it := fun e => by
  subst e
  cases k <;> cases k' <;> (obtain ⟨o, e1, e2, _⟩ := q; obtain ⟨o', e3, e4, _⟩ := p; rw [e1] at e3; cases e3; rw [e2] at e4; revert e4; simp)
theorem iter_zipO {prog : Program} {w : World} {A : Around} {E : Value → Shared → Prop} {s : Shared} {z TI TO T : Addr} {f : Bool} {Q : Value → Shared → Prop} (hz : IsZipO s.heap z TI TO T f) (h : Q (.ref z) s) : wpAny (model prog w) A (pyIter (.ref z)) Q E s := by
  have hT : s.TypeIs (.ref z) "zip" := ⟨_, hz, rfl⟩
  refine wpAny_pyIter_slot hT F.slot_zip_iter (wpAny_call_entry F.slot_zip_iter hT F.entry_zip_iter ?_ (F.args_zip_iter_1 _))
  show wpAny _ _ (ret (.ref z)) _ _ s
  exact wpAny_pure ⟨_, rfl, "zip", _, hT, F.slot_zip_next.lookup, h⟩
noncomputable def ItzX (K : PySem.W.Frag) (k1 k2 : Bool) (a b : Addr) : It :=
  ⟨fun i H => ∃ (xs ys : List V) (x y : V), SqK K k1 H a xs ∧ SqK K k2 H b ys ∧ xs[i]? = some x ∧ ys[i]? = some y,
    fun i H v H' => ∃ T x y, v = .ref T ∧ H T = none ∧ H' = upd H T (.tup [x, y]) ∧ (∀ xs, SqK K k1 H a xs → xs[i]? = some x) ∧ ∀ ys, SqK K k2 H b ys → ys[i]? = some y,
    fun i H => ∃ xs ys : List V, SqK K k1 H a xs ∧ SqK K k2 H b ys ∧ i = min xs.length ys.length⟩
noncomputable def tnX (k1 k2 : Bool) (z TI TO i1 i2 a b : Addr) (i : Nat) (h : Heap) : Prop := ZT z TI TO i1 i2 (fun i h => ItK k1 h i1 a i) (fun i h => ItK k2 h i2 b i) i h
theorem turn_zipX {P : Program} {w : World} {K : PySem.W.Frag} {x : Str} {p : Pos} {k1 k2 : Bool} {a b z TI TO i1 i2 : Addr} (S : ZipSep2 z TI TO i1 i2 [i1, a] [i2, b]) : Turn P w K (.Name x p) (ItzX K k1 k2 a b) [z, TI, TO, i1, i2] z (tnX k1 k2 z TI TO i1 i2 a b) where
  mem := by simp
  obj := fun i h st c hc => by
    obtain ⟨hTI, h1, h2, ⟨x, y, hTO⟩, d⟩ := st
    have e' : c = z ∨ c = TI ∨ c = TO ∨ c = i1 ∨ c = i2 := by simpa using hc
    have itx : ∀ {k : Bool} {it a : Addr}, ItK k h it a i → ∃ o, h.get? it = some o ∧ ∀ v, o.data ≠ .cell v := fun {k it a} q => by
      cases k with
      | true => obtain ⟨o1, e1, _, d1⟩ := q; exact ⟨o1, e1, fun v q => by rw [d1] at q; cases q⟩
      | false => obtain ⟨o1, e1, _, d1⟩ := q; exact ⟨o1, e1, fun v q => by rw [d1] at q; cases q⟩
    rcases e' with q | q | q | q | q
    · rw [q]
      rcases d with hz | ⟨T, f, hz⟩
      · exact ⟨_, hz, fun v q => nomatch q⟩
      · exact ⟨_, hz, fun v q => nomatch q⟩
    · rw [q]; exact ⟨_, hTI, fun v q => nomatch q⟩
    · rw [q]; exact ⟨_, hTO, fun v q => nomatch q⟩
    · rw [q]; exact itx h1
    · rw [q]; exact itx h2
  keep := fun i h h' st k => by
    obtain ⟨hTI, h1, h2, ⟨x, y, hTO⟩, d⟩ := st
    refine ⟨k TI (by simp) _ hTI, itK_at h1 fun o q => k i1 (by simp) o q, itK_at h2 fun o q => k i2 (by simp) o q, ⟨x, y, k TO (by simp) _ hTO⟩, ?_⟩
    rcases d with hz | ⟨T, f, hz⟩
    · exact .inl (k z (by simp) _ hz)
    · exact .inr ⟨T, f, k z (by simp) _ hz⟩
  item := by
    intro X hP hw hK hc i pins s σ H E I hf st hg
    subst hP hw hK
    obtain ⟨xs, ys, x, y, hqx, hqy, hx, hy⟩ := hg
    obtain ⟨its, rv, p1⟩ := sqk_at I hqx
    obtain ⟨its2, rv2, p2⟩ := sqk_at I hqy
    obtain ⟨u, hu, ru⟩ := rv.get hx
    obtain ⟨u2, hu2, ru2⟩ := rv2.get hy
    have hh : X.A.in1.handled = none := I.ok.hd hc
    obtain ⟨hTI, h1, h2, hTO, d⟩ := st
    have na : a ≠ i1 := at_ne h1 p1
    have nb : b ≠ i2 := at_ne h2 p2
    refine zt_item (s := s) S (drK k1 hh i1 a na its.toArray) (drK k2 hh i2 b nb its2.toArray) ⟨hTI, ⟨h1, p1⟩, ⟨h2, p2⟩, hTO, d⟩ (by have := (List.getElem?_eq_some_iff.mp hu).1; simpa using this) (by have := (List.getElem?_eq_some_iff.mp hu2).1; simpa using this) fun x1 x2 h' tk y1 y2 st' hT hsz kp => ?_
    have e1 : u = x1 := Option.some.inj ((by simpa using hu : its.toArray[i]? = some u).symm.trans y1)
    have e2 : u2 = x2 := Option.some.inj ((by simpa using hu2 : its2.toArray[i]? = some u2).symm.trans y2)
    subst e1 e2
    refine ⟨_, rfl, wpAny_pure ?_⟩
    have new : ObjOk X.prog X.w (upd H s.heap.objs.size (.tup [x, y])) h' s.heap.objs.size (.tup [x, y]) :=
      ⟨by show 2 ≤ sizeLine; decide, [u, u2], .cons ru (.cons ru2 .nil), ⟨_, hT, rfl, _, rfl⟩⟩
    have I1 : Inv X pins σ (upd H s.heap.objs.size (.tup [x, y])) { s with heap := h', toks := tk } := I.turnedNew (t' := tk) (ch := [z, TI, TO, i1, i2]) kp hf (Nat.le_refl _) new
    refine ⟨.ref s.heap.objs.size, _, I1, rfl, ⟨_, x, y, rfl, I.hok.fresh (Nat.le_refl _), rfl, fun l hl => by rw [sqk_inj I hl hqx]; exact hx, fun l hl => by rw [sqk_inj I hl hqy]; exact hy⟩, ?_, fun c hcm => ?_⟩
    · obtain ⟨t1, t2, t3, t4, t5⟩ := st'
      exact ⟨t1, t2.1, t3.1, t4, t5⟩
    · have hlt : c < s.heap.objs.size := by
        have hz : ∃ o, s.heap.get? z = some o := by
          rcases d with hz | ⟨T, f, hz⟩
          · exact ⟨_, hz⟩
          · exact ⟨_, hz⟩
        obtain ⟨_, _, hTO⟩ := hTO
        have il : ∀ {k : Bool} {it a : Addr}, ItK k s.heap it a i → it < s.heap.objs.size := fun {k it a} q => by
          cases k with
          | true => obtain ⟨_, e1, _⟩ := q; exact Heap.lt_size e1
          | false => obtain ⟨_, e1, _⟩ := q; exact Heap.lt_size e1
        have e' : c = z ∨ c = TI ∨ c = TO ∨ c = i1 ∨ c = i2 := by simpa using hcm
        rcases e' with q | q | q | q | q
        · rw [q]; obtain ⟨_, hz⟩ := hz; exact Heap.lt_size hz
        · rw [q]; exact Heap.lt_size hTI
        · rw [q]; exact Heap.lt_size hTO
        · rw [q]; exact il h1
        · rw [q]; exact il h2
      rw [upd_ne (Nat.ne_of_lt hlt)]
      exact (hf c hcm).1
  done := by
    intro X hP hw hK hc i pins s σ H E I hf st hg
    subst hP hw hK
    obtain ⟨xs, ys, hqx, hqy, hend⟩ := hg
    obtain ⟨its, rv, p1⟩ := sqk_at I hqx
    obtain ⟨its2, rv2, p2⟩ := sqk_at I hqy
    have l1 := rv.length
    have l2 := rv2.length
    have hh : X.A.in1.handled = none := I.ok.hd hc
    obtain ⟨hTI, h1, h2, hTO, d⟩ := st
    have na : a ≠ i1 := at_ne h1 p1
    have nb : b ≠ i2 := at_ne h2 p2
    exact zt_end (s := s) S (drK k1 hh i1 a na its.toArray) (drK k2 hh i2 b nb its2.toArray) ⟨hTI, ⟨h1, p1⟩, ⟨h2, p2⟩, hTO, d⟩ (by simp; omega) (by simp; omega) (by simp; omega) fun h' tk kp => ⟨rfl, I.turnedL (t' := tk) (ch := [z, TI, TO, i1, i2]) kp hf⟩
  self := fun A i s Q E st h => by
    obtain ⟨_, _, _, _, d⟩ := st
    rcases d with hz | ⟨T, f, hz⟩
    · exact wpAny_pyIter_zip hz h
    · exact iter_zipO hz h
noncomputable def iZipX (K : PySem.W.Frag) (ta : TA) : TI := fun σ H R => ta σ H fun vs H1 => ∃ (k1 k2 : Bool) (a b : Addr) (xs ys : List V), vs = [.ref a, .ref b] ∧ SqK K k1 H1 a xs ∧ SqK K k2 H1 b ys ∧ R (ItzX K k1 k2 a b) H1
noncomputable def itO : Bool → Addr → Obj
  | true, a => { cls := .type "tuple_iterator", data := .fields #[.ref a, .int 0 0] }
  | false, a => { cls := .type "list_iterator", data := .fields #[.ref a, .int 0 0] }
theorem begins_k (k : Bool) (a : Addr) (its : Array Value) : Begins (.ref a) (itO k a) fun h => AtK k h a its := by
  cases k with
  | true => exact begins_tuple a its
  | false => exact begins_list a its
theorem itK_beg {k : Bool} {h : Heap} {it a : Addr} (e : h.get? it = some (itO k a)) : ItK k h it a 0 := by
  cases k with
  | true => exact ⟨_, e, rfl, rfl⟩
  | false => exact ⟨_, e, rfl, rfl⟩
theorem atK_lt {k : Bool} {h : Heap} {a : Addr} {its : Array Value} (p : AtK k h a its) : a < h.objs.size := by
  cases k <;> (obtain ⟨o, e, _⟩ := p; exact Heap.lt_size e)
theorem pi_zipX {X : Cx} {x : Str} {e e2 : Expr} {ta : TA} {p pos tpos : Pos} (hg : Gl X "zip") (hm : X.mg "zip" = none) (ha : PA X [e, e2] ta)
    (hs : starEach [e, e2] X.env = (false, eval e X.env) :: starEach [e2] X.env := by rfl) (hpl : (backTo pos (starEach [e2] X.env)).any (·.1) = false := by rfl) :
    PI X (.Name x tpos) (.Call (.Name "zip" p) [e, e2] [] pos) (iZipX X.K ta) := by
  refine ⟨fun pins s σ H R I h => ?_⟩
  refine Call_ (ld_blt I hg hm PyProof.Rows.boot_zip (PyProof.Rows.callWith_type1 (thn (ha.run pos pins s σ H _ I h) fun us s1 ⟨vs, H1, I1, r1, q1⟩ => ?_) hs hpl))
  obtain ⟨k1, k2, a, b, xs, ys, ex, hx, hy, q⟩ := q1
  subst ex
  cases r1 with
  | cons r rr =>
    cases rr with
    | cons r' rr =>
      cases rr
      cases r
      cases r'
      obtain ⟨its, rv, p1⟩ := sqk_at I1 hx
      obtain ⟨its2, rv2, p2⟩ := sqk_at I1 hy
      refine zip_begins2 (begins_k k1 a its.toArray) (begins_k k2 b its2.toArray) p1 p2 fun h' hz hTI hTO g1 g2 hsz hk => wpAny_pyIter_zip hz ?_
      have I2 : Inv X pins σ H1 { s1 with heap := h' } := I1.kept (t' := s1.toks) hk
      have fr : ∀ c, c ∈ [s1.heap.objs.size + 4, s1.heap.objs.size + 2, s1.heap.objs.size + 3, s1.heap.objs.size, s1.heap.objs.size + 1] → FpOk X pins H1 c := fun c hc => by
        have hle : s1.heap.objs.size ≤ c := by
          have e' : c = s1.heap.objs.size + 4 ∨ c = s1.heap.objs.size + 2 ∨ c = s1.heap.objs.size + 3 ∨ c = s1.heap.objs.size ∨ c = s1.heap.objs.size + 1 := by simpa using hc
          rcases e' with z | z | z | z | z
          · rw [z]; exact Nat.le_add_right _ _
          · rw [z]; exact Nat.le_add_right _ _
          · rw [z]; exact Nat.le_add_right _ _
          · rw [z]; exact Nat.le_refl _
          · rw [z]; exact Nat.le_add_right _ _
        exact I1.fpOk hle (I1.hok.fresh hle)
      exact ⟨s1.heap.objs.size + 4, _, _, _, H1, rfl, I2, turn_zipX (zsep s1.heap.objs.size a b (atK_lt p1) (atK_lt p2)), ⟨hTI, itK_beg g1, itK_beg g2, ⟨_, _, hTO⟩, .inl hz⟩, fr, q⟩
/-- zip(x, y) taken by one name -/
noncomputable def dZipX (w : DA) : DI := fun ρ n Q => w ρ n fun rs n1 => match rs with
  | [.d (.list xs), .d (.list ys)] => Q (zipD xs ys) n1
  | [.d (.tuple xs), .d (.tuple ys)] => Q (zipD xs ys) n1
  | [.d (.list xs), .d (.tuple ys)] => Q (zipD xs ys) n1
  | [.d (.tuple xs), .d (.list ys)] => Q (zipD xs ys) n1
  | _ => False
theorem seqK_of {K : PySem.W.Frag} {B : Hp} {v : V} {x : PyData} {xs : List PyData} (hx : x = .list xs ∨ x = .tuple xs) (d : Dp K B v x) : ∃ (k : Bool) (a : Addr) (vs : List V), v = .ref a ∧ (∀ H, Same B H → SqK K k H a vs) ∧ DpAll K B vs xs := by
  rcases hx with rfl | rfl
  · cases d with
    | lst h1 h2 => exact ⟨false, _, _, rfl, fun H s => s.seq h1, h2⟩
  · cases d with
    | tup h1 h2 => exact ⟨true, _, _, rfl, fun H s => seqT s h1, h2⟩
theorem li_zipX {X : Cx} {x : Str} {e e2 : Expr} {wr : DA} {p pos tpos : Pos} (hg : Gl X "zip") (hm : X.mg "zip" = none) (ha : LA X [e, e2] wr)
    (hs : starEach [e, e2] X.env = (false, eval e X.env) :: starEach [e2] X.env := by rfl) (hpl : (backTo pos (starEach [e2] X.env)).any (·.1) = false := by rfl) :
    LI X (.Name x tpos) (.Call (.Name "zip" p) [e, e2] [] pos) (dZipX wr) := pi_imp (pi_zipX hg hm ha hs hpl) fun σ H R hu => by
  obtain ⟨ρ, n, B, bxs, Qd, g, e, w1, q⟩ := hu
  refine ⟨ρ, n, B, bxs, _, g, e, w1, fun rs n1 vs B1 H1 hq s1 vr f1 => ?_⟩
  have g1 := g.step s1
  have key : ∀ (x y : PyData) (xs ys : List PyData), rs = [.d x, .d y] → (x = .list xs ∨ x = .tuple xs) → (y = .list ys ∨ y = .tuple ys) → (∀ J, ItR X.K B1 (zipD xs ys) J → R J H1) →
      ∃ (k1 k2 : Bool) (a b : Addr) (us ws : List V), vs = [.ref a, .ref b] ∧ SqK X.K k1 H1 a us ∧ SqK X.K k2 H1 b ws ∧ R (ItzX X.K k1 k2 a b) H1 := fun x y xs ys er hx hy hr => by
    subst er
    match vs, vr with
    | [v, u], h =>
      obtain ⟨k1, a, us, rfl, q1, d1⟩ := seqK_of hx h.1
      obtain ⟨k2, b, ws, rfl, q2, d2⟩ := seqK_of hy h.2.1
      have l1 := dpLen _ _ d1
      have l2 := dpLen _ _ d2
      refine ⟨k1, k2, a, b, us, ws, rfl, q1 _ g1.sub, q2 _ g1.sub, hr _ ⟨fun i H sm hi => ?_, fun H sm => ?_, fun i H v H' z sm hy hz => ?_⟩⟩
      · rw [zip_len] at hi
        exact ⟨_, _, _, _, q1 H sm, q2 H sm, List.getElem?_eq_getElem (by omega), List.getElem?_eq_getElem (by omega)⟩
      · exact ⟨_, _, q1 H sm, q2 H sm, by rw [zip_len, l1, l2]⟩
      · obtain ⟨T, v1, v2, rfl, hT, rfl, e1, e2⟩ := hy
        obtain ⟨z1, z2, a1, a2, rfl⟩ := zip_get _ _ _ _ hz
        have b1 := e1 _ (q1 H sm)
        have b2 := e2 _ (q2 H sm)
        obtain ⟨u1, c1, c2⟩ := dpGet _ _ _ _ d1 a1
        obtain ⟨u2, c3, c4⟩ := dpGet _ _ _ _ d2 a2
        rw [b1] at c1
        rw [b2] at c3
        cases c1
        cases c3
        exact .inr ⟨T, [v1, v2], [z1, z2], rfl, rfl, hT, rfl, .cons c2 (.cons c4 .nil)⟩
  split at hq
  · exact key _ _ _ _ rfl (.inl rfl) (.inl rfl) fun J j => q _ _ _ _ _ hq s1 j
  · exact key _ _ _ _ rfl (.inr rfl) (.inr rfl) fun J j => q _ _ _ _ _ hq s1 j
  · exact key _ _ _ _ rfl (.inl rfl) (.inr rfl) fun J j => q _ _ _ _ _ hq s1 j
  · exact key _ _ _ _ rfl (.inr rfl) (.inl rfl) fun J j => q _ _ _ _ _ hq s1 j
  · exact hq.elim
end Dl

namespace Dl
open PySem PySem.Spec PyProof.Rows L2
/-! ### defs that may raise exceptions of several classes -/
noncomputable abbrev XCs := List (Addr × Str)
noncomputable def xC (Cs : XCs) (i : Nat) : Addr := (Cs.getD i (0, Str.empty)).1
noncomputable def xF (Cs : XCs) (i : Nat) : Str := (Cs.getD i (0, Str.empty)).2
noncomputable abbrev DSpW := List PyData → (PyData → Prop) → (Nat → PyData → Prop) → Prop
noncomputable def liftY (K : PySem.W.Frag) (Cs : XCs) (c : DSpW) : Sp := fun vs H Q E => ∃ (xs : List PyData) (B : Hp) (Qd : PyData → Prop) (Ed : Nat → PyData → Prop), Same B H ∧ DpAll K B vs xs ∧ c xs Qd Ed ∧
  (∀ y v n B1 H1, Qd y → Step [] 0 n B H B1 H1 → Dp K B1 v y → Q v H1) ∧ (∀ i y v d n B1 H1, i < Cs.length → Ed i y → Step [] 0 n B H B1 H1 → Dp K B1 v y → B1 d = some (.xd [(xF Cs i, v)]) → E (.ref (xC Cs i)) (some d) H1)
structure DefY (P : Program) (w : World) (K : PySem.W.Frag) (mg : Str → Option Value) (base : Heap) (k : Nat) (x : Str) (ps : List Str) (Cs : XCs) (c : DSpW) : Prop where
  ex : ∃ (f : Addr) (fd : FuncData), FnX P w K mg base k f fd ps (liftY K Cs c) ∧ mg x = some (.ref f) ∧ PySem.W.keepIn K (.ref f) = true ∧ Binds K fd ps []
section
variable {P : Program} {w : World} {K : PySem.W.Frag} {mg : Str → Option Value} {base : Heap}
end
/-! ### a kept exception of one of several classes -/
noncomputable def xTs (Cs : XCs) (i : Nat) (y : PyData) : OwnT := excT (xC Cs i) (xF Cs i) y
noncomputable def ExmAll (K : PySem.W.Frag) (CB : Addr) : XCs → Prop
  | [] => True
  | C :: Cs => PySem.W.exmOne K (.ref C.1) (.ref CB) = some true ∧ ExmAll K CB Cs
theorem ExmAll.nil {K : PySem.W.Frag} {CB : Addr} : ExmAll K CB [] := trivial
theorem ExmAll.cons {K : PySem.W.Frag} {CB C : Addr} {fld : Str} {Cs : XCs} (h1 : PySem.W.exmOne K (.ref C) (.ref CB) = some true) (h2 : ExmAll K CB Cs) : ExmAll K CB ((C, fld) :: Cs) := ⟨h1, h2⟩
theorem ExmAll.get {K : PySem.W.Frag} {CB : Addr} : ∀ {Cs : XCs} (i : Nat), ExmAll K CB Cs → i < Cs.length → PySem.W.exmOne K (.ref (xC Cs i)) (.ref CB) = some true
  | _ :: _, 0, h, _ => h.1
  | _ :: Cs, i + 1, h, hi => ExmAll.get (Cs := Cs) i h.2 (Nat.lt_of_succ_lt_succ hi)
noncomputable def KitAll (K : PySem.W.Frag) (cv : Value) : XCs → List Bool → Prop
  | [], [] => True
  | C :: Cs, b :: bs => IsxC K C.1 ∧ PySem.W.kitOne K (.ref C.1) cv = some b ∧ KitAll K cv Cs bs
  | _, _ => False
theorem KitAll.nil {K : PySem.W.Frag} {cv : Value} : KitAll K cv [] [] := trivial
theorem KitAll.cons {K : PySem.W.Frag} {cv : Value} {C : Addr} {fld : Str} {b : Bool} {Cs : XCs} {bs : List Bool} (h : IsxC K C) (h1 : PySem.W.kitOne K (.ref C) cv = some b) (h2 : KitAll K cv Cs bs) : KitAll K cv ((C, fld) :: Cs) (b :: bs) := ⟨h, h1, h2⟩
theorem KitAll.get {K : PySem.W.Frag} {cv : Value} : ∀ {Cs : XCs} {bs : List Bool} (i : Nat), KitAll K cv Cs bs → i < Cs.length → IsxC K (xC Cs i) ∧ PySem.W.kitOne K (.ref (xC Cs i)) cv = some (bs.getD i false)
  | _ :: _, _ :: _, 0, h, _ => ⟨h.1, h.2.1⟩
  | _ :: Cs, _ :: bs, i + 1, h, hi => KitAll.get (Cs := Cs) (bs := bs) i h.2.2 (Nat.lt_of_succ_lt_succ hi)
  | _ :: _, [], _, h, _ => h.elim
  | [], _, _, _, hi => absurd hi (Nat.not_lt_zero _)
noncomputable def FldAll (K : PySem.W.Frag) (fld : Str) : XCs → Prop
  | [] => True
  | C :: Cs => XfC K C.1 ∧ PySem.W.findIn K (.ref C.1) fld = some none ∧ FldAll K fld Cs
theorem FldAll.nil {K : PySem.W.Frag} {fld : Str} : FldAll K fld [] := trivial
theorem FldAll.cons {K : PySem.W.Frag} {C : Addr} {fld f2 : Str} {Cs : XCs} (h : XfC K C) (h1 : PySem.W.findIn K (.ref C) fld = some none) (h2 : FldAll K fld Cs) : FldAll K fld ((C, f2) :: Cs) := ⟨h, h1, h2⟩
theorem FldAll.get {K : PySem.W.Frag} {fld : Str} : ∀ {Cs : XCs} (i : Nat), FldAll K fld Cs → i < Cs.length → XfC K (xC Cs i) ∧ PySem.W.findIn K (.ref (xC Cs i)) fld = some none
  | _ :: _, 0, h, _ => ⟨h.1, h.2.1⟩
  | _ :: Cs, i + 1, h, hi => FldAll.get (Cs := Cs) i h.2.2 (Nat.lt_of_succ_lt_succ hi)
noncomputable def dTryRetY (j k : Nat) (Cs : XCs) (c : DSpW) (wr : DA) : DS := fun D ρ n => k < ρ.length ∧ wr ρ n fun rs n1 => ∃ xs, allD rs = some xs ∧
  c xs (fun y => D.rt (.d y) n1) (fun i y => D.nx (((ρ.set k none).set j (some (.own (xTs Cs i y)))).set k none) n1)
section
variable {X : Cx} {En : Ent} {x fn cn en : Str} {fld : Str} {px pf pc p1 p2 ps ps2 np pos pos' : Pos} {e : Expr} {es : List Expr} {wr : DA}
end
/-! ### isinstance(x, D), x.fld -/
noncomputable def dIsY (j : Nat) (Cs : XCs) (bs : List Bool) : DE := fun ρ n Q => ∃ i y, i < Cs.length ∧ ρ[j]? = some (some (.own (xTs Cs i y))) ∧ Q (.d (.bool (bs.getD i false))) n
noncomputable def dYFld (j : Nat) (Cs : XCs) (fld : Str) : DE := fun ρ n Q => ∃ i y, i < Cs.length ∧ xF Cs i = fld ∧ ρ[j]? = some (some (.own (xTs Cs i y))) ∧ Q (.d y) n
section
variable {X : Cx} {x nm fld : Str} {p p1 p2 pos : Pos} {Cs : XCs}
end
/-! ### comprehensions with two fors, at data level -/
end Dl

namespace Dl
open PySem PySem.Spec PyProof.Rows L2
/-! ### max(t), min(t) of a tuple of numbers -/
theorem readsI {h : Heap} : ∀ {ns : List Int} {us : List Value}, Vals (ns.map V.int) us → ∃ as, ReadsAll h us (ns.map PyData.int) as
  | [], _, r => by
    cases r
    exact ⟨_, .nil⟩
  | n :: ns, _, r => by
    cases r with
    | cons h1 h2 =>
      obtain ⟨t, rfl⟩ := h1
      obtain ⟨as, q⟩ := readsI h2
      exact ⟨_, .cons (.int n t) q⟩
theorem foldMx : ∀ (ns : List Int) (n : Int), IsMx (ns.foldl max n) (n :: ns)
  | [], n => ⟨.head _, fun y hy => by
    rcases List.mem_cons.mp hy with rfl | h
    · exact Int.le_refl _
    · cases h⟩
  | k :: ns, n => by
    obtain ⟨h1, h2⟩ := foldMx ns (max n k)
    rw [List.foldl_cons]
    have h3 := h2 _ (.head _)
    refine ⟨?_, fun y hy => ?_⟩
    · rcases List.mem_cons.mp h1 with e | h
      · rw [e]
        rcases Int.le_total n k with q | q
        · rw [Int.max_eq_right q]
          exact .tail _ (.head _)
        · rw [Int.max_eq_left q]
          exact .head _
      · exact .tail _ (.tail _ h)
    · rcases List.mem_cons.mp hy with rfl | hy
      · omega
      · rcases List.mem_cons.mp hy with rfl | hy
        · omega
        · exact h2 y (.tail _ hy)
theorem foldMn : ∀ (ns : List Int) (n : Int), IsMn (ns.foldl min n) (n :: ns)
  | [], n => ⟨.head _, fun y hy => by
    rcases List.mem_cons.mp hy with rfl | h
    · exact Int.le_refl _
    · cases h⟩
  | k :: ns, n => by
    obtain ⟨h1, h2⟩ := foldMn ns (min n k)
    rw [List.foldl_cons]
    have h3 := h2 _ (.head _)
    refine ⟨?_, fun y hy => ?_⟩
    · rcases List.mem_cons.mp h1 with e | h
      · rw [e]
        rcases Int.le_total n k with q | q
        · rw [Int.min_eq_left q]
          exact .head _
        · rw [Int.min_eq_right q]
          exact .tail _ (.head _)
      · exact .tail _ (.tail _ h)
    · rcases List.mem_cons.mp hy with rfl | hy
      · omega
      · rcases List.mem_cons.mp hy with rfl | hy
        · omega
        · exact h2 y (.tail _ hy)
section
variable {X : Cx}
noncomputable def rMxT (K : PySem.W.Frag) (c : Int → List Int → Prop) : List V → Hp → VK → Prop := fun vs H Q => ∃ (a : Addr) (ns : List Int), vs = [V.ref a] ∧ SqT K H a (ns.map V.int) ∧ 0 < ns.length ∧ ∀ m, c m ns → Q (.int m) H
theorem cr_maxT (hc : X.calm = true) (hu : X.A.units + 9 < cLine) : CallR X (.builtin "max") (rMxT X.K IsMx) := by
  intro pins s σ H vs us Q I r h
  obtain ⟨a, ns, rfl, hs, hne, q⟩ := h
  obtain ⟨its, rv, ht, _⟩ := I.tuple hs
  rw [Vals.ref1 r]
  cases ns with
  | nil => exact absurd hne (Nat.lt_irrefl _)
  | cons n ns =>
    obtain ⟨as, hr⟩ := readsI (h := s.heap) rv
    refine PySem.W.max_tuple_data (x := .int n) (xs := ns.map .int) (I.ok.hd hc) ht hr (PySem.W.alikeAll_datum (α := Int) (n :: ns)) (PySem.W.room_all (PySem.W.depthAll_map (α := Int) (n :: ns)) (by show X.A.units + 1 + 0 < cLine; omega)) fun i v h' tk bs hi rr hk => ?_
    rw [PySem.W.maxD_ints] at rr
    cases rr with
    | int _ t => exact ⟨.int _, H, I.kept hk, ⟨_, rfl⟩, q _ (foldMx ns n)⟩
theorem cr_minT (hc : X.calm = true) (hu : X.A.units + 9 < cLine) : CallR X (.builtin "min") (rMxT X.K IsMn) := by
  intro pins s σ H vs us Q I r h
  obtain ⟨a, ns, rfl, hs, hne, q⟩ := h
  obtain ⟨its, rv, ht, _⟩ := I.tuple hs
  rw [Vals.ref1 r]
  cases ns with
  | nil => exact absurd hne (Nat.lt_irrefl _)
  | cons n ns =>
    obtain ⟨as, hr⟩ := readsI (h := s.heap) rv
    refine PySem.W.min_tuple_data (x := .int n) (xs := ns.map .int) (I.ok.hd hc) ht hr (PySem.W.alikeAll_datum (α := Int) (n :: ns)) (PySem.W.room_all (PySem.W.depthAll_map (α := Int) (n :: ns)) (by show X.A.units + 1 + 0 < cLine; omega)) fun i v h' tk bs hi rr hk => ?_
    rw [PySem.W.minD_ints] at rr
    cases rr with
    | int _ t => exact ⟨.int _, H, I.kept hk, ⟨_, rfl⟩, q _ (foldMn ns n)⟩
noncomputable def wMaxT : DCall := fun xs Q => ∃ ns : List Int, xs = [.tuple (ns.map .int)] ∧ 0 < ns.length ∧ ∀ m, IsMx m ns → Q (.d (.int m))
noncomputable def wMinT : DCall := fun xs Q => ∃ ns : List Int, xs = [.tuple (ns.map .int)] ∧ 0 < ns.length ∧ ∀ m, IsMn m ns → Q (.d (.int m))
theorem lc_maxT (hc : X.calm = true) (hu : X.A.units + 9 < cLine) : LCall X (.builtin "max") wMaxT := by
  refine ⟨_, cr_maxT hc hu, fun bxs n B H xs vs Qd Q g hv w k => ?_⟩
  obtain ⟨ns, rfl, h0, w⟩ := w
  obtain ⟨v, rfl, dx⟩ := dpvs1 hv
  obtain ⟨p, us, rfl, h1, h2⟩ := dx.tuple g.sub
  rw [ofInts _ _ h2] at h1
  exact ⟨p, ns, rfl, h1, h0, fun m hm => k _ _ B H (w m hm) g.refl (.int _) trivial⟩
theorem lc_minT (hc : X.calm = true) (hu : X.A.units + 9 < cLine) : LCall X (.builtin "min") wMinT := by
  refine ⟨_, cr_minT hc hu, fun bxs n B H xs vs Qd Q g hv w k => ?_⟩
  obtain ⟨ns, rfl, h0, w⟩ := w
  obtain ⟨v, rfl, dx⟩ := dpvs1 hv
  obtain ⟨p, us, rfl, h1, h2⟩ := dx.tuple g.sub
  rw [ofInts _ _ h2] at h1
  exact ⟨p, ns, rfl, h1, h0, fun m hm => k _ _ B H (w m hm) g.refl (.int _) trivial⟩
end
end Dl

namespace Dl
open PySem PySem.Spec PyProof.Rows L2
/-! ### which class an exception is of, from what the fragment answers -/
end Dl

namespace Dl
open PySem PySem.Spec PyProof.Rows L2
/-! ### objects of several addresses, that names refer to -/
structure OwnM where
  as : List Addr
  rel : PySem.W.Frag → Hp → Hp → Prop
  mono : ∀ {K : PySem.W.Frag} {B B' H H' : Hp}, Same B B' → (∀ a ∈ as, ∀ o, H a = some o → H' a = some o) → rel K B H → rel K B' H'
noncomputable abbrev MS := List OwnM
noncomputable def adM (ms : MS) : List Addr := ms.flatMap OwnM.as
theorem in_adM {ms : MS} {m : OwnM} {a : Addr} (hm : m ∈ ms) (ha : a ∈ m.as) : a ∈ adM ms := List.mem_flatMap.mpr ⟨m, hm, ha⟩
structure MOk (K : PySem.W.Frag) (EH : Hp) (bxs : List Addr) (B H : Hp) (ms : MS) : Prop where
  at_ : ∀ a ∈ adM ms, a ∉ bxs ∧ B a = none ∧ H a ≠ none
  en : ∀ a ∈ adM ms, EH a = none
  rl : ∀ m ∈ ms, m.rel K B H
  nd : (adM ms).Nodup
structure MX (K : PySem.W.Frag) (E : Ent) (M : Hp) (n : Nat) (B H : Hp) (bxs : List Addr) (σ : L2.St) (ρ : DEnv) (ms : MS) : Prop where
  sv : SInv K E M n B H bxs σ ρ
  ok : MOk K E.H bxs B H ms
  ow : ∀ a ∈ adM ms, ∀ (i : Nat) (r : RV), ρ[i]? = some (some r) → isOwn r → σ[i]? ≠ some (some (.ref a))
section
variable {K : PySem.W.Frag} {E : Ent} {M EH : Hp} {n n1 : Nat} {B H B1 H1 : Hp} {bxs : List Addr} {σ σ' : L2.St} {ρ ρ' : DEnv} {ms : MS}
theorem some_of {α : Type} {x : Option α} (h : x ≠ none) : ∃ o, x = some o := by
  cases x with
  | none => exact absurd rfl h
  | some o => exact ⟨o, rfl⟩
theorem MOk.step (h : MOk K EH bxs B H ms) (s : Step bxs n n1 B H B1 H1) : MOk K EH bxs B1 H1 ms where
  at_ := fun a ha => by
    obtain ⟨a1, a2, a3⟩ := h.at_ a ha
    obtain ⟨o, e⟩ := some_of a3
    exact ⟨a1, by rw [s.b3 _ a3]; exact a2, ne_none_of (s.h1 _ _ a1 e)⟩
  en := h.en
  rl := fun m hm => m.mono s.b1 (fun a ha o e => s.h1 a o (h.at_ a (in_adM hm ha)).1 e) (h.rl m hm)
  nd := h.nd
theorem MX.step (h : MX K E M n B H bxs σ ρ ms) (s : Step bxs n n1 B H B1 H1) : MX K E M n1 B1 H1 bxs σ ρ ms := ⟨h.sv.step s, h.ok.step s, h.ow⟩
theorem MX.upd {vs : List Nat} (h : MX K E M n B H bxs σ ρ ms) (e : EnvR K bxs n B H σ' ρ') (u : UpdR vs σ σ' ρ ρ') : MX K E M n B H bxs σ' ρ' ms :=
  ⟨h.sv.upd e u, h.ok, fun a ha i r h1 o h2 => by
    obtain ⟨a1, a2⟩ := u.own i r h1 o
    rw [a2] at h2
    exact h.ow a ha i r a1 o h2⟩
theorem MX.weak {M' : Hp} (h : MX K E M n B H bxs σ ρ ms) (m : Same M' M) : MX K E M' n B H bxs σ ρ ms := ⟨h.sv.weak m, h.ok, h.ow⟩
/-- the objects stand as if they had been there before -/
noncomputable def entM (E : Ent) (ms : MS) (B H : Hp) : Ent := ⟨B, fun a => open Classical in if a ∈ adM ms then H a else E.H a, E.bxs, E.n⟩
theorem entM_in {a : Addr} (h : a ∈ adM ms) : (entM E ms B H).H a = H a := if_pos h
theorem entM_out {a : Addr} (h : a ∉ adM ms) : (entM E ms B H).H a = E.H a := if_neg h
theorem MX.old (h : MX K E M n B H bxs σ ρ ms) {a : Addr} (e : E.H a ≠ none) : (entM E ms B H).H a = E.H a := entM_out fun z => e (h.ok.en a z)
theorem MX.inner (h : MX K E M n B H bxs σ ρ ms) : SInv K (entM E ms B H) B n B H bxs σ ρ := by
  have sv := h.sv
  refine ⟨⟨Same.refl _, sv.st.b2, fun a ha => rfl, fun a o hb ha => ?_, sv.st.bx, sv.st.nn⟩, Same.refl _, sv.g, fun b hb => ?_, sv.sup, sv.env, fun i r p h1 o h2 => ?_⟩
  · by_cases c : a ∈ adM ms
    · rw [entM_in c] at ha
      exact ha
    · rw [entM_out c] at ha
      exact sv.st.h1 a o hb ha
  · rcases sv.bs b hb with z | z
    · exact .inl z
    · refine .inr ?_
      rw [entM_out fun c => (h.ok.at_ b c).1 hb]
      exact z
  · rw [entM_out fun c => h.ow p c i r h1 o h2]
    exact sv.ow i r p h1 o h2
theorem MX.back (h : MX K E M n B H bxs σ ρ ms) {n' : Nat} {B' H' : Hp} (g : Step E.bxs E.n n' B (entM E ms B H).H B' H') : Step E.bxs E.n n' E.B E.H B' H' :=
  ⟨h.sv.st.b1.trans g.b1, g.b2, fun a ha => by rw [g.b3 a (by rw [h.old ha]; exact ha), h.sv.st.b3 a ha], fun a o hb ha => g.h1 a o hb (by rw [h.old (ne_none_of ha)]; exact ha), g.bx, g.nn⟩
theorem MX.parts (h : MX K E M n B H bxs σ ρ ms) {n' : Nat} {B' H' : Hp} (g : Step E.bxs E.n n' B (entM E ms B H).H B' H') : ∀ a ∈ adM ms, B' a = none ∧ ∀ o, H a = some o → H' a = some o := fun a ha => by
  obtain ⟨a1, a2, a3⟩ := h.ok.at_ a ha
  have nb : a ∉ E.bxs := fun z => a1 (h.sv.sup _ z)
  exact ⟨by rw [g.b3 a (by rw [entM_in ha]; exact a3)]; exact a2, fun o e => g.h1 a o nb (by rw [entM_in ha]; exact e)⟩
theorem MX.outer {n' : Nat} {B' H' : Hp} {bxs' : List Addr} (h : MX K E M n B H bxs σ ρ ms) (g : SInv K (entM E ms B H) B n' B' H' bxs' σ' ρ') : MX K E M n' B' H' bxs' σ' ρ' ms := by
  have sv := h.sv
  have hE : ∀ a, (entM E ms B H).H a = none → E.H a = none := fun a z => by
    cases e : E.H a with
    | none => rfl
    | some u => rw [h.old (ne_none_of e), e] at z; cases z
  have hp := h.parts g.st
  refine ⟨⟨h.back g.st, sv.mb.trans g.mb, g.g, fun b hb => ?_, g.sup, g.env, fun i r p h1 o h2 => hE p (g.ow i r p h1 o h2)⟩, ⟨fun a ha => ?_, h.ok.en, fun m hm => m.mono g.mb (fun a ha o e => (hp a (in_adM hm ha)).2 o e) (h.ok.rl m hm), h.ok.nd⟩, fun a ha i r h1 o h2 => ?_⟩
  · rcases g.bs b hb with z | z
    · exact .inl z
    · exact .inr (hE b z)
  · obtain ⟨o, e⟩ := some_of (h.ok.at_ a ha).2.2
    refine ⟨fun z => ?_, (hp a ha).1, ne_none_of ((hp a ha).2 o e)⟩
    rcases g.bs a z with y | y
    · exact (h.ok.at_ a ha).1 (sv.sup _ y)
    · rw [entM_in ha] at y
      exact (h.ok.at_ a ha).2.2 y
  · have z := g.ow i r a h1 o h2
    rw [entM_in ha] at z
    exact (h.ok.at_ a ha).2.2 z
theorem MX.ret {n' : Nat} {B' H' : Hp} {r : RV} {v : V} (h : MX K E M n B H bxs σ ρ ms) (g : RetR K (entM E ms B H) n' B' H' r v) : RetR K E n' B' H' r v ∧ MOk K E.H E.bxs B' H' ms := by
  obtain ⟨st, vr, fr, ro⟩ := g
  have hE : ∀ a, (entM E ms B H).H a = none → E.H a = none := fun a z => by
    cases e : E.H a with
    | none => rfl
    | some u => rw [h.old (ne_none_of e), e] at z; cases z
  have hp := h.parts st
  refine ⟨⟨h.back st, vr, ?_, ro⟩, ⟨fun a ha => ?_, h.ok.en, fun m hm => m.mono st.b1 (fun a ha o e => (hp a (in_adM hm ha)).2 o e) (h.ok.rl m hm), h.ok.nd⟩⟩
  · cases r with
    | new xs => obtain ⟨p, e, q⟩ := fr; exact ⟨p, e, hE p q⟩
    | nbox => obtain ⟨p, e, q⟩ := fr; exact ⟨p, e, hE p q⟩
    | own T => obtain ⟨p, e, q⟩ := fr; exact ⟨p, e, hE p q⟩
    | obj a => trivial
    | d x => trivial
    | bor xs => trivial
    | box => trivial
  · obtain ⟨o, e⟩ := some_of (h.ok.at_ a ha).2.2
    exact ⟨fun z => (h.ok.at_ a ha).1 (h.sv.sup _ z), (hp a ha).1, ne_none_of ((hp a ha).2 o e)⟩
theorem adM_app (ms ms' : MS) : adM (ms ++ ms') = adM ms ++ adM ms' := List.flatMap_append
theorem adM_perm {ms ms' : MS} (p : ms.Perm ms') : (adM ms).Perm (adM ms') := p.flatMap_right _
theorem MOk.perm {ms ms' : MS} (h : MOk K EH bxs B H ms) (p : ms.Perm ms') : MOk K EH bxs B H ms' :=
  ⟨fun a ha => h.at_ a ((adM_perm p).mem_iff.mpr ha), fun a ha => h.en a ((adM_perm p).mem_iff.mpr ha), fun m hm => h.rl m (p.mem_iff.mpr hm), (adM_perm p).nodup_iff.mp h.nd⟩
theorem MX.perm {ms ms' : MS} (h : MX K E M n B H bxs σ ρ ms) (p : ms.Perm ms') : MX K E M n B H bxs σ ρ ms' :=
  ⟨h.sv, h.ok.perm p, fun a ha => h.ow a ((adM_perm p).mem_iff.mpr ha)⟩
end
/-! ### what a call does to the objects that it is given -/
structure StepM (bxs ads : List Addr) (n n' : Nat) (B H B' H' : Hp) : Prop where
  b1 : Same B B'
  b2 : Same B' H'
  b3 : ∀ a, a ∉ ads → H a ≠ none → B' a = B a
  h1 : ∀ a o, a ∉ bxs → a ∉ ads → H a = some o → H' a = some o
  bx : ∀ b ∈ bxs, BoxAt H' b n'
  nn : n ≤ n'
section
variable {K : PySem.W.Frag} {E : Ent} {M EH : Hp} {n n1 : Nat} {B H B1 H1 : Hp} {bxs : List Addr} {σ σ' : L2.St} {ρ ρ' : DEnv} {ma mb ma' : MS}
theorem ValR.stepM {ads : List Addr} {r : RV} {v : V} (s : StepM bxs ads n n1 B H B1 H1) (hn : ∀ p, isOwn r → v = .ref p → p ∉ ads) (hr : slotOk r) (h : ValR K bxs n B H r v) : ValR K bxs n1 B1 H1 r v := by
  cases r with
  | d x => exact dpSame s.b1 x v h
  | new xs =>
    obtain ⟨p, vs, e, h1, h2, h3, h4⟩ := h
    have np := hn p trivial e
    exact ⟨p, vs, e, h1, by rw [s.b3 p np (ne_none_of h3)]; exact h2, s.h1 p _ h1 np h3, dpSameAll s.b1 xs vs h4⟩
  | bor xs => exact hr.elim
  | box => exact h
  | nbox => exact hr.elim
  | own T =>
    obtain ⟨p, o, e, h1, h2, h3, h4⟩ := h
    have np := hn p trivial e
    exact ⟨p, o, e, h1, by rw [s.b3 p np (ne_none_of h3)]; exact h2, s.h1 p _ h1 np h3, T.mono s.b1 h4⟩
  | obj a => exact h
/-- the caller's view -/
theorem MX.call (h : MX K E M n B H bxs σ ρ (ma ++ mb)) (s : StepM bxs (adM ma) n n1 B H B1 H1) (at2 : ∀ a ∈ adM ma', a ∉ bxs ∧ B1 a = none ∧ H1 a ≠ none) (rl2 : ∀ m ∈ ma', m.rel K B1 H1) (nd2 : (adM ma').Nodup) (fr : ∀ a ∈ adM ma', a ∈ adM ma ∨ H a = none) :
    MX K E M n1 B1 H1 bxs σ ρ (ma' ++ mb) := by
  have sv := h.sv
  have en : ∀ a ∈ adM ma, E.H a = none := fun a ha => h.ok.en a (by rw [adM_app]; exact List.mem_append_left _ ha)
  have hE : ∀ a ∈ adM ma', E.H a = none := fun a ha => by
    rcases fr a ha with z | z
    · exact en a z
    · exact sv.st.free z
  have dis : ∀ a ∈ adM mb, a ∉ adM ma := fun a hb ha => by
    have := h.ok.nd
    rw [adM_app] at this
    exact (List.nodup_append.mp this).2.2 a ha a hb rfl
  have own : ∀ (i : Nat) (r : RV) (p : Addr), ρ[i]? = some (some r) → isOwn r → σ[i]? = some (some (.ref p)) → p ∉ adM ma := fun i r p h1 o h2 ha => h.ow p (by rw [adM_app]; exact List.mem_append_left _ ha) i r h1 o h2
  refine ⟨⟨⟨sv.st.b1.trans s.b1, s.b2, fun a ha => ?_, fun a o hb ha => ?_, fun b hb => s.bx b (sv.sup b hb), Nat.le_trans sv.st.nn s.nn⟩, sv.mb.trans s.b1, ⟨s.b2, fun b hb => ?_⟩, sv.bs, sv.sup, ⟨sv.env.len, fun i r hr => ?_, sv.env.own, sv.env.ok⟩, sv.ow⟩, ⟨fun a ha => ?_, fun a ha => ?_, fun m hm => ?_, ?_⟩, fun a ha i r h1 o h2 => ?_⟩
  · have na : a ∉ adM ma := fun z => ha (en a z)
    obtain ⟨o, e⟩ := some_of ha
    by_cases hb : a ∈ E.bxs
    · have := (sv.g.box a (sv.sup a hb)).2.ne
      rw [s.b3 a na this, sv.st.b3 a ha]
    · rw [s.b3 a na (ne_none_of (sv.st.h1 a o hb e)), sv.st.b3 a ha]
  · have na : a ∉ adM ma := fun z => (ne_none_of ha) (en a z)
    have e := sv.st.h1 a o hb ha
    refine s.h1 a o (fun z => ?_) na e
    rcases sv.bs a z with y | y
    · exact hb y
    · rw [y] at ha
      cases ha
  · obtain ⟨b1, b2⟩ := sv.g.box b hb
    refine ⟨?_, s.bx b hb⟩
    have nb : b ∉ adM ma := fun z => (h.ok.at_ b (by rw [adM_app]; exact List.mem_append_left _ z)).1 hb
    rw [s.b3 b nb b2.ne]
    exact b1
  · obtain ⟨v, h1, h2⟩ := sv.env.val i r hr
    exact ⟨v, h1, h2.stepM s (fun p o e => own i r p hr o (by rw [h1, e])) (sv.env.ok i r hr)⟩
  · rw [adM_app] at ha
    rcases List.mem_append.mp ha with z | z
    · exact at2 a z
    · obtain ⟨a1, a2, a3⟩ := h.ok.at_ a (by rw [adM_app]; exact List.mem_append_right _ z)
      obtain ⟨o, e⟩ := some_of a3
      exact ⟨a1, by rw [s.b3 a (dis a z) a3]; exact a2, ne_none_of (s.h1 a o a1 (dis a z) e)⟩
  · rw [adM_app] at ha
    rcases List.mem_append.mp ha with z | z
    · exact hE a z
    · exact h.ok.en a (by rw [adM_app]; exact List.mem_append_right _ z)
  · rcases List.mem_append.mp hm with z | z
    · exact rl2 m z
    · refine m.mono s.b1 (fun a ha o e => ?_) (h.ok.rl m (List.mem_append_right _ z))
      have az := in_adM z ha
      exact s.h1 a o (h.ok.at_ a (by rw [adM_app]; exact List.mem_append_right _ az)).1 (dis a az) e
  · rw [adM_app]
    refine List.nodup_append.mpr ⟨nd2, ?_, fun a ha b hb e => ?_⟩
    · have := h.ok.nd
      rw [adM_app] at this
      exact (List.nodup_append.mp this).2.1
    · subst e
      rcases fr a ha with z | z
      · exact dis a hb z
      · exact (h.ok.at_ a (by rw [adM_app]; exact List.mem_append_right _ hb)).2.2 z
  · rw [adM_app] at ha
    rcases List.mem_append.mp ha with z | z
    · rcases fr a z with y | y
      · exact own i r a h1 o h2 y
      · obtain ⟨v, e1, e2⟩ := sv.env.val i r h1
        rw [h2] at e1
        cases e1
        obtain ⟨_, _, u, e3⟩ := own_at e2 o
        rw [y] at e3
        cases e3
    · exact h.ow a (by rw [adM_app]; exact List.mem_append_right _ z) i r h1 o h2
end
end Dl

namespace Dl
open PySem PySem.Spec PyProof.Rows L2
/-! ### readings over names and objects -/
noncomputable abbrev DEM := DEnv → MS → Nat → (RV → MS → Nat → Prop) → Prop
noncomputable abbrev DTM := DEnv → MS → Nat → (Bool → MS → Nat → Prop) → Prop
noncomputable abbrev DAM := DEnv → MS → Nat → (List RV → MS → Nat → Prop) → Prop
structure MEnds where
  nx : DEnv → MS → Nat → Prop
  rt : RV → MS → Nat → Prop
  bk : DEnv → MS → Nat → Prop := fun _ _ _ => False
  ct : DEnv → MS → Nat → Prop := fun _ _ _ => False
noncomputable abbrev DSM := MEnds → DEnv → MS → Nat → Prop
noncomputable def upM (K : PySem.W.Frag) (E : Ent) (w : DEM) : TE := fun σ H Q => ∃ (ρ : DEnv) (ms : MS) (n : Nat) (B M : Hp) (bxs : List Addr) (Qd : RV → MS → Nat → Prop), MX K E M n B H bxs σ ρ ms ∧ w ρ ms n Qd ∧
  ∀ r ms1 n1 v B1 H1, Qd r ms1 n1 → MX K E M n1 B1 H1 bxs σ ρ ms1 → Same B B1 → ValR K bxs n1 B1 H1 r v → Q v H1
noncomputable def upTM (K : PySem.W.Frag) (E : Ent) (w : DTM) : TT := fun σ H Q => ∃ (ρ : DEnv) (ms : MS) (n : Nat) (B M : Hp) (bxs : List Addr) (Qd : Bool → MS → Nat → Prop), MX K E M n B H bxs σ ρ ms ∧ w ρ ms n Qd ∧
  ∀ b ms1 n1 B1 H1, Qd b ms1 n1 → MX K E M n1 B1 H1 bxs σ ρ ms1 → Same B B1 → Q b H1
noncomputable def upAM (K : PySem.W.Frag) (E : Ent) (w : DAM) : TA := fun σ H Q => ∃ (ρ : DEnv) (ms : MS) (n : Nat) (B M : Hp) (bxs : List Addr) (Qd : List RV → MS → Nat → Prop), MX K E M n B H bxs σ ρ ms ∧ w ρ ms n Qd ∧
  ∀ rs ms1 n1 vs B1 H1, Qd rs ms1 n1 → MX K E M n1 B1 H1 bxs σ ρ ms1 → Same B B1 → ValsR K bxs n1 B1 H1 rs vs → Q vs H1
structure EndsM (K : PySem.W.Frag) (E : Ent) (M : Hp) (D : Ends) (Dd : MEnds) : Prop where
  nx : ∀ n B H bxs σ ρ ms, MX K E M n B H bxs σ ρ ms → Dd.nx ρ ms n → D.nx σ H
  rt : ∀ n B H r v ms, RetR K E n B H r v → MOk K E.H E.bxs B H ms → Dd.rt r ms n → D.rt v H
  bk : ∀ n B H bxs σ ρ ms, MX K E M n B H bxs σ ρ ms → Dd.bk ρ ms n → D.bk σ H
  ct : ∀ n B H bxs σ ρ ms, MX K E M n B H bxs σ ρ ms → Dd.ct ρ ms n → D.ct σ H
noncomputable def upSM (K : PySem.W.Frag) (E : Ent) (w : DSM) : TS := fun D σ H => ∃ (ρ : DEnv) (ms : MS) (n : Nat) (B M : Hp) (bxs : List Addr) (Dd : MEnds), MX K E M n B H bxs σ ρ ms ∧ w Dd ρ ms n ∧ EndsM K E M D Dd
noncomputable abbrev LEM (X : Cx) (E : Ent) (e : Expr) (w : DEM) : Prop := PE X e (upM X.K E w)
noncomputable abbrev LTM (X : Cx) (E : Ent) (e : Expr) (w : DTM) : Prop := PT X e (upTM X.K E w)
noncomputable abbrev LWM (X : Cx) (E : Ent) (e : Expr) (w : DTM) : Prop := PW X e (upTM X.K E w)
noncomputable abbrev LAM (X : Cx) (E : Ent) (es : List Expr) (w : DAM) : Prop := PA X es (upAM X.K E w)
noncomputable abbrev LSM (X : Cx) (E : Ent) (st : Stmt) (w : DSM) : Prop := PS X st (upSM X.K E w)
noncomputable abbrev LSsM (X : Cx) (E : Ent) (st : List Stmt) (w : DSM) : Prop := PSs X st (upSM X.K E w)
/-- what an expression may leave -/
noncomputable def okM (r : RV) (F : RV → Prop) : Prop := match r with
  | .d x => F (.d x)
  | .new xs => F (.d (.list xs))
  | .obj a => F (.obj a)
  | .box => F .box
  | _ => False
/-- what stays as it is while others are reckoned -/
noncomputable def stM (r : RV) (F : RV → Prop) : Prop := match r with
  | .d x => F (.d x)
  | .obj a => F (.obj a)
  | .box => F .box
  | _ => False
section
variable {K : PySem.W.Frag} {E : Ent} {M : Hp} {n n1 : Nat} {B H B1 H1 : Hp} {bxs : List Addr} {σ : L2.St} {ρ : DEnv} {ms : MS}
theorem okM_inv {r : RV} {v : V} {F : RV → Prop} (h : MX K E M n B H bxs σ ρ ms) (s : Step bxs n n1 B H B1 H1) (vr : ValR K bxs n1 B1 H1 r v) (fr : FrR H r v) (hf : okM r F) :
    ∃ r' B2, F r' ∧ MX K E M n1 B2 H1 bxs σ ρ ms ∧ Same B B2 ∧ ValR K bxs n1 B2 H1 r' v := by
  cases r with
  | d x => exact ⟨.d x, B1, hf, h.step s, s.b1, vr⟩
  | new xs =>
    obtain ⟨B2, s2, vr2, _⟩ := fix_r h.sv.g s vr fr
    exact ⟨_, B2, hf, h.step s2, s2.b1, vr2⟩
  | obj a => exact ⟨.obj a, B1, hf, h.step s, s.b1, vr⟩
  | box => exact ⟨.box, B1, hf, h.step s, s.b1, vr⟩
  | bor xs => exact hf.elim
  | nbox => exact hf.elim
  | own T => exact hf.elim
theorem stM_ex {r : RV} {F : RV → Prop} (h : stM r F) : F r ∧ ∀ {K : PySem.W.Frag} {bxs : List Addr} {n n1 : Nat} {B H B1 H1 : Hp} {v : V}, Same B B1 → ValR K bxs n B H r v → ValR K bxs n1 B1 H1 r v := by
  cases r with
  | d x => exact ⟨h, fun s vr => dpSame s _ _ vr⟩
  | obj a => exact ⟨h, fun _ vr => vr⟩
  | box => exact ⟨h, fun _ vr => vr⟩
  | new xs => exact h.elim
  | bor xs => exact h.elim
  | nbox => exact h.elim
  | own T => exact h.elim
end
/-! ### expressions -/
noncomputable def ofE (w : DE) : DEM := fun ρ ms n Q => w ρ n fun r n1 => okM r fun r' => Q r' ms n1
noncomputable def ofT (w : DT) : DTM := fun ρ ms n Q => w ρ n fun b n1 => Q b ms n1
noncomputable def dOpM (w : DOp) (wa wb : DEM) : DEM := fun ρ ms n Q => wa ρ ms n fun r1 ms1 n1 => onD r1 fun x => wb ρ ms1 n1 fun r2 ms2 n2 => onD r2 fun y => w x y fun r => okM r fun r' => Q r' ms2 n2
noncomputable def dTestM (w : DEM) : DTM := fun ρ ms n Q => w ρ ms n fun r ms1 n1 => onB r fun b => Q b ms1 n1
noncomputable def dNotM (w : DTM) : DTM := fun ρ ms n Q => w ρ ms n fun b ms1 n1 => Q (!b) ms1 n1
noncomputable def dAndM (w u : DTM) : DTM := fun ρ ms n Q => w ρ ms n fun b ms1 n1 => if b = true then u ρ ms1 n1 Q else Q false ms1 n1
noncomputable def dOrM (w u : DTM) : DTM := fun ρ ms n Q => w ρ ms n fun b ms1 n1 => if b = true then Q true ms1 n1 else u ρ ms1 n1 Q
noncomputable def dIfM (w : DTM) (wa wb : DEM) : DEM := fun ρ ms n Q => w ρ ms n fun b ms1 n1 => if b = true then wa ρ ms1 n1 Q else wb ρ ms1 n1 Q
noncomputable def dNilM : DAM := fun _ ms n Q => Q [] ms n
noncomputable def dConsM (wa : DEM) (wr : DAM) : DAM := fun ρ ms n Q => wa ρ ms n fun r ms1 n1 => stM r fun r' => wr ρ ms1 n1 fun rs ms2 n2 => Q (r' :: rs) ms2 n2
noncomputable def dLstM (wr : DAM) : DEM := fun ρ ms n Q => wr ρ ms n fun rs ms1 n1 => onO (datas rs) fun xs => xs.length ≤ sizeLine ∧ Q (.d (.list xs)) ms1 n1
noncomputable def dTupM (wr : DAM) : DEM := fun ρ ms n Q => wr ρ ms n fun rs ms1 n1 => onO (datas rs) fun xs => xs.length ≤ sizeLine ∧ Q (.d (.tuple xs)) ms1 n1
section
variable {X : Cx} {E : Ent} {a b c e : Expr} {es rest : List Expr} {wa wb : DEM} {w u : DTM} {pos : Pos}
theorem lem_of {we : DE} (h : LE X e we) : LEM X E e (ofE we) := pe_imp h fun σ H Q hu => by
  obtain ⟨ρ, ms, n, B, M, bxs, Qd, h, w1, q⟩ := hu
  refine ⟨ρ, n, B, bxs, _, h.sv.g, h.sv.env, w1, fun r n1 v B1 H1 hq s1 vr fr => ?_⟩
  obtain ⟨r', B2, hf, h2, sb, vr2⟩ := okM_inv h s1 vr fr hq
  exact q _ _ _ _ _ _ hf h2 sb vr2
theorem ltm_of {wt : DT} (h : LT X e wt) : LTM X E e (ofT wt) := pt_imp h fun σ H Q hu => by
  obtain ⟨ρ, ms, n, B, M, bxs, Qd, h, w1, q⟩ := hu
  exact ⟨ρ, n, B, bxs, _, h.sv.g, h.sv.env, w1, fun b n1 B1 H1 hq s1 => q _ _ _ _ _ hq (h.step s1) s1.b1⟩
theorem up_opM {K : PySem.W.Frag} {f : Value → Value → Sem Value} {w : DOp} {r : R2} (hl : ∀ (bxs : List Addr) (n : Nat) (B H : Hp) (x y : PyData) (v u : V) (Qd : RV → Prop) (Q : VK), Good bxs n B H → DpV K B H v x → DpV K B H u y → w x y Qd →
      (∀ res v' B1 H1, Qd res → Step bxs n n B H B1 H1 → ValR K bxs n B1 H1 res v' → FrR H res v' → Q v' H1) → r v u H Q) (σ : L2.St) (H : Hp) (Q : VK) (hu : upM K E (dOpM w wa wb) σ H Q) : tOp r (upM K E wa) (upM K E wb) σ H Q := by
  obtain ⟨ρ, ms, n, B, M, bxs, Qd, h, w1, q⟩ := hu
  refine ⟨ρ, ms, n, B, M, bxs, _, h, w1, fun r1 ms1 n1 v1 B1 H1 hq1 h1 sb1 vr1 => ?_⟩
  obtain ⟨x, rfl, hq1⟩ := onD_ex hq1
  refine ⟨ρ, ms1, n1, B1, M, bxs, _, h1, hq1, fun r2 ms2 n2 v2 B2 H2 hq2 h2 sb2 vr2 => ?_⟩
  obtain ⟨y, rfl, w4⟩ := onD_ex hq2
  refine hl bxs n2 B2 H2 x y v1 v2 _ Q h2.sv.g (.inl (dpSame sb2 _ _ vr1)) (.inl vr2) w4 fun res v' B3 H3 w5 s3 r3 f3 => ?_
  obtain ⟨r', B4, hf, h4, sb, vr⟩ := okM_inv h2 s3 r3 f3 w5
  exact q _ _ _ _ _ _ hf h4 ((sb1.trans sb2).trans sb) vr
theorem lem_cmp {op : CmpOp} {w : DOp} (ho : LOp X (compareOp op) w) (ha : LEM X E a wa) (hb : LEM X E b wb) (hm : behindInMarks op b = false) : LEM X E (.Compare a [op] [b] pos) (dOpM w wa wb) := by
  obtain ⟨r, h1, h2⟩ := ho
  exact pe_imp (pe_cmpR h1 ha hb hm) (up_opM (f := compareOp op) h2)
theorem up_testM {K : PySem.W.Frag} {w : DEM} (σ : L2.St) (H : Hp) (Q : Bool → Hp → Prop) (h : upTM K E (dTestM w) σ H Q) : tB (upM K E w) σ H Q := by
  obtain ⟨ρ, ms, n, B, M, bxs, Qd, h, w1, q⟩ := h
  refine ⟨ρ, ms, n, B, M, bxs, _, h, w1, fun r ms1 n1 v B1 H1 hb h1 sb vr => ?_⟩
  obtain ⟨bv, rfl, hq⟩ := onB_ex hb
  cases vr
  exact ⟨bv, rfl, q _ _ _ _ _ hq h1 sb⟩
theorem ltm_val {w : DEM} (h : LEM X E e w) (he : ∀ whole, isTrue e X.env whole = (do let v ← whole; standAt e.pos; holding [v] (truthy v)) := by intro _; rfl) : LTM X E e (dTestM w) := pt_imp (pt_val h he) up_testM
theorem ltm_cmp {op : CmpOp} {w : DOp} (ho : LOp X (compareOp op) w) (ha : LEM X E a wa) (hb : LEM X E b wb) (hm : behindInMarks op b = false) : LTM X E (.Compare a [op] [b] pos) (dTestM (dOpM w wa wb)) := by
  obtain ⟨r, h1, h2⟩ := ho
  refine pt_imp (pt_cmpR h1 ha hb hm) fun σ H Q h => ?_
  have h3 := up_testM σ H Q h
  exact up_opM (f := compareOp op) h2 σ H _ h3
theorem ltm_not (h : LTM X E a w) : LTM X E (.UnaryOp .Not a pos) (dNotM w) := pt_imp (pt_not h) fun σ H Q hu => by
  obtain ⟨ρ, ms, n, B, M, bxs, Qd, h, w1, q⟩ := hu
  exact ⟨ρ, ms, n, B, M, bxs, _, h, w1, fun b ms1 n1 B1 H1 hq h1 sb => q _ _ _ _ _ hq h1 sb⟩
theorem up_orM {K : PySem.W.Frag} (σ : L2.St) (H : Hp) (Q : Bool → Hp → Prop) (hu : upTM K E (dOrM w u) σ H Q) : tOr (upTM K E w) (upTM K E u) σ H Q := by
  obtain ⟨ρ, ms, n, B, M, bxs, Qd, h, w1, q⟩ := hu
  refine ⟨ρ, ms, n, B, M, bxs, _, h, w1, fun bv ms1 n1 B1 H1 hq h1 sb => ?_⟩
  cases bv with
  | true => exact iteT (q _ _ _ _ _ hq h1 sb)
  | false => exact iteF ⟨ρ, ms1, n1, B1, M, bxs, Qd, h1, hq, fun b2 ms2 n2 B2 H2 hq2 h2 sb2 => q _ _ _ _ _ hq2 h2 (sb.trans sb2)⟩
theorem lwm_or1 (h : LTM X E a w) : LWM X E (.BoolOp .Or [a] pos) w := pw_or1 h
theorem lwm_or (h : LTM X E a w) (hb : LWM X E (.BoolOp .Or (b :: rest) pos) u) : LWM X E (.BoolOp .Or (a :: b :: rest) pos) (dOrM w u) := pw_imp (pw_or h hb) up_orM
theorem ltm_w (h : LWM X E e w) : LTM X E e w := h.pt
theorem lam_nil : LAM X E [] dNilM := pa_imp pa_nil fun σ H Q hu => by
  obtain ⟨ρ, ms, n, B, M, bxs, Qd, h, w1, q⟩ := hu
  exact q _ _ _ [] _ _ w1 h (Same.refl _) trivial
theorem lam_cons {wr : DAM} (ha : LEM X E a wa) (hr : LAM X E es wr) (hs : starEach (a :: es) X.env = (false, eval a X.env) :: starEach es X.env := by rfl) : LAM X E (a :: es) (dConsM wa wr) := pa_imp (pa_cons ha hr hs) fun σ H Q hu => by
  obtain ⟨ρ, ms, n, B, M, bxs, Qd, h, w1, q⟩ := hu
  refine ⟨ρ, ms, n, B, M, bxs, _, h, w1, fun r ms1 n1 v B1 H1 hq1 h1 sb1 vr => ?_⟩
  obtain ⟨hq1, st⟩ := stM_ex hq1
  refine ⟨ρ, ms1, n1, B1, M, bxs, _, h1, hq1, fun rs ms2 n2 vs B2 H2 hq2 h2 sb2 vrs => ?_⟩
  exact q _ _ _ _ _ _ hq2 h2 (sb1.trans sb2) ⟨st sb2 vr, vrs⟩
end
end Dl

namespace Dl
open PySem PySem.Spec PyProof.Rows L2
/-! ### statements over names and objects -/
noncomputable def ofS (w : DS) : DSM := fun D ρ ms n => w { nx := fun ρ' n' => D.nx ρ' ms n', rt := fun r n' => D.rt r ms n', bk := fun ρ' n' => D.bk ρ' ms n', ct := fun ρ' n' => D.ct ρ' ms n' } ρ n
noncomputable def dNextM : DSM := fun D ρ ms n => D.nx ρ ms n
noncomputable def dSeqM (w u : DSM) : DSM := fun D ρ ms n => w { D with nx := u D } ρ ms n
noncomputable def dIfSM (w : DTM) (wa wb : DSM) : DSM := fun D ρ ms n => w ρ ms n fun b ms1 n1 => if b = true then wa D ρ ms1 n1 else wb D ρ ms1 n1
noncomputable def dForM (wi : DI) (wg : DG) (wb : DSM) : DSM := fun D ρ ms n => wi ρ n fun items n1 => ∃ Inv : Nat → DEnv → MS → Nat → Prop, Inv 0 ρ ms n1 ∧
  (∀ i ρ ms n z, Inv i ρ ms n → items[i]? = some z → wg z ρ fun ρ' => wb { nx := Inv (i + 1), ct := Inv (i + 1), bk := D.nx, rt := D.rt } ρ' ms n) ∧ ∀ ρ ms n, Inv items.length ρ ms n → D.nx ρ ms n
noncomputable def setM (r : RV) (F : RV → Prop) : Prop := match r with
  | .d x => F (.d x)
  | .obj a => F (.obj a)
  | _ => False
noncomputable def dSetM (i : Nat) (w : DEM) : DSM := fun D ρ ms n => w ρ ms n fun r ms1 n1 => setM r fun r' => D.nx (ρ.set i (some r')) ms1 n1
noncomputable def dExprM (w : DEM) : DSM := fun D ρ ms n => w ρ ms n fun _ ms1 n1 => D.nx ρ ms1 n1
noncomputable def dRetM (w : DEM) : DSM := fun D ρ ms n => w ρ ms n fun r ms1 n1 => setM r fun r' => D.rt r' ms1 n1
theorem EnvR.setV {K : PySem.W.Frag} {bxs : List Addr} {n : Nat} {B H : Hp} {σ : L2.St} {ρ : DEnv} (e : EnvR K bxs n B H σ ρ) (i : Nat) {r0 : RV} {v0 : V} (hno : ¬ isOwn r0) (hok : slotOk r0) (h : ValR K bxs n B H r0 v0) : EnvR K bxs n B H (σ.set i (some v0)) (ρ.set i (some r0)) where
  len := by rw [List.length_set, List.length_set, e.len]
  val := fun j r hr => by
    by_cases hij : i = j
    · subst hij
      have hi : i < ρ.length := by
        have := (List.getElem?_eq_some_iff.mp hr).1
        rwa [List.length_set] at this
      rw [List.getElem?_set_self hi] at hr
      cases hr
      exact ⟨v0, List.getElem?_set_self (by rw [e.len]; exact hi), h⟩
    · rw [List.getElem?_set_ne hij] at hr
      rw [List.getElem?_set_ne hij]
      exact e.val j r hr
  own := fun j k r r' p h1 h2 o1 o2 h3 h4 => by
    have nn : ∀ (m : Nat) (z : RV), isOwn z → (ρ.set i (some r0))[m]? = some (some z) → i ≠ m := fun m z o hm q => by
      subst q
      have hi : i < ρ.length := by
        have := (List.getElem?_eq_some_iff.mp hm).1
        rwa [List.length_set] at this
      rw [List.getElem?_set_self hi] at hm
      cases hm
      exact hno o
    have nj := nn j r o1 h1
    have nk := nn k r' o2 h2
    rw [List.getElem?_set_ne nj] at h1 h3
    rw [List.getElem?_set_ne nk] at h2 h4
    exact e.own j k r r' p h1 h2 o1 o2 h3 h4
  ok := ok_set e.ok hok
theorem UpdR.setV (σ : L2.St) (ρ : DEnv) (i : Nat) (v0 : V) {r0 : RV} (hno : ¬ isOwn r0) : UpdR [i] σ (σ.set i (some v0)) ρ (ρ.set i (some r0)) where
  out := fun j hj => List.getElem?_set_ne (fun q => hj (by rw [q]; exact List.mem_singleton.mpr rfl))
  len := List.length_set
  own := fun j r hr o => by
    have nj : i ≠ j := fun q => by
      subst q
      have hi : i < ρ.length := by
        have := (List.getElem?_eq_some_iff.mp hr).1
        rwa [List.length_set] at this
      rw [List.getElem?_set_self hi] at hr
      cases hr
      exact hno o
    rw [List.getElem?_set_ne nj] at hr
    exact ⟨hr, List.getElem?_set_ne nj⟩
theorem setM_ex {r : RV} {F : RV → Prop} (h : setM r F) : F r ∧ ¬ isOwn r ∧ slotOk r ∧ retOk r := by
  cases r with
  | d x => exact ⟨h, fun z => z, trivial, trivial⟩
  | obj a => exact ⟨h, fun z => z, trivial, trivial⟩
  | new xs => exact h.elim
  | bor xs => exact h.elim
  | nbox => exact h.elim
  | own T => exact h.elim
  | box => exact h.elim
section
variable {X : Cx} {E : Ent} {st : Stmt} {rest body sa sb : List Stmt} {c e tg iter : Expr} {w u : DSM} {wt : DTM} {we : DEM} {pos pos' : Pos} {x : Str}
theorem lsm_of {ws : DS} (h : ∀ E', LS X E' st ws) : LSM X E st (ofS ws) := ⟨fun pins s σ H D I hu => by
  obtain ⟨ρ, ms, n, B, M, bxs, Dd, h0, w1, q⟩ := hu
  refine (h (entM E ms B H)).run pins s σ H D I ⟨ρ, n, B, B, bxs, _, h0.inner, w1, ⟨fun n1 B1 H1 b1 σ1 ρ1 g w2 => q.nx _ _ _ _ _ _ _ (h0.outer g) w2, fun n1 B1 H1 r v g w2 => ?_, fun n1 B1 H1 b1 σ1 ρ1 g w2 => q.bk _ _ _ _ _ _ _ (h0.outer g) w2, fun n1 B1 H1 b1 σ1 ρ1 g w2 => q.ct _ _ _ _ _ _ _ (h0.outer g) w2⟩⟩
  obtain ⟨a, b⟩ := h0.ret g
  exact q.rt _ _ _ _ _ _ a b w2⟩
theorem lssm_nil : LSsM X E [] dNextM := pss_imp pss_nil fun D σ H hu => by
  obtain ⟨ρ, ms, n, B, M, bxs, Dd, h, w1, q⟩ := hu
  exact q.nx _ _ _ _ _ _ _ h w1
theorem lssm_one (h1 : LSM X E st w) : LSsM X E [st] w := pss_one h1
theorem lssm_cons (h1 : LSM X E st w) (h2 : LSsM X E rest u) : LSsM X E (st :: rest) (dSeqM w u) := pss_imp (pss_cons h1 h2) fun D σ H hu => by
  obtain ⟨ρ, ms, n, B, M, bxs, Dd, h, w1, q⟩ := hu
  exact ⟨ρ, ms, n, B, M, bxs, { Dd with nx := u Dd }, h, w1, ⟨fun n1 B1 H1 b1 σ1 ρ1 ms1 h1 w2 => ⟨ρ1, ms1, n1, B1, M, b1, Dd, h1, w2, q⟩, q.rt, q.bk, q.ct⟩⟩
theorem lsm_if (hc : LTM X E c wt) (ha : LSsM X E sa w) (hb : LSsM X E sb u) : LSM X E (.If c sa sb pos) (dIfSM wt w u) := ps_imp (ps_if hc ha hb) fun D σ H hu => by
  obtain ⟨ρ, ms, n, B, M, bxs, Dd, h, w1, q⟩ := hu
  refine ⟨ρ, ms, n, B, M, bxs, _, h, w1, fun bv ms1 n1 B1 H1 hq h1 sb => ?_⟩
  cases bv with
  | true => exact iteT ⟨ρ, ms1, n1, B1, M, bxs, Dd, h1, hq, q⟩
  | false => exact iteF ⟨ρ, ms1, n1, B1, M, bxs, Dd, h1, hq, q⟩
theorem lsm_for {us : List Nat} {wi : DI} {wg : DG} (hp : PassesOwn (model X.prog X.w) X.A X.env X.xe) (hc : X.calm = true) (hi : LI X tg iter wi) (hg : LG X tg us wg) (hb : LSsM X E body w) (hs : ∀ x, foldedSetIterable iter X.env x = pure x := by intro _; rfl) :
    LSM X E (.For tg iter body [] pos) (dForM wi wg w) := ps_imp (ps_for hp hc hi (lg_up hg) hb hs) fun D σ H hu => by
  obtain ⟨ρ, ms, n, B, M, bxs, Dd, h, w1, q⟩ := hu
  refine ⟨ρ, n, B, bxs, _, h.sv.g, h.sv.env, w1, fun items n1 B1 H1 J hq s1 ji => ?_⟩
  obtain ⟨Iv, h0, ht, hd⟩ := hq
  have h1 := h.step s1
  have hM : Same M B1 := h1.sv.mb
  have h1' : MX X.K E B1 n1 B1 H1 bxs σ ρ ms := ⟨⟨h1.sv.st, Same.refl _, h1.sv.g, h1.sv.bs, h1.sv.sup, h1.sv.env, h1.sv.ow⟩, h1.ok, h1.ow⟩
  refine ⟨fun i m σ' H' => m = items.length - i ∧ i ≤ items.length ∧ ∃ (ρ' : DEnv) (ms' : MS) (n' : Nat) (B' : Hp) (bxs' : List Addr), MX X.K E B1 n' B' H' bxs' σ' ρ' ms' ∧ Iv i ρ' ms' n', ⟨_, rfl, Nat.zero_le _, ρ, ms, n1, B1, bxs, h1', h0⟩, ?_⟩
  rintro i m σ' H' ⟨rfl, hle, ρ', ms', n', B', bxs', hv, iv⟩
  by_cases hlt : i < items.length
  · refine .inr ⟨ji.go i H' (hv.sv.mb.trans hv.sv.g.sub) hlt, fun σ2 H2 => ∃ (ρ2 : DEnv) (ms2 : MS) (n2 : Nat) (B2 : Hp) (bxs2 : List Addr), MX X.K E B1 n2 B2 H2 bxs2 σ2 ρ2 ms2 ∧ Iv (i + 1) ρ2 ms2 n2, fun σ2 H2 hn => ⟨items.length - (i + 1), by omega, rfl, hlt, hn⟩, fun xv Hy hy => ?_⟩
    have hz : items[i]? = some items[i] := List.getElem?_eq_getElem hlt
    obtain ⟨By, sy, dx⟩ := yr_step hv.sv.g hv.sv.mb (ji.yld i H' xv Hy items[i] (hv.sv.mb.trans hv.sv.g.sub) hy hz)
    have hy' := hv.step sy
    refine ⟨bxs', n', By, ρ', items[i], _, hy'.sv.g, hy'.sv.env, dx, ht i ρ' ms' n' items[i] iv hz, fun σ2 ρ2 hq2 e2 u2 => ?_⟩
    refine ⟨ρ2, ms', n', By, B1, bxs', _, hy'.upd e2 u2, hq2, ⟨fun n3 B3 H3 b3 σ3 ρ3 m3 h3 w3 => ⟨ρ3, m3, n3, B3, b3, h3, w3⟩, q.rt, fun n3 B3 H3 b3 σ3 ρ3 m3 h3 w3 => q.nx _ _ _ _ _ _ _ (h3.weak hM) w3, fun n3 B3 H3 b3 σ3 ρ3 m3 h3 w3 => ⟨ρ3, m3, n3, B3, b3, h3, w3⟩⟩⟩
  · have el : i = items.length := by omega
    subst el
    exact .inl ⟨ji.stop H' (hv.sv.mb.trans hv.sv.g.sub), q.nx _ _ _ _ _ _ _ (hv.weak hM) (hd ρ' ms' n' iv)⟩
theorem lsm_set (i : Nat) (hN : X.N.Nodup) (he : LEM X E e we) (hi : X.N[i]? = some x := by rfl) (hx : Loc X.env.scope x := by first | exact Or.inl rfl | exact Or.inr rfl) (hs : swapsWith e (some (.Name x pos')) pos.line X.env = pure false := by rfl)
    (hf : X.fn x = true ∨ X.env.scope.names.lookup x = some .local := by first | exact .inl rfl | exact .inr rfl) : LSM X E (.Assign [.Name x pos'] e pos) (dSetM i we) := ps_imp (ps_set hN hi hx he hs hf) fun D σ H hu => by
  obtain ⟨ρ, ms, n, B, M, bxs, Dd, h, w1, q⟩ := hu
  refine ⟨ρ, ms, n, B, M, bxs, _, h, w1, fun r ms1 n1 v B1 H1 hq h1 sb vr => ?_⟩
  obtain ⟨hq, no, so, _⟩ := setM_ex hq
  exact q.nx _ _ _ _ _ _ _ (h1.upd (h1.sv.env.setV i no so vr) (UpdR.setV σ ρ i v no)) hq
theorem lsm_ret (he : LEM X E e we) : LSM X E (.Return (some e) pos) (dRetM we) := ps_imp (ps_ret he) fun D σ H hu => by
  obtain ⟨ρ, ms, n, B, M, bxs, Dd, h, w1, q⟩ := hu
  refine ⟨ρ, ms, n, B, M, bxs, _, h, w1, fun r ms1 n1 v B1 H1 hq h1 sb vr => ?_⟩
  obtain ⟨hq, no, so, ro⟩ := setM_ex hq
  have ok : MOk X.K E.H E.bxs B1 H1 ms1 := ⟨fun a ha => by
    obtain ⟨a1, a2, a3⟩ := h1.ok.at_ a ha
    exact ⟨fun z => a1 (h1.sv.sup _ z), a2, a3⟩, h1.ok.en, h1.ok.rl, h1.ok.nd⟩
  refine q.rt _ _ _ _ _ _ ⟨h1.sv.st, ?_, ?_, ro⟩ ok hq
  · cases r with
    | d x => exact vr
    | obj a => exact vr
    | box => exact ro.elim
    | bor xs => exact so.elim
    | nbox => exact so.elim
    | new xs => exact (no trivial).elim
    | own T => exact (no trivial).elim
  · cases r with
    | d x => trivial
    | obj a => trivial
    | box => trivial
    | bor xs => trivial
    | nbox => exact so.elim
    | new xs => exact (no trivial).elim
    | own T => exact (no trivial).elim
end
/-! ### promises -/
noncomputable abbrev DSpM := List RV → MS → Nat → (RV → MS → Nat → Prop) → Prop
structure AftM (K : PySem.W.Frag) (bxs : List Addr) (ms ms1 : MS) (n n1 : Nat) (B H B1 H1 : Hp) : Prop where
  st : StepM bxs (adM ms) n n1 B H B1 H1
  at_ : ∀ a ∈ adM ms1, a ∉ bxs ∧ B1 a = none ∧ H1 a ≠ none
  rl : ∀ m ∈ ms1, m.rel K B1 H1
  nd : (adM ms1).Nodup
  fr : ∀ a ∈ adM ms1, a ∈ adM ms ∨ H a = none
noncomputable def liftM (K : PySem.W.Frag) (c : DSpM) : Sp := fun vs H Q _ => ∃ (rs : List RV) (ms : MS) (n : Nat) (B : Hp) (bxs : List Addr) (Qd : RV → MS → Nat → Prop),
  Good bxs n B H ∧ ValsR K bxs n B H rs vs ∧ argsIn rs ∧ MOk K (fun _ => none) bxs B H ms ∧ c rs ms n Qd ∧
    ∀ r ms1 n1 v B1 H1, Qd r ms1 n1 → AftM K bxs ms ms1 n n1 B H B1 H1 → ValR K bxs n1 B1 H1 r v → Q v H1
structure DefM (P : Program) (w : World) (K : PySem.W.Frag) (mg : Str → Option Value) (base : Heap) (k : Nat) (x : Str) (ps : List Str) (c : DSpM) : Prop where
  ex : ∃ (f : Addr) (fd : FuncData), FnG P w K mg base k f fd ps (liftM K c) ∧ mg x = some (.ref f) ∧ PySem.W.keepIn K (.ref f) = true ∧ Binds K fd ps []
section
variable {P : Program} {w : World} {K : PySem.W.Frag} {mg : Str → Option Value} {base : Heap}
theorem fnm_mk {x qual : Str} {st : Stmt} {f : Addr} {fd : FuncData} {N ps : List Str} {k : Nat} {c : DSpM} {wb : DSM} (F : Fun K x qual st f fd) (S : FnScope N ps (defScope st))
    (hlen : ∀ rs ms n Q, c rs ms n Q → rs.length = ps.length)
    (hbody : ∀ (cdv : Value) (A : Around) (outer : List Env) (s : Shared) (H : Hp) (E : Ent), Here k (A.deeper (envOfC qual (defScope st) s.heap.objs.size f cdv)) → LSsM (cxOf CX0 P w K mg base N qual (defScope st) f cdv A outer s H E0).nox E (defBody st) wb)
    (hd : ∀ rs ms n Qd, argsIn rs → c rs ms n Qd → wb { nx := fun _ ms' n' => Qd (.d .none) ms' n', rt := fun r ms' n' => setM r fun r' => Qd r' ms' n' } (startD N rs) ms n) : FnG P w K mg base (k + 1) f fd ps (liftM K c) := by
  refine fng_of F S (fun vs H Q E h => ?_) (fun cdv A outer s H vs Q hr hg h => ?_)
  · obtain ⟨rs, ms, n, B, bxs, Qd, g, vr, ai, mo, hc, q⟩ := h
    rw [← vals_len vr]
    exact hlen _ _ _ _ hc
  · obtain ⟨rs, ms, n, B, bxs, Qd, g, vr, ai, mo, hc, q⟩ := h
    have hl := vals_len vr
    let EH : Hp := fun a => open Classical in if a ∈ adM ms then none else H a
    have ein : ∀ a, a ∈ adM ms → EH a = none := fun a z => if_pos z
    have eout : ∀ a, a ∉ adM ms → EH a = H a := fun a z => if_neg z
    have esub : ∀ a o, EH a = some o → a ∉ adM ms ∧ H a = some o := fun a o e => by
      by_cases z : a ∈ adM ms
      · rw [ein a z] at e
        cases e
      · exact ⟨z, by rw [← eout a z]; exact e⟩
    have fin : ∀ {n1 : Nat} {B1 H1 : Hp} {b1 : List Addr} {ms1 : MS}, Step bxs n n1 B EH B1 H1 → (∀ b ∈ bxs, b ∈ b1) → MOk K EH b1 B1 H1 ms1 → AftM K bxs ms ms1 n n1 B H B1 H1 := fun {n1 B1 H1 b1 ms1} st su ok =>
      ⟨⟨st.b1, st.b2, fun a na ha => st.b3 a (by rw [eout a na]; exact ha), fun a o nb na e => st.h1 a o nb (by rw [eout a na]; exact e), st.bx, st.nn⟩, fun a ha => by
        obtain ⟨a1, a2, a3⟩ := ok.at_ a ha
        exact ⟨fun z => a1 (su a z), a2, a3⟩, ok.rl, ok.nd, fun a ha => by
        by_cases z : a ∈ adM ms
        · exact .inl z
        · refine .inr ?_
          rw [← eout a z]
          exact ok.en a ha⟩
    refine ⟨_, hbody cdv A outer s H ⟨B, EH, bxs, n⟩ ⟨hr, hg⟩, ?_⟩
    refine ⟨startD N rs, ms, n, B, B, bxs, _, ⟨⟨⟨Same.refl _, g.sub, fun _ _ => rfl, fun a o _ e => (esub a o e).2, fun b hb => (g.box b hb).2, Nat.le_refl _⟩, Same.refl _, g, fun b hb => .inl hb, fun b hb => hb, ⟨?_, ?_, ?_, ?_⟩, ?_⟩, ⟨mo.at_, ein, mo.rl, mo.nd⟩, ?_⟩, hd rs ms n Qd ai hc, ⟨?_, ?_, ?_, ?_⟩⟩
    · unfold startD L2.start
      rw [List.length_append, List.length_append, List.length_map, List.length_map, List.length_replicate, List.length_replicate, hl]
    · intro i r h
      obtain ⟨v, e1, e2⟩ := vals_get vr (startD_get h)
      refine ⟨v, ?_, e2⟩
      unfold L2.start
      have hi : i < vs.length := (List.getElem?_eq_some_iff.mp e1).1
      rw [List.getElem?_append_left (by simpa using hi), List.getElem?_map, e1]
      rfl
    · intro i j r r' p h1 h2 o1 o2 h3 h4
      have := argIn_get ai (startD_get h1)
      cases r <;> first | exact o1.elim | exact this.elim
    · intro i r h
      have := argIn_get ai (startD_get h)
      cases r <;> first | trivial | exact this.elim
    · intro i r p h1 o1 h2
      have := argIn_get ai (startD_get h1)
      cases r <;> first | exact o1.elim | exact this.elim
    · intro a ha i r h1 o1
      have := argIn_get ai (startD_get h1)
      cases r <;> first | exact o1.elim | exact this.elim
    · intro n1 B1 H1 b1 σ1 ρ1 ms1 h1 w1
      exact q _ _ _ _ _ _ w1 (fin h1.sv.st h1.sv.sup h1.ok) .non
    · intro n1 B1 H1 r v ms1 h1 ok w1
      have w1 : setM r fun r' => Qd r' ms1 n1 := w1
      obtain ⟨w1, no, so, ro⟩ := setM_ex w1
      exact q _ _ _ _ _ _ w1 (fin h1.1 (fun _ z => z) ok) h1.2.1
    · intro n1 B1 H1 b1 σ1 ρ1 ms1 h1 w1
      exact w1.elim
    · intro n1 B1 H1 b1 σ1 ρ1 ms1 h1 w1
      exact w1.elim
theorem defm_mk {x qual : Str} {st : Stmt} {f : Addr} {fd : FuncData} {N ps : List Str} {k : Nat} {c : DSpM} {wb : DSM} (F : Fun K x qual st f fd) (S : FnScope N ps (defScope st)) (hm : mg x = some (.ref f)) (hb : Binds K fd ps [])
    (hlen : ∀ rs ms n Q, c rs ms n Q → rs.length = ps.length)
    (hbody : ∀ (cdv : Value) (A : Around) (outer : List Env) (s : Shared) (H : Hp) (E : Ent), Here k (A.deeper (envOfC qual (defScope st) s.heap.objs.size f cdv)) → LSsM (cxOf CX0 P w K mg base N qual (defScope st) f cdv A outer s H E0).nox E (defBody st) wb)
    (hd : ∀ rs ms n Qd, argsIn rs → c rs ms n Qd → wb { nx := fun _ ms' n' => Qd (.d .none) ms' n', rt := fun r ms' n' => setM r fun r' => Qd r' ms' n' } (startD N rs) ms n) : DefM P w K mg base (k + 1) x ps c :=
  ⟨f, fd, fnm_mk F S hlen hbody hd, hm, F.kp, hb⟩
end
/-! ### calls -/
noncomputable def dCallM (c : DSpM) (wr : DAM) : DEM := fun ρ ms n Q => wr ρ ms n fun rs ms1 n1 => ∃ ma mb, ms1.Perm (ma ++ mb) ∧ argsIn rs ∧ c rs ma n1 fun r ma' n2 => Q r (ma' ++ mb) n2
section
variable {K : PySem.W.Frag} {E : Ent} {M EH : Hp} {n n1 : Nat} {B H B1 H1 : Hp} {bxs : List Addr} {σ : L2.St} {ρ : DEnv} {ma mb ma' : MS}
theorem MOk.left (h : MOk K EH bxs B H (ma ++ mb)) : MOk K (fun _ => none) bxs B H ma :=
  ⟨fun a ha => h.at_ a (by rw [adM_app]; exact List.mem_append_left _ ha), fun _ _ => rfl, fun m hm => h.rl m (List.mem_append_left _ hm), by
    have := h.nd
    rw [adM_app] at this
    exact (List.nodup_append.mp this).1⟩
theorem MX.after (h : MX K E M n B H bxs σ ρ (ma ++ mb)) (a : AftM K bxs ma ma' n n1 B H B1 H1) : MX K E M n1 B1 H1 bxs σ ρ (ma' ++ mb) := h.call a.st a.at_ a.rl a.nd a.fr
end
section
variable {X : Cx} {E : Ent} {k : Nat} {ps : List Str} {c : DSpM} {x : Str} {p pos : Pos} {e : Expr} {es : List Expr} {wr : DAM}
theorem call_inv {K : PySem.W.Frag} {E : Ent} {M : Hp} {n : Nat} {B H B0 : Hp} {bxs : List Addr} {σ : L2.St} {ρ : DEnv} {ms : MS} {rs : List RV} {vs : List V} {Qd : RV → MS → Nat → Prop} {Q : VK} (h : MX K E M n B H bxs σ ρ ms) (sb : Same B0 B) (vr : ValsR K bxs n B H rs vs)
    (hq : ∃ ma mb, ms.Perm (ma ++ mb) ∧ argsIn rs ∧ c rs ma n fun r ma' n2 => Qd r (ma' ++ mb) n2)
    (q : ∀ r ms1 n1 v B1 H1, Qd r ms1 n1 → MX K E M n1 B1 H1 bxs σ ρ ms1 → Same B0 B1 → ValR K bxs n1 B1 H1 r v → Q v H1) : liftM K c vs H Q E0 := by
  obtain ⟨ma, mb, pm, ai, hc⟩ := hq
  have h2 := h.perm pm
  exact ⟨rs, ma, n, B, bxs, _, h2.sv.g, vr, ai, h2.ok.left, hc, fun r ma' n2 v B2 H2 hq2 af vr2 => q _ _ _ _ _ _ hq2 (h2.after af) (sb.trans af.st.b1) vr2⟩
theorem lem_call (D : DefM X.prog X.w X.K X.mg X.base k x ps c) (hr : Here k X.A) (hg : Gl X x) (ha : LAM X E (e :: es) wr)
    (hdb : (x == ("__debug__" : Str)) = false := by decide) (he : starEach (e :: es) X.env = (false, eval e X.env) :: starEach es X.env := by rfl) (hpl : (backTo pos (starEach es X.env)).any (·.1) = false := by rfl) :
    LEM X E (.Call (.Name x p) (e :: es) [] pos) (dCallM c wr) := by
  obtain ⟨f, fd, F, hm, hk, hb⟩ := D.ex
  refine pe_imp (pe_g F hr.room hr.gd hg hm hk hb ha hdb he hpl) fun σ H Q hu => ?_
  obtain ⟨ρ, ms, n, B, M, bxs, Qd, h, w1, q⟩ := hu
  exact ⟨ρ, ms, n, B, M, bxs, _, h, w1, fun rs ms1 n1 vs B1 H1 hq h1 sb vr => call_inv h1 sb vr hq q⟩
end
end Dl

namespace Dl
open PySem PySem.Spec PyProof.Rows L2
/-! ### objects at one address: instances, lists, dicts; fields -/
noncomputable def ownM (a : Addr) (T : OwnT) : OwnM := ⟨[a], fun K B H => ∃ o, H a = some o ∧ T.rel K B a o, fun s h ⟨o, e, r⟩ => ⟨o, h _ (List.mem_singleton.mpr rfl) o e, T.mono s r⟩⟩
noncomputable def FlR (K : PySem.W.Frag) (B : Hp) : RV → V → Prop
  | .d x, v => Dp K B v x
  | .obj a, v => v = .ref a
  | _, _ => False
noncomputable def FlsR (K : PySem.W.Frag) (B : Hp) : List (Str × RV) → List (Str × V) → Prop
  | [], [] => True
  | (f, r) :: t, (g, v) :: u => f = g ∧ FlR K B r v ∧ FlsR K B t u
  | _, _ => False
noncomputable def putR (f : Str) (r : RV) : List (Str × RV) → List (Str × RV)
  | [] => [(f, r)]
  | (g, x) :: t => if g = f then (g, r) :: t else (g, x) :: putR f r t
theorem FlR.mono {K : PySem.W.Frag} {B B' : Hp} (s : Same B B') {r : RV} {v : V} (h : FlR K B r v) : FlR K B' r v := by
  cases r with
  | d x => exact dpSame s _ _ h
  | obj a => exact h
  | new x => exact h.elim
  | bor x => exact h.elim
  | box => exact h.elim
  | nbox => exact h.elim
  | own T => exact h.elim
theorem FlsR.mono {K : PySem.W.Frag} {B B' : Hp} (s : Same B B') : ∀ {fs : List (Str × RV)} {vs : List (Str × V)}, FlsR K B fs vs → FlsR K B' fs vs
  | [], [], _ => trivial
  | (_, _) :: _, (_, _) :: _, h => ⟨h.1, h.2.1.mono s, FlsR.mono s h.2.2⟩
  | [], _ :: _, h => h.elim
  | _ :: _, [], h => h.elim
theorem FlsR.look {K : PySem.W.Frag} {B : Hp} (f : Str) : ∀ {fs : List (Str × RV)} {vs : List (Str × V)}, FlsR K B fs vs → match fs.lookup f with | some r => ∃ v, vs.lookup f = some v ∧ FlR K B r v | none => vs.lookup f = none
  | [], [], _ => rfl
  | (g, r) :: t, (g', v) :: u, h => by
    obtain ⟨e, h1, h2⟩ := h
    subst e
    have ih := FlsR.look f h2
    rw [List.lookup_cons, List.lookup_cons]
    by_cases c : (f == g) = true
    · rw [c]
      exact ⟨v, rfl, h1⟩
    · rw [Bool.not_eq_true] at c
      rw [c]
      exact ih
  | [], _ :: _, h => h.elim
  | _ :: _, [], h => h.elim
theorem FlsR.put {K : PySem.W.Frag} {B : Hp} (f : Str) {r : RV} {v : V} (hr : FlR K B r v) : ∀ {fs : List (Str × RV)} {vs : List (Str × V)}, FlsR K B fs vs → FlsR K B (putR f r fs) (putF f v vs)
  | [], [], _ => ⟨rfl, hr, trivial⟩
  | (g, x) :: t, (g', y) :: u, h => by
    obtain ⟨e, h1, h2⟩ := h
    subst e
    unfold putR putF
    by_cases c : g = f
    · rw [if_pos c, if_pos c]
      exact ⟨rfl, hr, h2⟩
    · rw [if_neg c, if_neg c]
      exact ⟨rfl, h1, FlsR.put f hr h2⟩
  | [], _ :: _, h => h.elim
  | _ :: _, [], h => h.elim
theorem FlsR.length {K : PySem.W.Frag} {B : Hp} : ∀ {fs : List (Str × RV)} {vs : List (Str × V)}, FlsR K B fs vs → vs.length = fs.length
  | [], [], _ => rfl
  | (_, _) :: _, (_, _) :: _, h => by rw [List.length_cons, List.length_cons, FlsR.length h.2.2]
  | [], _ :: _, h => h.elim
  | _ :: _, [], h => h.elim
/-- an instance -/
noncomputable def insO (C dx : Addr) (fs : List (Str × RV)) : OwnT where
  rel := fun K B _ o => ∃ vs, o = .ins C dx vs ∧ FlsR K B fs vs
  mono := fun s ⟨vs, e, h⟩ => ⟨vs, e, h.mono s⟩
/-- a list -/
noncomputable def listO (xs : List PyData) : OwnT where
  rel := fun K B _ o => ∃ vs, o = .lst vs ∧ DpAll K B vs xs
  mono := fun s ⟨vs, e, h⟩ => ⟨vs, e, dpSameAll s _ _ h⟩
section
variable {K : PySem.W.Frag} {E : Ent} {M : Hp} {n : Nat} {B H : Hp} {bxs : List Addr} {σ : L2.St} {ρ : DEnv} {ms mr : MS} {a : Addr} {T T' : OwnT} {o : HO}
theorem adM_own : adM [ownM a T] = [a] := rfl
theorem adM_cons {m : OwnM} : adM (m :: ms) = m.as ++ adM ms := List.flatMap_cons
theorem MX.get (h : MX K E M n B H bxs σ ρ ms) (hm : ownM a T ∈ ms) : ∃ o, H a = some o ∧ T.rel K B a o ∧ a ∉ bxs ∧ B a = none := by
  obtain ⟨o, e, r⟩ := h.ok.rl _ hm
  obtain ⟨a1, a2, _⟩ := h.ok.at_ a (in_adM hm (List.mem_singleton.mpr rfl))
  exact ⟨o, e, r, a1, a2⟩
/-- the thing at a is written -/
theorem mx_put (h : MX K E M n B H bxs σ ρ (ownM a T :: mr)) (r : T'.rel K B a o) : MX K E M n B (upd H a o) bxs σ ρ (ownM a T' :: mr) := by
  obtain ⟨o0, e, _, a1, a2⟩ := h.get (List.mem_cons_self)
  have h2 : MX K E M n B H bxs σ ρ ([ownM a T] ++ mr) := h
  refine h2.call (ma' := [ownM a T']) ⟨Same.refl _, fun b u q => ?_, fun b _ _ => rfl, fun b u _ nb q => ?_, fun b hb => ?_, Nat.le_refl _⟩ (fun b hb => ?_) (fun m hm => ?_) (by rw [adM_own]; exact List.nodup_cons.mpr ⟨List.not_mem_nil, List.nodup_nil⟩) (fun b hb => .inl hb)
  · rw [upd_ne (ne_of_none q a2)]
    exact h.sv.g.sub b u q
  · rw [adM_own] at nb
    rw [upd_ne fun z => nb (List.mem_singleton.mpr z)]
    exact q
  · exact ((h.sv.g.box b hb).2).keep fun o e => by
      rw [upd_ne (show b ≠ a from fun z => a1 (by rw [← z]; exact hb))]
      exact e
  · rw [adM_own] at hb
    cases List.mem_singleton.mp hb
    exact ⟨a1, a2, by rw [upd_same]; exact fun z => nomatch z⟩
  · cases List.mem_singleton.mp hm
    exact ⟨o, upd_same, r⟩
/-- a new thing is laid -/
theorem mx_lay (h : MX K E M n B H bxs σ ρ mr) (ha : H a = none) (r : T.rel K B a o) : MX K E M n B (upd H a o) bxs σ ρ (ownM a T :: mr) := by
  have fb := freshB h.sv.g ha
  have h2 : MX K E M n B H bxs σ ρ ([] ++ mr) := h
  refine h2.call (ma' := [ownM a T]) ⟨Same.refl _, fun b u q => ?_, fun b _ _ => rfl, fun b u _ nb q => ?_, fun b hb => ?_, Nat.le_refl _⟩ (fun b hb => ?_) (fun m hm => ?_) (by rw [adM_own]; exact List.nodup_cons.mpr ⟨List.not_mem_nil, List.nodup_nil⟩) (fun b hb => ?_)
  · rw [upd_ne (ne_of_none q fb.2)]
    exact h.sv.g.sub b u q
  · rw [upd_ne (ne_of_none q ha)]
    exact q
  · exact ((h.sv.g.box b hb).2).keep fun o e => by
      rw [upd_ne (show b ≠ a from fun z => fb.1 (by rw [← z]; exact hb))]
      exact e
  · rw [adM_own] at hb
    cases List.mem_singleton.mp hb
    exact ⟨fb.1, fb.2, by rw [upd_same]; exact fun z => nomatch z⟩
  · cases List.mem_singleton.mp hm
    exact ⟨o, upd_same, r⟩
  · rw [adM_own] at hb
    cases List.mem_singleton.mp hb
    exact .inr ha
end
end Dl

namespace Dl
open PySem PySem.Spec PyProof.Rows L2
/-! ### specials of a class, with guards -/
structure SpcO (K : PySem.W.Frag) (C : Addr) (m : Str) (g : Addr) : Prop where
  at_ : PySem.W.findIn K (.ref C) m = some (some (.ref g))
  fn : PySem.W.isFn K (.ref g) = true
  fi : PySem.W.fnIn K g = true
section
variable {X : Cx} {k : Nat} {C f g : Addr} {fd : FuncData} {ps : List Str} {sp : Sp} {x m : Str} {p pos apos : Pos} {e o a b : Expr} {es : List Expr} {ta tb : TE} {t : TA}
end
/-! ### a dict's len and in -/
section
variable {X : Cx} {pins : List (Addr × Obj)} {σ : L2.St} {H : Hp} {s : Shared} {a : Addr} {fl : Bool} {l : List (CK × V × V)} {A : Around} {E : Value → Shared → Prop} {k : CK} {y z : V} {u r : Value}
end
end Dl

namespace Dl
open PySem PySem.Spec PyProof.Rows L2
/-! ### fields, methods, specials: read over objects -/
noncomputable def InsAt (C : Addr) (a : Addr) (ms : MS) (F : List (Str × RV) → Prop) : Prop := ∃ dx fs, ownM a (insO C dx fs) ∈ ms ∧ F fs
noncomputable def dFldM (C : Addr) (f : Str) (wo : DEM) : DEM := fun ρ ms n Q => wo ρ ms n fun r ms1 n1 => ∃ a, r = .obj a ∧ InsAt C a ms1 fun fs => ∃ r', fs.lookup f = some r' ∧ Q r' ms1 n1
noncomputable def splitM (ms : MS) (F : MS → MS → Prop) : Prop := ∃ ma mb, ms.Perm (ma ++ mb) ∧ F ma mb
noncomputable def dMethM (C : Addr) (m : Str) (c : DSpM) (wo : DEM) (wr : DAM) : DEM := fun ρ ms n Q => wo ρ ms n fun r ms1 n1 => ∃ a, r = .obj a ∧ InsAt C a ms1 fun fs => fs.lookup m = none ∧ wr ρ ms1 n1 fun rs ms2 n2 => argsIn rs ∧ splitM ms2 fun ma mb => c (.obj a :: rs) ma n2 fun r2 ma' n3 => Q r2 (ma' ++ mb) n3
noncomputable def dMeth0M (C : Addr) (m : Str) (c : DSpM) (wo : DEM) : DEM := fun ρ ms n Q => wo ρ ms n fun r ms1 n1 => ∃ a, r = .obj a ∧ InsAt C a ms1 fun fs => fs.lookup m = none ∧ splitM ms1 fun ma mb => c [.obj a] ma n1 fun r2 ma' n3 => Q r2 (ma' ++ mb) n3
noncomputable def dPropM (C : Addr) (c : DSpM) (wo : DEM) : DEM := fun ρ ms n Q => wo ρ ms n fun r ms1 n1 => ∃ a, r = .obj a ∧ InsAt C a ms1 fun _ => splitM ms1 fun ma mb => c [.obj a] ma n1 fun r2 ma' n3 => Q r2 (ma' ++ mb) n3
noncomputable def dMakeM (C : Addr) (c : DSpM) (wr : DAM) : DEM := fun ρ ms n Q => wr ρ ms n fun rs ms1 n1 => argsIn rs ∧ ∀ a dx, splitM ms1 fun ma mb => c (.obj a :: rs) (ownM a (insO C dx []) :: ma) n1 fun r ma' n2 => r = .d .none ∧ Q (.obj a) (ma' ++ mb) n2
noncomputable def dCallOM (C : Addr) (c : DSpM) (wo : DEM) (wr : DAM) : DEM := fun ρ ms n Q => wo ρ ms n fun r ms1 n1 => ∃ a, r = .obj a ∧ wr ρ ms1 n1 fun rs ms2 n2 => InsAt C a ms2 fun _ => argsIn rs ∧ splitM ms2 fun ma mb => c (.obj a :: rs) ma n2 fun r2 ma' n3 => Q r2 (ma' ++ mb) n3
/-- two things, the first stays as it is -/
noncomputable abbrev DBM := RV → RV → MS → Nat → (RV → MS → Nat → Prop) → Prop
noncomputable def dBinM (w : DBM) (wa wb : DEM) : DEM := fun ρ ms n Q => wa ρ ms n fun r1 ms1 n1 => stM r1 fun x => wb ρ ms1 n1 fun y ms2 n2 => w x y ms2 n2 Q
noncomputable def wInO (C : Addr) (c : DSpM) : DBM := fun x y ms n Q => argIn x ∧ ∃ a, y = .obj a ∧ InsAt C a ms fun _ => splitM ms fun ma mb => c [.obj a, x] ma n fun r ma' n1 => onB r fun b => Q (.d (.bool b)) (ma' ++ mb) n1
noncomputable def wNotInO (C : Addr) (c : DSpM) : DBM := fun x y ms n Q => wInO C c x y ms n fun r ms1 n1 => onB r fun b => Q (.d (.bool (!b))) ms1 n1
noncomputable def wIxO (C : Addr) (c : DSpM) : DBM := fun x y ms n Q => argIn y ∧ ∃ a, x = .obj a ∧ InsAt C a ms fun _ => splitM ms fun ma mb => c [.obj a, y] ma n fun r ma' n1 => Q r (ma' ++ mb) n1
noncomputable def DicAt (P : Program) (w : World) (a : Addr) (ms : MS) (F : Bool → AL → Prop) : Prop := ∃ fl al, ownM a (dictL P w fl al) ∈ ms ∧ F fl al
noncomputable def wInD (P : Program) (w : World) : DBM := fun x y ms n Q => ∃ a, y = .obj a ∧ DicAt P w a ms fun fl al => ∃ k, x = .d (ckD k) ∧ ckOk fl k ∧ Q (.d (.bool (lookA al k).isSome)) ms n
noncomputable def wIxD (P : Program) (w : World) : DBM := fun x y ms n Q => ∃ a, x = .obj a ∧ DicAt P w a ms fun fl al => ∃ k z, y = .d (ckD k) ∧ ckOk fl k ∧ lookA al k = some z ∧ Q (.d z) ms n
noncomputable def dLenOM (C : Addr) (c : DSpM) (wo : DEM) : DEM := fun ρ ms n Q => wo ρ ms n fun r ms1 n1 => ∃ a, r = .obj a ∧ InsAt C a ms1 fun _ => splitM ms1 fun ma mb => c [.obj a] ma n1 fun r2 ma' n3 => onI r2 fun i => 0 ≤ i ∧ i < 2 ^ 63 ∧ Q (.d (.int i)) (ma' ++ mb) n3
noncomputable def dLenDM (P : Program) (w : World) (wo : DEM) : DEM := fun ρ ms n Q => wo ρ ms n fun r ms1 n1 => ∃ a, r = .obj a ∧ DicAt P w a ms1 fun _ al => Q (.d (.int (al.length : Int))) ms1 n1
noncomputable def dGetDM (P : Program) (w : World) (wo wk wx : DEM) : DEM := fun ρ ms n Q => wo ρ ms n fun r ms1 n1 => ∃ a, r = .obj a ∧ DicAt P w a ms1 fun fl al => wk ρ ms1 n1 fun rk ms2 n2 => ∃ k, rk = .d (ckD k) ∧ ckOk fl k ∧ wx ρ ms2 n2 fun rx ms3 n3 => onD rx fun y => ownM a (dictL P w fl al) ∈ ms3 ∧ Q (.d ((lookA al k).getD y)) ms3 n3
noncomputable def dAppM (wo we : DEM) : DEM := fun ρ ms n Q => wo ρ ms n fun r ms1 n1 => ∃ a xs, r = .obj a ∧ ownM a (listO xs) ∈ ms1 ∧ we ρ ms1 n1 fun re ms2 n2 => onD re fun y => ∃ mr, ms2.Perm (ownM a (listO xs) :: mr) ∧ xs.length < sizeLine ∧ Q (.d .none) (ownM a (listO (xs ++ [y])) :: mr) n2
/-- a def of plain things, called with what was read over objects -/
noncomputable def dPlainM (c : DSp) (wr : DAM) : DEM := fun ρ ms n Q => wr ρ ms n fun rs ms1 n1 => argsIn rs ∧ c rs n1 fun r n2 => okM r fun r' => Q r' ms1 n2
/-- a method, as its callers see it -/
structure MethM (P : Program) (w : World) (K : PySem.W.Frag) (mg : Str → Option Value) (base : Heap) (k : Nat) (C : Addr) (m : Str) (ps : List Str) (c : DSpM) : Prop where
  ex : ∃ (f : Addr) (fd : FuncData), FnG P w K mg base k f fd ps (liftM K c) ∧ Meth K C m f ∧ Binds K fd ps []
structure SpecM (P : Program) (w : World) (K : PySem.W.Frag) (mg : Str → Option Value) (base : Heap) (k : Nat) (C : Addr) (m : Str) (ps : List Str) (c : DSpM) : Prop where
  ex : ∃ (f : Addr) (fd : FuncData), FnG P w K mg base k f fd ps (liftM K c) ∧ SpcO K C m f ∧ Binds K fd ps []
structure PropM (P : Program) (w : World) (K : PySem.W.Frag) (mg : Str → Option Value) (base : Heap) (k : Nat) (C : Addr) (m : Str) (ps : List Str) (c : DSpM) : Prop where
  ex : ∃ (p f : Addr) (fd : FuncData), FnG P w K mg base k f fd ps (liftM K c) ∧ PropOf K C m p f ∧ Binds K fd ps []
structure MakeM (P : Program) (w : World) (K : PySem.W.Frag) (mg : Str → Option Value) (base : Heap) (k : Nat) (C : Addr) (x : Str) (ps : List Str) (c : DSpM) : Prop where
  ex : ∃ (f : Addr) (fd : FuncData), FnG P w K mg base k f fd ps (liftM K c) ∧ Mk K C f ∧ Binds K fd ps []
  mg : mg x = some (.ref C)
section
variable {K : PySem.W.Frag} {E : Ent} {M EH : Hp} {n n1 : Nat} {B H B1 H1 : Hp} {bxs : List Addr} {σ : L2.St} {ρ : DEnv} {ms ma mb ma' : MS} {a C : Addr}
theorem MX.ins {F : List (Str × RV) → Prop} (h : MX K E M n B H bxs σ ρ ms) (hi : InsAt C a ms F) : ∃ dx fs vs, F fs ∧ H a = some (.ins C dx vs) ∧ FlsR K B fs vs := by
  obtain ⟨dx, fs, hm, hf⟩ := hi
  obtain ⟨o, e, ⟨vs, rfl, fl⟩, _⟩ := h.get hm
  exact ⟨dx, fs, vs, hf, e, fl⟩
theorem MX.dic {P : Program} {w : World} {fl : Bool} {al : AL} (h : MX K E M n B H bxs σ ρ ms) (hi : ownM a (dictL P w fl al) ∈ ms) : ∃ l, H a = some (dO P w fl a l) ∧ RelA K B l al ∧ KeysIn K H l := by
  obtain ⟨o, e, ⟨l, rfl, rl⟩, _⟩ := h.get hi
  exact ⟨l, e, rl, rl.keysIn h.sv.g.sub⟩
theorem FlR.val {r : RV} {v : V} (h : FlR K B r v) : ValR K bxs n B H r v := by
  cases r with
  | d x => exact h
  | obj a => exact h
  | new x => exact h.elim
  | bor x => exact h.elim
  | box => exact h.elim
  | nbox => exact h.elim
  | own T => exact h.elim
end
section
variable {X : Cx} {E : Ent} {a b e o : Expr} {es : List Expr} {wa wb wo we wk wx : DEM} {wr : DAM} {C : Addr} {f m x : Str} {k : Nat} {ps : List Str} {c : DSpM} {p pos apos cpos : Pos}
/-! ### dicts and lists as objects -/
theorem lem_getD (P : Program) (w : World) (hu : X.A.units + 9 < cLine) (ho : LEM X E o wo) (hk : LEM X E a wk) (hx : LEM X E b wx) (m : M2 X o "get" apos a b cpos := by exact ⟨rfl, rfl, rfl, rfl⟩) (hP : X.prog = P := by rfl) (hw : X.w = w := by rfl) :
    LEM X E (.Call (.Attribute o "get" apos) [a, b] [] cpos) (dGetDM P w wo wk wx) := by
  subst hP hw
  refine pe_imp (pe_oget2 hu ho hk hx m) fun σ H Q hu => ?_
  obtain ⟨ρ, ms, n, B, M, bxs, Qd, h, w1, q⟩ := hu
  refine ⟨ρ, ms, n, B, M, bxs, _, h, w1, fun r ms1 n1 v B1 H1 hq h1 sb1 vr => ?_⟩
  obtain ⟨a, rfl, fl, al, hm, hq⟩ := hq
  obtain ⟨l, ea, rl, ks⟩ := h1.dic hm
  cases vr
  refine ⟨a, fl, rfl, ⟨l, ea⟩, ρ, ms1, n1, B1, M, bxs, _, h1, hq, fun rk ms2 n2 vk B2 H2 hq2 h2 sb2 vrk => ?_⟩
  obtain ⟨k, rfl, ok, hq2⟩ := hq2
  refine ⟨ρ, ms2, n2, B2, M, bxs, _, h2, hq2, fun rx ms3 n3 vx B3 H3 hq3 h3 sb3 vrx => ?_⟩
  obtain ⟨y, rfl, hm3, hq3⟩ := onD_ex hq3
  obtain ⟨l3, ea3, rl3, ks3⟩ := h3.dic hm3
  refine ⟨l3, k, ea3, ks3, ok, dpSame (sb3.trans h3.sv.g.sub) _ _ vrk, ?_⟩
  exact q _ _ _ _ _ _ hq3 h3 ((sb1.trans sb2).trans sb3) ((rl3.look k).getD vrx)
/-! ### a plain def -/
end
end Dl

namespace Dl
open PySem PySem.Spec PyProof.Rows L2
/-! ### statements that write fields; a list in a field, read as data for a while -/
mutual
noncomputable def noLst : PyData → Prop
  | .list _ => False
  | .dict _ => False
  | .tuple ds => noLsts ds
  | _ => True
noncomputable def noLsts : List PyData → Prop
  | [] => True
  | d :: ds => noLst d ∧ noLsts ds
end
noncomputable def delB (B : Hp) (a : Addr) : Hp := fun b => if b = a then none else B b
theorem seqT_less {K : PySem.W.Frag} {B : Hp} {st a : Addr} {vs xs : List V} (e : B st = some (.lst vs)) (h : SqT K B a xs) : SqT K (delB B st) a xs := by
  have ne : ∀ {u : HO}, B a = some u → (∀ ys, u ≠ .lst ys) → delB B st a = some u := fun {u} q n => by
    unfold delB
    rw [if_neg]
    · exact q
    · intro z
      subst z
      rw [e] at q
      cases q
      exact n _ rfl
  rcases h with (h | ⟨o, h⟩) | h
  · exact .inl (.inl (ne h fun _ z => nomatch z))
  · exact .inl (.inr ⟨o, ne h fun _ z => nomatch z⟩)
  · exact .inr h
mutual
theorem Dp.less {K : PySem.W.Frag} {B : Hp} {st : Addr} {vs : List V} (e : B st = some (.lst vs)) : ∀ {v : V} {x : PyData}, Dp K B v x → noLst x → Dp K (delB B st) v x
  | _, _, .non, _ => .non
  | _, _, .bl b, _ => .bl b
  | _, _, .int i, _ => .int i
  | _, _, .str s, _ => .str s
  | _, _, .lst h1 h2, n => by unfold noLst at n; exact n.elim
  | _, _, .tup h1 h2, n => .tup (seqT_less e h1) (DpAll.less e h2 (by unfold noLst at n; exact n))
  | _, _, .dic h1 h2 h3, n => by unfold noLst at n; exact n.elim
theorem DpAll.less {K : PySem.W.Frag} {B : Hp} {st : Addr} {vs : List V} (e : B st = some (.lst vs)) : ∀ {us : List V} {xs : List PyData}, DpAll K B us xs → noLsts xs → DpAll K (delB B st) us xs
  | _, _, .nil, _ => .nil
  | _, _, .cons h1 h2, n => by unfold noLsts at n; exact .cons (Dp.less e h1 n.1) (DpAll.less e h2 n.2)
end
noncomputable def lendT (C : Addr) (f : Str) (xs : List PyData) : OwnT where
  rel := fun K B a o => ∃ dx fs v, o = .ins C dx fs ∧ fs.lookup f = some v ∧ Dp K B v (.list xs)
  mono := fun s ⟨dx, fs, v, e, l, h⟩ => ⟨dx, fs, v, e, l, dpSame s _ _ h⟩
noncomputable def dLendM (C : Addr) (i : Nat) (f : Str) (w : DE) : DEM := fun ρ ms n Q => ∃ p st xs, ρ[i]? = some (some (.obj p)) ∧ InsAt C p ms (fun fs => fs.lookup f = some (.obj st)) ∧ ownM st (listO xs) ∈ ms ∧
  w (ρ.set i (some (.own (lendT C f xs)))) n fun r n1 => onD r fun x => noLst x ∧ Q (.d x) ms n1
noncomputable def dSetFldM (C : Addr) (f : Str) (wo we : DEM) : DSM := fun D ρ ms n => we ρ ms n fun r ms1 n1 => setM r fun r' => wo ρ ms1 n1 fun ro ms2 n2 => ∃ a dx fs mr, ro = .obj a ∧ ms2.Perm (ownM a (insO C dx fs) :: mr) ∧ fs.length < 1000 ∧ D.nx ρ (ownM a (insO C dx (putR f r' fs)) :: mr) n2
noncomputable def dSetFld2M (C1 C2 : Addr) (f1 f2 : Str) (wo1 wo2 wa wb : DEM) : DSM := fun D ρ ms n => wa ρ ms n fun r1 ms1 n1 => stM r1 fun s1 => wb ρ ms1 n1 fun r2 ms2 n2 => setM s1 fun s1' => setM r2 fun s2' =>
  wo1 ρ ms2 n2 fun ro ms3 n3 => ∃ a dx fs mr, ro = .obj a ∧ ms3.Perm (ownM a (insO C1 dx fs) :: mr) ∧ fs.length < 1000 ∧
    wo2 ρ (ownM a (insO C1 dx (putR f1 s1' fs)) :: mr) n3 fun ro2 ms4 n4 => ∃ a2 dx2 fs2 mr2, ro2 = .obj a2 ∧ ms4.Perm (ownM a2 (insO C2 dx2 fs2) :: mr2) ∧ fs2.length < 1000 ∧ D.nx ρ (ownM a2 (insO C2 dx2 (putR f2 s2' fs2)) :: mr2) n4
noncomputable def dNewLM : DEM := fun _ ms n Q => ∀ a, Q (.obj a) (ownM a (listO []) :: ms) n
noncomputable def dPar2M (i j : Nat) (wa wb : DEM) : DSM := fun D ρ ms n => wa ρ ms n fun r1 ms1 n1 => stM r1 fun s1 => wb ρ ms1 n1 fun r2 ms2 n2 => setM s1 fun s1' => setM r2 fun s2' => D.nx ((ρ.set i (some s1')).set j (some s2')) ms2 n2
section
variable {X : Cx} {E : Ent} {o o2 e ea eb : Expr} {wo wo2 we wa wb : DEM} {w : DE} {C C1 C2 : Addr} {f f1 f2 x y : Str} {pos pos' p1 p2 pt px py : Pos} {kt k2 : Nat} {pt2 : Pos}
theorem lsm_par2 (i j' : Nat) (hN : X.N.Nodup) (ha : LEM X E ea wa) (hb : LEM X E eb wb) (hw : swappedStores [.Tuple [.Name x px, .Name y py] kt pt] (.Tuple [ea, eb] k2 pt2) X.env = pure (some [x, y])) (hc : X.calm = true := by rfl) (hi : X.N[i]? = some x := by rfl) (hj : X.N[j']? = some y := by rfl) (hij : i ≠ j' := by decide)
    (hx : X.env.scope.names.lookup x = some .local := by rfl) (hy : X.env.scope.names.lookup y = some .local := by rfl)
    (hs : swapsWithSole [.Tuple [.Name x px, .Name y py] kt pt] (.Tuple [ea, eb] k2 pt2) pos.line X.env = pure false := by rfl)
    (s1 : starEach [ea, eb] X.env = (false, eval ea X.env) :: starEach [eb] X.env := by rfl) (s2 : starEach [eb] X.env = (false, eval eb X.env) :: starEach [] X.env := by rfl) :
    LSM X E (.Assign [.Tuple [.Name x px, .Name y py] kt pt] (.Tuple [ea, eb] k2 pt2) pos) (dPar2M i j' wa wb) := ps_imp (ps_par hc hN hi hj hij hx hy (pa_cons ha (pa_cons hb pa_nil s2) s1) hw hs) fun D σ H hu => by
  obtain ⟨ρ, ms, n, B, M, bxs, Dd, h, w1, q⟩ := hu
  refine ⟨ρ, ms, n, B, M, bxs, _, h, w1, fun r1 ms1 n1 v1 B1 H1 hq h1 sb1 vr1 => ?_⟩
  obtain ⟨hq, st1⟩ := stM_ex hq
  refine ⟨ρ, ms1, n1, B1, M, bxs, _, h1, hq, fun r2 ms2 n2 v2 B2 H2 hq2 h2 sb2 vr2 => ?_⟩
  obtain ⟨hq2, no1, so1, _⟩ := setM_ex hq2
  obtain ⟨hq2, no2, so2, _⟩ := setM_ex hq2
  have e1 := h2.upd (h2.sv.env.setV i no1 so1 (st1 sb2 vr1)) (UpdR.setV σ ρ i v1 no1)
  exact ⟨v1, v2, rfl, q.nx _ _ _ _ _ _ _ (e1.upd (e1.sv.env.setV j' no2 so2 vr2) (UpdR.setV _ _ j' v2 no2)) hq2⟩
end
end Dl

namespace Dl
open PySem PySem.Spec PyProof.Rows L2
/-! ### some objects set aside; comprehensions over objects; match; more expressions -/
section
variable {K : PySem.W.Frag} {E : Ent} {M : Hp} {n n1 : Nat} {B H B1 H1 : Hp} {bxs : List Addr} {σ σ2 : L2.St} {ρ ρ2 : DEnv} {ms ma mb : MS} {a : Addr}
theorem MX.left (h : MX K E M n B H bxs σ ρ (ma ++ mb)) : MX K E M n B H bxs σ ρ ma := by
  have sub : ∀ x ∈ adM ma, x ∈ adM (ma ++ mb) := fun x hx => by rw [adM_app]; exact List.mem_append_left _ hx
  refine ⟨h.sv, ⟨fun x hx => h.ok.at_ x (sub x hx), fun x hx => h.ok.en x (sub x hx), fun m hm => h.ok.rl m (List.mem_append_left _ hm), ?_⟩, fun x hx => h.ow x (sub x hx)⟩
  have := h.ok.nd
  rw [adM_app] at this
  exact (List.nodup_append.mp this).1
theorem MX.drop1 (h : MX K E M n B H bxs σ ρ (ma ++ mb)) : MX K E M n B H bxs σ ρ mb := (h.perm List.perm_append_comm).left
theorem MX.innerP (h : MX K E M n B H bxs σ ρ (ma ++ mb)) : MX K (entM E ma B H) B n B H bxs σ ρ mb := by
  have dis : ∀ x ∈ adM mb, x ∉ adM ma := fun x hb hx => by
    have := h.ok.nd
    rw [adM_app] at this
    exact (List.nodup_append.mp this).2.2 x hx x hb rfl
  have h2 := h.drop1
  exact ⟨h.left.inner, ⟨h2.ok.at_, fun x hx => by rw [entM_out (dis x hx)]; exact h2.ok.en x hx, h2.ok.rl, h2.ok.nd⟩, h2.ow⟩
theorem MX.outerP {n' : Nat} {B' H' : Hp} {bxs' : List Addr} {σ' : L2.St} {ρ' : DEnv} {mb' : MS} (h : MX K E M n B H bxs σ ρ (ma ++ mb)) (g : MX K (entM E ma B H) B n' B' H' bxs' σ' ρ' mb') : MX K E M n' B' H' bxs' σ' ρ' (ma ++ mb') := by
  have g1 := h.left.outer g.sv
  have dis : ∀ x ∈ adM mb', x ∉ adM ma := fun x hx z => by
    have := g.ok.en x hx
    rw [entM_in z] at this
    exact (h.left.ok.at_ x z).2.2 this
  refine ⟨g1.sv, ⟨fun x hx => ?_, fun x hx => ?_, fun m hm => ?_, ?_⟩, fun x hx => ?_⟩
  · rw [adM_app] at hx
    rcases List.mem_append.mp hx with z | z
    · exact g1.ok.at_ x z
    · exact g.ok.at_ x z
  · rw [adM_app] at hx
    rcases List.mem_append.mp hx with z | z
    · exact g1.ok.en x z
    · have := g.ok.en x z
      rw [entM_out (dis x z)] at this
      exact this
  · rcases List.mem_append.mp hm with z | z
    · exact g1.ok.rl m z
    · exact g.ok.rl m z
  · rw [adM_app]
    exact List.nodup_append.mpr ⟨g1.ok.nd, g.ok.nd, fun x hx y hy e => dis y hy (e ▸ hx)⟩
  · rw [adM_app] at hx
    rcases List.mem_append.mp hx with z | z
    · exact g1.ow x z
    · exact g.ow x z
/-- a list that was an object becomes data -/
theorem mx_frz {xs : List PyData} (h : MX K E M n B H bxs σ ρ (ownM a (listO xs) :: ms)) : ∃ B', MX K E M n B' H bxs σ ρ ms ∧ Same B B' ∧ ValR K bxs n B' H (.d (.list xs)) (.ref a) := by
  obtain ⟨_, ea, ⟨vs, rfl, dv⟩, ab, ba⟩ := h.get (List.mem_cons_self)
  have ain : a ∈ adM (ownM a (listO xs) :: ms) := in_adM List.mem_cons_self (List.mem_singleton.mpr rfl)
  have hE : E.H a = none := h.ok.en a ain
  have sB : Same B (upd B a (.lst vs)) := sub_add ba
  have h2 : MX K E M n B H bxs σ ρ ([ownM a (listO xs)] ++ ms) := h
  have h3 := h2.drop1
  have nin : a ∉ adM ms := fun z => by
    have := h.ok.nd
    rw [adM_cons] at this
    exact (List.nodup_append.mp this).2.2 a (List.mem_singleton.mpr rfl) a z rfl
  refine ⟨upd B a (.lst vs), ⟨⟨⟨h.sv.st.b1.trans sB, fun x u e => ?_, fun x hx => ?_, h.sv.st.h1, h.sv.st.bx, h.sv.st.nn⟩, h.sv.mb.trans sB, ⟨fun x u e => ?_, fun b hb => ?_⟩, h.sv.bs, h.sv.sup, ⟨h.sv.env.len, fun i r hr => ?_, h.sv.env.own, h.sv.env.ok⟩, h.sv.ow⟩, ⟨fun x hx => ?_, h3.ok.en, fun m hm => m.mono sB (fun _ _ _ e => e) (h3.ok.rl m hm), h3.ok.nd⟩, h3.ow⟩, sB, .lst (.inl (.inl upd_same)) (dpSameAll sB _ _ dv)⟩
  · by_cases c : x = a
    · subst c
      rw [upd_same] at e
      cases e
      exact ea
    · rw [upd_ne c] at e
      exact h.sv.g.sub x u e
  · rw [upd_ne (fun z => hx (by rw [z]; exact hE))]
    exact h.sv.st.b3 x hx
  · by_cases c : x = a
    · subst c
      rw [upd_same] at e
      cases e
      exact ea
    · rw [upd_ne c] at e
      exact h.sv.g.sub x u e
  · obtain ⟨b1, b2⟩ := h.sv.g.box b hb
    exact ⟨by rw [upd_ne (fun z => ab (by rw [← z]; exact hb))]; exact b1, b2⟩
  · obtain ⟨v, e1, e2⟩ := h.sv.env.val i r hr
    refine ⟨v, e1, ?_⟩
    have ok := h.sv.env.ok i r hr
    cases r with
    | d x => exact dpSame sB x v e2
    | new ys =>
      obtain ⟨p, zs, rfl, a1, a2, a3, a4⟩ := e2
      exact ⟨p, zs, rfl, a1, by rw [upd_ne (fun z => h.ow a ain i _ hr trivial (by rw [e1, z]))]; exact a2, a3, dpSameAll sB _ _ a4⟩
    | bor ys => exact ok.elim
    | box => exact e2
    | nbox => exact ok.elim
    | obj p => exact e2
    | own T =>
      obtain ⟨p, z, rfl, a1, a2, a3, a4⟩ := e2
      exact ⟨p, z, rfl, a1, by rw [upd_ne (fun z => h.ow a ain i _ hr trivial (by rw [e1, z]))]; exact a2, a3, T.mono sB a4⟩
  · obtain ⟨a1, a2, a3⟩ := h3.ok.at_ x hx
    exact ⟨a1, by rw [upd_ne (fun z => nin (by rw [← z]; exact hx))]; exact a2, a3⟩
theorem MX.wipe (h : MX K E M n B H bxs σ ρ ms) (vs : List Nat) : MX K E M n B H bxs (wipe σ vs) (wipeD ρ vs) ms := by
  have back : ∀ {i : Nat} {r : RV} {v : Option (Option V)}, (wipeD ρ vs)[i]? = some (some r) → (L2.wipe σ vs)[i]? = v → ρ[i]? = some (some r) ∧ σ[i]? = v := fun {i r v} h1 h2 => by
    obtain ⟨a1, a2⟩ := wipeD_some h1
    rw [wipe_get, if_neg a2] at h2
    exact ⟨a1, h2⟩
  refine ⟨⟨h.sv.st, h.sv.mb, h.sv.g, h.sv.bs, h.sv.sup, h.sv.env.wipe vs, fun i r p h1 o h2 => ?_⟩, h.ok, fun x hx i r h1 o h2 => ?_⟩
  · obtain ⟨a1, a2⟩ := back h1 h2
    exact h.sv.ow i r p a1 o a2
  · obtain ⟨a1, a2⟩ := back h1 h2
    exact h.ow x hx i r a1 o a2
/-- behind a comprehension's turn -/
theorem MX.unwipe {us vs : List Nat} (h : MX K E M n B H bxs σ2 ρ2 ms) (hl : σ.length = ρ.length) (hok : ∀ (i : Nat) (r : RV), ρ[i]? = some (some r) → slotOk r) (e : wipeD ρ2 vs = ρ) (u : UpdR us (L2.wipe σ vs) σ2 ρ ρ2) (hs : ∀ j ∈ us, j ∈ vs) : MX K E M n B H bxs σ ρ ms := by
  have fwd : ∀ {i : Nat} {r : RV}, ρ[i]? = some (some r) → ρ2[i]? = some (some r) ∧ σ2[i]? = σ[i]? := fun {i r} hr => by
    rw [← e] at hr
    obtain ⟨a1, a2⟩ := wipeD_some hr
    refine ⟨a1, ?_⟩
    rw [u.out i fun z => a2 (hs i z), wipe_get, if_neg a2]
  refine ⟨⟨h.sv.st, h.sv.mb, h.sv.g, h.sv.bs, h.sv.sup, ⟨hl, fun i r hr => ?_, fun i j r r' p h1 h2 o1 o2 h3 h4 => ?_, hok⟩, fun i r p h1 o h2 => ?_⟩, h.ok, fun x hx i r h1 o h2 => ?_⟩
  · obtain ⟨a1, a2⟩ := fwd hr
    rw [← a2]
    exact h.sv.env.val i r a1
  · obtain ⟨a1, a2⟩ := fwd h1
    obtain ⟨b1, b2⟩ := fwd h2
    exact h.sv.env.own i j r r' p a1 b1 o1 o2 (by rw [a2]; exact h3) (by rw [b2]; exact h4)
  · obtain ⟨a1, a2⟩ := fwd h1
    exact h.sv.ow i r p a1 o (by rw [a2]; exact h2)
  · obtain ⟨a1, a2⟩ := fwd h1
    exact h.ow x hx i r a1 o (by rw [a2]; exact h2)
end
noncomputable def dLcM (wi : DI) (wg : DG) (tt : DTM) (we : DEM) (vs : List Nat) : DEM := fun ρ ms n Q => wi ρ n fun items n1 => wipeD ρ vs = ρ ∧ ∃ Iv : Nat → List PyData → MS → Nat → Prop, Iv 0 [] ms n1 ∧
  (∀ i acc ms n z, Iv i acc ms n → items[i]? = some z → wg z ρ fun ρ' => wipeD ρ' vs = ρ ∧ tt ρ' ms n fun b ms2 n2 => if b = true then we ρ' ms2 n2 fun r ms3 n3 => onD r fun y => acc.length < sizeLine ∧ Iv (i + 1) (acc ++ [y]) ms3 n3 else Iv (i + 1) acc ms2 n2) ∧
  ∀ acc ms n, Iv items.length acc ms n → Q (.d (.list acc)) ms n
noncomputable def dYesM : DTM := fun _ ms n Q => Q true ms n
noncomputable abbrev LTsM (X : Cx) (E : Ent) (ifs : List Expr) (w : DTM) : Prop := PTs X ifs (upTM X.K E w)
theorem ltsm_nil {X : Cx} {E : Ent} : LTsM X E [] dYesM := ⟨fun pins s σ H Q I hu => pts_nil.run pins s σ H Q I (by
  obtain ⟨ρ, ms, n, B, M, bxs, Qd, h, w1, q⟩ := hu
  exact q _ _ _ _ _ w1 h (Same.refl _))⟩
theorem ltsm_one {X : Cx} {E : Ent} {c : Expr} {w : DTM} (h : LTM X E c w) : LTsM X E [c] w := pts_one h
theorem up_lcM {K : PySem.W.Frag} {E : Ent} {wi : DI} {wg : DG} {tt : DTM} {we : DEM} {vs us : List Nat} (hus : ∀ j ∈ us, j ∈ vs) (σ : L2.St) (H : Hp) (Q : VK) (hu : upM K E (dLcM wi wg tt we vs) σ H Q) :
    tLc (upI K wi) (upG K us wg) (fun σ H Q => ∃ E', upTM K E' tt σ H Q) (fun σ H Q => ∃ E', upM K E' we σ H Q) vs σ H Q := by
  obtain ⟨ρ, ms, n, B, M, bxs, Qd, h, w1, q⟩ := hu
  refine ⟨ρ, n, B, bxs, _, h.sv.g, h.sv.env, w1, fun items n1 B1 H1 J hq s1 ji => fun D hD => ?_⟩
  obtain ⟨hw, Iv, h0, ht, hd⟩ := hq
  have h1 := h.step s1
  have hD1 := mx_lay (T := listO []) h1 hD (o := .lst []) ⟨[], rfl, .nil⟩
  refine ⟨fun i m Hc => m = items.length - i ∧ i ≤ items.length ∧ ∃ (nc : Nat) (Bc : Hp) (acc : List PyData) (mc : MS), Iv i acc mc nc ∧ MX K E M nc Bc Hc bxs σ ρ (ownM D (listO acc) :: mc) ∧ Same B1 Bc,
    ⟨_, rfl, Nat.zero_le _, n1, B1, [], ms, h0, hD1, Same.refl _⟩, ?_⟩
  rintro i m Hc ⟨rfl, hi, nc, Bc, acc, mc, iv, hc, sbc⟩
  by_cases hlt : i < items.length
  · refine .inr ⟨ji.go i Hc (sbc.trans hc.sv.g.sub) hlt, fun Hn => ∃ (nn : Nat) (Bn : Hp) (acn : List PyData) (mn : MS), Iv (i + 1) acn mn nn ∧ MX K E M nn Bn Hn bxs σ ρ (ownM D (listO acn) :: mn) ∧ Same B1 Bn,
      fun Hn hn => ⟨items.length - (i + 1), by omega, rfl, hlt, hn⟩, fun x Hy hy => ?_⟩
    have hz : items[i]? = some items[i] := List.getElem?_eq_getElem hlt
    obtain ⟨By, sy, dx⟩ := yr_step hc.sv.g sbc (ji.yld i Hc x Hy items[i] (sbc.trans hc.sv.g.sub) hy hz)
    have hy2 := hc.step sy
    have hyw := hy2.wipe vs
    rw [hw] at hyw
    refine ⟨bxs, nc, By, ρ, items[i], _, hy2.sv.g, hyw.sv.env, dx, ht i acc mc nc items[i] iv hz, fun σ2 ρ2 hq2 e2 u2 => ⟨wipe_upd u2 hus, ?_⟩⟩
    obtain ⟨hw2, hq2⟩ := hq2
    have hb : MX K E M nc By Hy bxs σ2 ρ2 ([ownM D (listO acc)] ++ mc) := hyw.upd e2 u2
    refine ⟨_, ρ2, mc, nc, By, By, bxs, _, hb.innerP, hq2, fun b m2 n2 B2 H2 hq3 g2 sb2 => ?_⟩
    have hb2 := hb.outerP g2
    cases b with
    | false =>
      refine iteF ⟨n2, B2, acc, m2, ?_, hb2.unwipe (h.sv.env.len) h.sv.env.ok hw2 u2 hus, (sbc.trans sy.b1).trans sb2⟩
      rw [if_neg Bool.false_ne_true] at hq3
      exact hq3
    | true =>
      rw [if_pos rfl] at hq3
      refine iteT ⟨_, ρ2, m2, n2, B2, B2, bxs, _, hb2.innerP, hq3, fun r m3 n3 v B3 H3 hq4 g3 sb3 vr => ?_⟩
      obtain ⟨y, rfl, hl, iv'⟩ := onD_ex hq4
      have hb3 := (hb2.outerP g3).unwipe (h.sv.env.len) h.sv.env.ok hw2 u2 hus
      have hb4 : MX K E M n3 B3 H3 bxs σ ρ (ownM D (listO acc) :: m3) := hb3
      obtain ⟨_, eD, ⟨av, rfl, da⟩, _⟩ := hb4.get (List.mem_cons_self)
      exact ⟨av, eD, by rw [dpLen _ _ da]; exact hl, n3, B3, acc ++ [y], m3, iv', mx_put (T' := listO (acc ++ [y])) hb4 ⟨_, rfl, dpApp _ _ _ _ da (.cons vr .nil)⟩, ((sbc.trans sy.b1).trans sb2).trans sb3⟩
  · have el : i = items.length := by omega
    subst el
    refine .inl ⟨ji.stop Hc (sbc.trans hc.sv.g.sub), ?_⟩
    obtain ⟨B', h', sB, vr⟩ := mx_frz hc
    exact q _ _ _ _ _ _ (hd acc mc nc iv) h' ((s1.b1.trans sbc).trans sB) vr
theorem pe_ex {X : Cx} {e : Expr} {t : Ent → TE} (h : ∀ E, PE X e (t E)) : PE X e (fun σ H Q => ∃ E, t E σ H Q) := ⟨fun pins s σ H Q I ⟨E, q⟩ => (h E).run pins s σ H Q I q⟩
theorem pts_ex {X : Cx} {e : List Expr} {t : Ent → TT} (h : ∀ E, PTs X e (t E)) : PTs X e (fun σ H Q => ∃ E, t E σ H Q) := ⟨fun pins s σ H Q I ⟨E, q⟩ => (h E).run pins s σ H Q I q⟩
section
variable {X : Cx} {E : Ent} {elt tg iter : Expr} {ifs : List Expr} {scope : Scope} {own : List (Str × Nat)} {us : List Nat} {pos spos : Pos} {wi : DI} {wg : DG} {tt : DTM} {we : DEM}
theorem lem_lc (hc : X.calm = true) (hN : X.N.Nodup) (hi : LI X tg iter wi) (ok : blkC X.N X.env.scope scope own = true)
    (hg : ∀ (s : Shared) (H : Hp) (C : Addr) (cl : List (Str × Addr)) (fp : List Addr), LG (X.blk s H scope (compEnvC scope cl C X.env) fp) tg us wg) (ht : ∀ (E' : Ent) (s : Shared) (H : Hp) (C : Addr) (cl : List (Str × Addr)) (fp : List Addr), LTsM (X.blk s H scope (compEnvC scope cl C X.env) fp) E' ifs tt)
    (he : ∀ (E' : Ent) (s : Shared) (H : Hp) (C : Addr) (cl : List (Str × Addr)) (fp : List Addr), LEM (X.blk s H scope (compEnvC scope cl C X.env) fp) E' elt we) (hus : ∀ j ∈ us, j ∈ own.map (·.2) := by decide) (hs : ∀ x, foldedSetIterable iter X.env x = pure x := by intro _; rfl) :
    LEM X E (.ListComp elt [⟨tg, iter, ifs, 0⟩] scope pos) (dLcM wi wg tt we (own.map (·.2))) :=
  pe_imp (pe_lc hc hN hi (blkOk_by ok) (fun s H C cl fp => lg_up (hg s H C cl fp)) (fun s H C cl fp => pts_ex fun E' => ht E' s H C cl fp) (fun s H C cl fp => pe_ex fun E' => he E' s H C cl fp) hs) (up_lcM (K := X.K) hus)
end
end Dl

namespace Dl
open PySem PySem.Spec PyProof.Rows L2
/-! ### match, and the rest of the expressions over objects -/
structure PMs (X : Cx) (cs : List MatchCase) (t : V → TS) : Prop where
  run : ∀ (pins : List (Addr × Obj)) (s : Shared) (σ : L2.St) (H : Hp) (D : Ends) (x : V) (v : Value) (first : Bool), Inv X pins σ H s → RelV x v → t x D σ H → wpAny (model X.prog X.w) X.A (matchCases cs X.env v first) (SP X pins D) X.xe s
section
variable {X : Cx} {e : Expr} {te : TE} {cs rest : List MatchCase} {t : V → TS} {body : List Stmt} {w : TS} {k : Str} {pos p1 p2 : Pos} {j : Nat}
end
noncomputable def dMatchM (we : DEM) (w : Str → DSM) : DSM := fun D ρ ms n => we ρ ms n fun r ms1 n1 => ∃ z, r = .d (.str z) ∧ w z D ρ ms1 n1
noncomputable def wCaseM (k : Str) (u : DSM) (w : Str → DSM) : Str → DSM := fun z D ρ ms n => if z = k then u D ρ ms n else w z D ρ ms n
noncomputable def dNeverM : DSM := fun _ _ _ _ => False
noncomputable def dCBM (w : DCall) (wr : DAM) : DEM := fun ρ ms n Q => wr ρ ms n fun rs ms1 n1 => onO (views rs) fun xs => w xs fun r => okM r fun r' => Q r' ms1 n1
noncomputable def dAndVM (wa wb : DEM) : DEM := fun ρ ms n Q => wa ρ ms n fun r ms1 n1 => onB r fun b => if b = true then wb ρ ms1 n1 Q else Q (.d (.bool false)) ms1 n1
noncomputable def dOrVM (wa wb : DEM) : DEM := fun ρ ms n Q => wa ρ ms n fun r ms1 n1 => onB r fun b => if b = true then Q (.d (.bool true)) ms1 n1 else wb ρ ms1 n1 Q
noncomputable def dNotVM (wa : DEM) : DEM := fun ρ ms n Q => wa ρ ms n fun r ms1 n1 => onB r fun b => Q (.d (.bool (!b))) ms1 n1
noncomputable def dMake0M (C : Addr) (c : DSpM) : DEM := fun _ ms n Q => ∀ a dx, splitM ms fun ma mb => c [.obj a] (ownM a (insO C dx []) :: ma) n fun r ma' n2 => r = .d .none ∧ Q (.obj a) (ma' ++ mb) n2
section
variable {X : Cx} {E : Ent} {a b e : Expr} {es rest2 : List Expr} {cs rest : List MatchCase} {body : List Stmt} {st : Stmt} {wa wb we : DEM} {wr : DAM} {u : DSM} {w : Str → DSM} {k : Str} {pos p p1 p2 : Pos} {j : Nat} {x : Str}
theorem up_cbM {K : PySem.W.Frag} {w : DCall} {r : List V → Hp → VK → Prop} (h : ∀ (bxs : List Addr) (n : Nat) (B H : Hp) (xs : List PyData) (vs : List V) (Qd : RV → Prop) (Q : VK), Good bxs n B H → DpVs K B H vs xs → w xs Qd →
    (∀ res v' B1 H1, Qd res → Step bxs n n B H B1 H1 → ValR K bxs n B1 H1 res v' → FrR H res v' → Q v' H1) → r vs H Q) (σ : L2.St) (H : Hp) (Q : VK) (hu : upM K E (dCBM w wr) σ H Q) : tCB r (upAM K E wr) σ H Q := by
  obtain ⟨ρ, ms, n, B, M, bxs, Qd, h0, w1, q⟩ := hu
  refine ⟨ρ, ms, n, B, M, bxs, _, h0, w1, fun rs ms1 n1 vs B1 H1 hq h1 sb vr => ?_⟩
  obtain ⟨xs, ex, hq⟩ := onO_ex hq
  refine h bxs n1 B1 H1 xs vs _ Q h1.sv.g (views_r _ _ _ vr ex) hq fun res v' B2 H2 hq s2 vr2 f2 => ?_
  obtain ⟨r', B3, hf, h3, sb3, vr3⟩ := okM_inv h1 s2 vr2 f2 hq
  exact q _ _ _ _ _ _ hf h3 (sb.trans sb3) vr3
theorem lem_callB {id : String} {w : DCall} (hc : LCall X (.builtin id) w) (hg : Gl X x) (hm : X.mg x = none) (hv : bootBuiltins x = some (.builtin id)) (ha : LAM X E (e :: es) wr) (hn : x ≠ "__name__" := by decide) (hdb : (x == ("__debug__" : Str)) = false := by decide)
    (he : starEach (e :: es) X.env = (false, eval e X.env) :: starEach es X.env := by rfl) (hpl : (backTo pos (starEach es X.env)).any (·.1) = false := by rfl) : LEM X E (.Call (.Name x p) (e :: es) [] pos) (dCBM w wr) := by
  obtain ⟨r, h1, h2⟩ := hc
  exact pe_imp (pe_callB h1 hg hm hv ha hn hdb he hpl) (up_cbM h2)
end
section
variable {X : Cx} {k : Nat} {C f : Addr} {fd : FuncData} {ps : List Str} {sp : Sp} {x : Str} {p pos : Pos} {E : Ent} {c : DSpM}
end
end Dl

namespace Dl
open PySem PySem.Spec PyProof.Rows L2
/-! ### own things become objects and back; plain promises of bodies over objects -/
section
variable {K : PySem.W.Frag} {E : Ent} {M : Hp} {n : Nat} {B H : Hp} {bxs : List Addr} {σ : L2.St} {ρ : DEnv} {ms mr : MS} {a : Addr} {T : OwnT} {i : Nat}
end
noncomputable def dLendS (i : Nat) (w : DSM) : DSM := fun D ρ ms n => ∃ T, ρ[i]? = some (some (.own T)) ∧ ∀ a, w D (ρ.set i (some (.obj a))) (ownM a T :: ms) n
noncomputable def dAdoptS (i : Nat) (w : DSM) : DSM := fun D ρ ms n => ∃ a T mr, ρ[i]? = some (some (.obj a)) ∧ ms.Perm (ownM a T :: mr) ∧ w D (ρ.set i (some (.own T))) mr n
noncomputable def dFrzM (i : Nat) (w : DSM) : DSM := fun D ρ ms n => onS ρ[i]? fun xs => w D (ρ.set i (some (.d (.list xs)))) ms n
section
variable {X : Cx} {E : Ent} {sts : List Stmt} {w : DSM}
end
section
variable {P : Program} {w : World} {K : PySem.W.Frag} {mg : Str → Option Value} {base : Heap}
theorem fng_mkM {x qual : Str} {st : Stmt} {f : Addr} {fd : FuncData} {N ps : List Str} {k : Nat} {c : DSp} {wb : DSM} (F : Fun K x qual st f fd) (S : FnScope N ps (defScope st))
    (hlen : ∀ rs n Q, c rs n Q → rs.length = ps.length)
    (hbody : ∀ (cdv : Value) (A : Around) (outer : List Env) (s : Shared) (H : Hp) (E : Ent), Here k (A.deeper (envOfC qual (defScope st) s.heap.objs.size f cdv)) → LSsM (cxOf CX0 P w K mg base N qual (defScope st) f cdv A outer s H E0).nox E (defBody st) wb)
    (hd : ∀ rs n Qd, argsIn rs → c rs n Qd → wb { nx := fun _ _ n' => Qd (.d .none) n', rt := fun r _ n' => onD r fun x => Qd (.d x) n' } (startD N rs) [] n) : FnG P w K mg base (k + 1) f fd ps (lift K c) := by
  refine fng_of F S (fun vs H Q E h => ?_) (fun cdv A outer s H vs Q hr hg h => ?_)
  · obtain ⟨rs, n, B, bxs, Qd, g, vr, ai, hc, q⟩ := h
    rw [← vals_len vr]
    exact hlen _ _ _ hc
  · obtain ⟨rs, n, B, bxs, Qd, g, vr, ai, hc, q⟩ := h
    have hl := vals_len vr
    refine ⟨_, hbody cdv A outer s H ⟨B, H, bxs, n⟩ ⟨hr, hg⟩, ?_⟩
    refine ⟨startD N rs, [], n, B, B, bxs, _, ⟨⟨g.refl, Same.refl _, g, fun b hb => .inl hb, fun b hb => hb, ⟨?_, ?_, ?_, ?_⟩, ?_⟩, ⟨fun _ h => (by cases h), fun _ h => (by cases h), fun _ h => (by cases h), List.nodup_nil⟩, fun _ h => (by cases h)⟩, hd rs n Qd ai hc, ⟨?_, ?_, ?_, ?_⟩⟩
    · unfold startD L2.start
      rw [List.length_append, List.length_append, List.length_map, List.length_map, List.length_replicate, List.length_replicate, hl]
    · intro i r h
      obtain ⟨v, e1, e2⟩ := vals_get vr (startD_get h)
      refine ⟨v, ?_, e2⟩
      unfold L2.start
      have hi : i < vs.length := (List.getElem?_eq_some_iff.mp e1).1
      rw [List.getElem?_append_left (by simpa using hi), List.getElem?_map, e1]
      rfl
    · intro i j r r' p h1 h2 o1 o2 h3 h4
      have := argIn_get ai (startD_get h1)
      cases r <;> first | exact o1.elim | exact this.elim
    · intro i r h
      have := argIn_get ai (startD_get h)
      cases r <;> first | trivial | exact this.elim
    · intro i r p h1 o1 h2
      have := argIn_get ai (startD_get h1)
      cases r <;> first | exact o1.elim | exact this.elim
    · intro n1 B1 H1 b1 σ1 ρ1 ms1 h1 w1
      exact q _ _ _ _ _ w1 trivial h1.sv.st .non trivial
    · intro n1 B1 H1 r v ms1 h1 ok w1
      obtain ⟨x, rfl, w1⟩ := onD_ex w1
      exact q _ _ _ _ _ w1 trivial h1.1 h1.2.1 trivial
    · intro n1 B1 H1 b1 σ1 ρ1 ms1 h1 w1
      exact w1.elim
    · intro n1 B1 H1 b1 σ1 ρ1 ms1 h1 w1
      exact w1.elim
theorem def_mkM {x qual : Str} {st : Stmt} {f : Addr} {fd : FuncData} {N ps : List Str} {k : Nat} {c : DSp} {wb : DSM} (F : Fun K x qual st f fd) (S : FnScope N ps (defScope st)) (hm : mg x = some (.ref f)) (hb : Binds K fd ps [])
    (hlen : ∀ rs n Q, c rs n Q → rs.length = ps.length)
    (hbody : ∀ (cdv : Value) (A : Around) (outer : List Env) (s : Shared) (H : Hp) (E : Ent), Here k (A.deeper (envOfC qual (defScope st) s.heap.objs.size f cdv)) → LSsM (cxOf CX0 P w K mg base N qual (defScope st) f cdv A outer s H E0).nox E (defBody st) wb)
    (hd : ∀ rs n Qd, argsIn rs → c rs n Qd → wb { nx := fun _ _ n' => Qd (.d .none) n', rt := fun r _ n' => onD r fun x => Qd (.d x) n' } (startD N rs) [] n) : Def P w K mg base (k + 1) x ps c :=
  ⟨f, fd, fng_mkM F S hlen hbody hd, hm, F.kp, hb⟩
end
end Dl

namespace Dl
open PySem PySem.Spec PyProof.Rows L2
/-! ### helps for readings over objects -/
theorem seqM_def (w u : DSM) (D : MEnds) (ρ : DEnv) (ms : MS) (n : Nat) (h : ∀ R : DEnv → MS → Nat → Prop, (∀ ρ ms n, R ρ ms n = u D ρ ms n) → w { D with nx := R } ρ ms n) : dSeqM w u D ρ ms n := h _ fun _ _ _ => rfl
theorem forM_def (wi : DI) (wg : DG) (wb : DSM) (D : MEnds) (ρ : DEnv) (ms : MS) (n : Nat) (h : ∀ F : List PyData → Nat → Prop, (∀ items n1, (∃ Inv : Nat → DEnv → MS → Nat → Prop, Inv 0 ρ ms n1 ∧
  (∀ i ρ ms n z, Inv i ρ ms n → items[i]? = some z → wg z ρ fun ρ' => wb { nx := Inv (i + 1), ct := Inv (i + 1), bk := D.nx, rt := D.rt } ρ' ms n) ∧ ∀ ρ ms n, Inv items.length ρ ms n → D.nx ρ ms n) → F items n1) → wi ρ n F) : dForM wi wg wb D ρ ms n := h _ fun _ _ q => q
theorem lcM_def (wi : DI) (wg : DG) (tt : DTM) (we : DEM) (vs : List Nat) (ρ : DEnv) (ms : MS) (n : Nat) (Q : RV → MS → Nat → Prop) (h : ∀ F : List PyData → Nat → Prop, (∀ items n1, (wipeD ρ vs = ρ ∧ ∃ Iv : Nat → List PyData → MS → Nat → Prop, Iv 0 [] ms n1 ∧
  (∀ i acc ms n z, Iv i acc ms n → items[i]? = some z → wg z ρ fun ρ' => wipeD ρ' vs = ρ ∧ tt ρ' ms n fun b ms2 n2 => if b = true then we ρ' ms2 n2 fun r ms3 n3 => onD r fun y => acc.length < sizeLine ∧ Iv (i + 1) (acc ++ [y]) ms3 n3 else Iv (i + 1) acc ms2 n2) ∧
  ∀ acc ms n, Iv items.length acc ms n → Q (.d (.list acc)) ms n) → F items n1) → wi ρ n F) : dLcM wi wg tt we vs ρ ms n Q := h _ fun _ _ q => q
theorem inv4M (P : Nat → DEnv → MS → Nat → Prop) : ∃ Iv : Nat → DEnv → MS → Nat → Prop, ∀ i ρ ms n, Iv i ρ ms n ↔ P i ρ ms n := ⟨P, fun _ _ _ _ => Iff.rfl⟩
theorem inv4L (P : Nat → List PyData → MS → Nat → Prop) : ∃ Iv : Nat → List PyData → MS → Nat → Prop, ∀ i acc ms n, Iv i acc ms n ↔ P i acc ms n := ⟨P, fun _ _ _ _ => Iff.rfl⟩
/-- all objects go to the call -/
theorem split_all {ms : MS} {F : MS → MS → Prop} (h : F ms []) : splitM ms F := ⟨ms, [], by rw [List.append_nil], h⟩
theorem split_none {ms : MS} {F : MS → MS → Prop} (h : F [] ms) : splitM ms F := ⟨[], ms, List.Perm.refl _, h⟩
end Dl

namespace Dl
open PySem PySem.Spec PyProof.Rows L2
/-! ### a def without arguments -/
section
variable {X : Cx} {k : Nat} {f : Addr} {fd : FuncData} {sp : Sp} {x : Str} {p pos : Pos} {c : DSp}
end
end Dl

namespace Dl
open PySem PySem.Spec PyProof.Rows L2
/-! ### zip of a list and a tuple, taken apart: the tuple handed out goes back at once -/
end Dl

namespace Dl
open PySem PySem.Spec PyProof.Rows L2
/-! ### a field of an object that a name refers to; a box beside an object -/
section
variable {K : PySem.W.Frag} {E : Ent} {M : Hp} {n n1 : Nat} {B H B1 H1 : Hp} {bxs : List Addr} {σ : L2.St} {ρ : DEnv} {ms : MS} {v : V}
end
/-- i, j = a box, an object -/
noncomputable def dParB (i j : Nat) (wa : DE) (wb : DEM) : DSM := fun D ρ ms n => wa ρ n fun r1 n1 => r1 = .nbox ∧ wb ρ ms n1 fun r2 ms2 n2 => setM r2 fun s2 => D.nx ((ρ.set i (some .box)).set j (some s2)) ms2 n2
section
variable {X : Cx} {E : Ent} {ea eb : Expr} {wa : DE} {wb : DEM} {x y : Str} {pos px py pt pt2 : Pos} {kt k2 : Nat}
end
end Dl

namespace Dl
open PySem PySem.Spec PyProof.Rows L2
/-! ### objects in any order; dicts made and written as objects; two fields unpacked -/
theorem FnG.imp {P : Program} {w : World} {K : PySem.W.Frag} {mg : Str → Option Value} {base : Heap} {k : Nat} {f : Addr} {fd : FuncData} {ps : List Str} {sp sp' : Sp} (F : FnG P w K mg base k f fd ps sp) (h : ∀ vs H Q E, sp' vs H Q E → sp vs H Q E) : FnG P w K mg base k f fd ps sp' :=
  ⟨fun vs H Q E q => F.len vs H Q E (h vs H Q E q), fun A outer s H args us vs Q hr hg e b v q => F.run A outer s H args us vs Q hr hg e b v (h _ _ _ _ q)⟩
theorem AftM.perm {K : PySem.W.Frag} {bxs : List Addr} {ms ms1 ms2 : MS} {n n1 : Nat} {B H B1 H1 : Hp} (a : AftM K bxs ms ms1 n n1 B H B1 H1) (p : ms1.Perm ms2) : AftM K bxs ms ms2 n n1 B H B1 H1 :=
  ⟨a.st, fun x hx => a.at_ x ((adM_perm p).mem_iff.mpr hx), fun m hm => a.rl m (p.mem_iff.mpr hm), (adM_perm p).nodup_iff.mp a.nd, fun x hx => a.fr x ((adM_perm p).mem_iff.mpr hx)⟩
section
variable {P : Program} {w : World} {K : PySem.W.Frag} {mg : Str → Option Value} {base : Heap} {x qual : Str} {st : Stmt} {f C p : Addr} {cn : Str} {fd : FuncData} {N ps : List Str} {k : Nat} {c : DSpM} {wb : DSM}
end
/-- a new dict -/
noncomputable def dNewDM (P : Program) (w : World) : DEM := fun _ ms n Q => ∃ fl, ∀ a, Q (.obj a) (ownM a (dictL P w fl []) :: ms) n
/-- o[k] = v -/
noncomputable def dPutDM (P : Program) (w : World) (wo wk wv : DEM) : DSM := fun D ρ ms n => wv ρ ms n fun rv ms1 n1 => onD rv fun y => wo ρ ms1 n1 fun r ms2 n2 => ∃ a, r = .obj a ∧ wk ρ ms2 n2 fun rk ms3 n3 => ∃ fl al k mr, ms3.Perm (ownM a (dictL P w fl al) :: mr) ∧ rk = .d (ckD k) ∧ ckOk fl k ∧ al.length < sizeLine ∧ D.nx ρ (ownM a (dictL P w fl (putA al k y)) :: mr) n3
/-- o.f, o.g = e, a pair -/
noncomputable def dUnpFM (C1 C2 : Addr) (f1 f2 : Str) (wo1 wo2 we : DEM) : DSM := fun D ρ ms n => we ρ ms n fun r ms1 n1 => ∃ x y, r = .d (.tuple [x, y]) ∧
  wo1 ρ ms1 n1 fun ro ms3 n3 => ∃ a dx fs mr, ro = .obj a ∧ ms3.Perm (ownM a (insO C1 dx fs) :: mr) ∧ fs.length < 1000 ∧
    wo2 ρ (ownM a (insO C1 dx (putR f1 (.d x) fs)) :: mr) n3 fun ro2 ms4 n4 => ∃ a2 dx2 fs2 mr2, ro2 = .obj a2 ∧ ms4.Perm (ownM a2 (insO C2 dx2 fs2) :: mr2) ∧ fs2.length < 1000 ∧ D.nx ρ (ownM a2 (insO C2 dx2 (putR f2 (.d y) fs2)) :: mr2) n4
section
variable {X : Cx} {E : Ent} {o o2 i e value : Expr} {wo wo2 wk wv we : DEM} {C1 C2 : Addr} {f1 f2 : Str} {pos pos' p1 p2 pt : Pos} {kt : Nat}
end
end Dl

namespace Dl
open PySem PySem.Spec PyProof.Rows L2
/-! ### a list that a name refers to, read as data for a while -/
noncomputable def lendR (r : RV) (F : RV → Prop) : Prop := match r with
  | .d x => noLst x ∧ F (.d x)
  | .new xs => noLsts xs ∧ F (.new xs)
  | _ => False
noncomputable def dLendN (i : Nat) (w : DE) : DEM := fun ρ ms n Q => ∃ st xs, ρ[i]? = some (some (.obj st)) ∧ ownM st (listO xs) ∈ ms ∧
  w (ρ.set i (some (.d (.list xs)))) n fun r n1 => lendR r fun r1 => okM r1 fun r' => Q r' ms n1
section
variable {X : Cx} {E : Ent} {e : Expr} {w : DE}
end
section
variable {X : Cx} {E : Ent} {elt tg iter : Expr} {ifs : List Expr} {scope : Scope} {own : List (Str × Nat)} {us : List Nat} {pos spos py : Pos} {wi : DI} {wg : DG} {tt : DT} {we : DE} {y : Str}
end
end Dl

namespace Dl
open PySem PySem.Spec PyProof.Rows L2
/-! ### [.. for a, b in d.items()], d an object that the turns do not write -/
noncomputable def pairA (p : CK × PyData) : PyData := .tuple [ckD p.1, p.2]
noncomputable def dLcItM (P : Program) (w : World) (i : Nat) (wg : DG) (tt : DTM) (we : DEM) (vs : List Nat) : DEM := fun ρ ms n Q => ∃ a fl al mr, ρ[i]? = some (some (.obj a)) ∧ ms.Perm (ownM a (dictL P w fl al) :: mr) ∧ wipeD ρ vs = ρ ∧ ∃ Iv : Nat → List PyData → MS → Nat → Prop, Iv 0 [] mr n ∧
  (∀ j acc ms n z, Iv j acc ms n → (al.map pairA)[j]? = some z → wg z ρ fun ρ' => wipeD ρ' vs = ρ ∧ tt ρ' ms n fun b ms2 n2 => if b = true then we ρ' ms2 n2 fun r ms3 n3 => onD r fun y => acc.length < sizeLine ∧ Iv (j + 1) (acc ++ [y]) ms3 n3 else Iv (j + 1) acc ms2 n2) ∧
  ∀ acc ms n, Iv al.length acc ms n → Q (.d (.list acc)) (ownM a (dictL P w fl al) :: ms) n
section
variable {X : Cx} {E : Ent} {elt : Expr} {elts : List Expr} {kk : Nat} {tpos : Pos} {ifs : List Expr} {scope : Scope} {own : List (Str × Nat)} {us : List Nat} {pos spos apos cpos p1 : Pos} {wg : DG} {tt : DTM} {we : DEM} {x : Str}
end
end Dl

namespace Dl
open PySem PySem.Spec PyProof.Rows L2
/-! ### small steps over objects -/
section
variable {X : Cx} {E : Ent} {a b : Expr} {wa wb : DEM} {pos : Pos}
end
theorem ifM_def (w : DTM) (wa wb : DSM) (D : MEnds) (ρ : DEnv) (ms : MS) (n : Nat) (h : ∀ T F : MS → Nat → Prop, (∀ ms n, T ms n = wa D ρ ms n) → (∀ ms n, F ms n = wb D ρ ms n) → w ρ ms n fun b ms1 n1 => if b = true then T ms1 n1 else F ms1 n1) : dIfSM w wa wb D ρ ms n := h _ _ (fun _ _ => rfl) fun _ _ => rfl
end Dl

namespace Dl
open PySem PySem.Spec PyProof.Rows L2
/-! ### the same, the turn's names being names of the def, too -/
noncomputable def nOwn : Option (Option RV) → Prop
  | some (some (.new _)) => False
  | some (some (.own _)) => False
  | _ => True
noncomputable def noOwn (ρ : DEnv) : List Nat → Prop
  | [] => True
  | j :: js => nOwn ρ[j]? ∧ noOwn ρ js
noncomputable def dLcIuM (P : Program) (w : World) (i : Nat) (wg : DG) (tt : DTM) (we : DEM) (vs : List Nat) : DEM := fun ρ ms n Q => ∃ a fl al mr, ρ[i]? = some (some (.obj a)) ∧ ms.Perm (ownM a (dictL P w fl al) :: mr) ∧ noOwn ρ vs ∧ ∃ Iv : Nat → List PyData → MS → Nat → Prop, Iv 0 [] mr n ∧
  (∀ j acc ms n z, Iv j acc ms n → (al.map pairA)[j]? = some z → wg z (wipeD ρ vs) fun ρ' => wipeD ρ' vs = wipeD ρ vs ∧ tt ρ' ms n fun b ms2 n2 => if b = true then we ρ' ms2 n2 fun r ms3 n3 => onD r fun y => acc.length < sizeLine ∧ Iv (j + 1) (acc ++ [y]) ms3 n3 else Iv (j + 1) acc ms2 n2) ∧
  ∀ acc ms n, Iv al.length acc ms n → Q (.d (.list acc)) (ownM a (dictL P w fl al) :: ms) n
section
variable {X : Cx} {E : Ent} {elt : Expr} {elts : List Expr} {kk : Nat} {tpos : Pos} {ifs : List Expr} {scope : Scope} {own : List (Str × Nat)} {us : List Nat} {pos spos apos cpos p1 : Pos} {wg : DG} {tt : DTM} {we : DEM} {x : Str}
end
end Dl

namespace Dl
open PySem PySem.Spec PyProof.Rows L2
/-! ### an own list becomes an object -/
section
variable {X : Cx} {E : Ent} {sts : List Stmt} {w : DSM}
end
end Dl



namespace Dl
open PySem PySem.Spec PyProof.Rows L2
/-! x += e, over objects -/
section
variable {X : Cx} {E : Ent}
noncomputable def dAugM (i : Nat) (f : Int → Int → Int) (we : DEM) : DSM := fun D ρ ms n => match ρ[i]? with
  | some (some (.d (.int a))) => we ρ ms n fun r ms1 n1 => onI r fun b => D.nx (ρ.set i (some (.d (.int (f a b))))) ms1 n1
  | _ => False
theorem lsm_aug {op : Operator} {f : Int → Int → Int} {x : Str} {e : Expr} {we : DEM} {pos pos' : Pos} (i : Nat) (hN : X.N.Nodup) (ho : PIp X op (ipI f)) (he : LEM X E e we) (hi : X.N[i]? = some x := by rfl) (hx : Loc X.env.scope x := by first | exact Or.inl rfl | exact Or.inr rfl)
    (hf : X.fn x = true ∨ X.env.scope.names.lookup x = some .local := by first | exact .inl rfl | exact .inr rfl | assumption) : LSM X E (.AugAssign (.Name x pos') op e pos) (dAugM i f we) := ps_imp (ps_aug hN hi hx he ho hf) fun D σ H hu => by
  obtain ⟨ρ, ms, n, B, M, bxs, Dd, h, w1, q⟩ := hu
  unfold dAugM at w1
  split at w1
  · rename_i a e1
    obtain ⟨v, e2, e3⟩ := h.sv.env.val i _ e1
    cases e3
    refine ⟨.int a, e2, ρ, ms, n, B, M, bxs, _, h, w1, fun r ms1 n1 v B1 H1 hq h1 sb vr => ?_⟩
    obtain ⟨b, rfl, hq⟩ := onI_ex hq
    cases vr
    exact ⟨a, b, rfl, rfl, q.nx _ _ _ _ _ _ _ (h1.upd (h1.sv.env.set i (.int (f a b))) (UpdR.set σ ρ i _ _)) hq⟩
  · exact w1.elim
theorem val_lay {K : PySem.W.Frag} {bxs : List Addr} {n : Nat} {B H : Hp} {p : Addr} {o : HO} {r : RV} {v : V} (no : ¬ isOwn r) (so : slotOk r) (vr : ValR K bxs n B H r v) : ValR K bxs n B (upd H p o) r v := by
  cases r with
  | d x => exact vr
  | obj a => exact vr
  | new xs => exact (no trivial).elim
  | own T => exact (no trivial).elim
  | bor xs => exact so.elim
  | nbox => exact so.elim
  | box => exact vr
theorem lsm_par2c {ea eb : Expr} {wa wb : DEM} {x y : Str} {pos px py pt pt2 : Pos} {kt k2 : Nat} (i j' : Nat) (hN : X.N.Nodup) (ha : LEM X E ea wa) (hb : LEM X E eb wb) (hw : swappedStores [.Tuple [.Name x px, .Name y py] kt pt] (.Tuple [ea, eb] k2 pt2) X.env = pure none := by rfl) (hc : X.calm = true := by rfl) (hi : X.N[i]? = some x := by rfl) (hj : X.N[j']? = some y := by rfl)
    (hx : Loc X.env.scope x := by first | exact Or.inl rfl | exact Or.inr rfl) (hy : Loc X.env.scope y := by first | exact Or.inl rfl | exact Or.inr rfl)
    (fx : X.fn x = true ∨ X.env.scope.names.lookup x = some .local := by first | exact .inl rfl | exact .inr rfl) (fy : X.fn y = true ∨ X.env.scope.names.lookup y = some .local := by first | exact .inl rfl | exact .inr rfl)
    (hs : swapsWithSole [.Tuple [.Name x px, .Name y py] kt pt] (.Tuple [ea, eb] k2 pt2) pos.line X.env = pure false := by rfl) (h1 : (assignEach [.Tuple [.Name x px, .Name y py] kt pt] X.env).map (·.2) = [assign (.Tuple [.Name x px, .Name y py] kt pt) X.env] := by rfl)
    (s1 : starEach [ea, eb] X.env = (false, eval ea X.env) :: starEach [eb] X.env := by rfl) (s2 : starEach [eb] X.env = (false, eval eb X.env) :: starEach [] X.env := by rfl) :
    LSM X E (.Assign [.Tuple [.Name x px, .Name y py] kt pt] (.Tuple [ea, eb] k2 pt2) pos) (dPar2M i j' wa wb) := ps_imp (ps_asg (pe_tup (pa_cons ha (pa_cons hb pa_nil s2) s1)) (pg_tup hc (pgs_cons (pg_name hN hi hx fx) (pgs_cons (pg_name hN hj hy fy) pgs_nil rfl) rfl)) hs hw h1) fun D σ H hu => by
  obtain ⟨ρ, ms, n, B, M, bxs, Dd, h, w1, q⟩ := hu
  refine ⟨ρ, ms, n, B, M, bxs, _, h, w1, fun r1 ms1 n1 v1 B1 H1 hq h1 sb1 vr1 => ?_⟩
  obtain ⟨hq, st1⟩ := stM_ex hq
  refine ⟨ρ, ms1, n1, B1, M, bxs, _, h1, hq, fun r2 ms2 n2 v2 B2 H2 hq2 h2 sb2 vr2 => ?_⟩
  obtain ⟨hq2, no1, so1, _⟩ := setM_ex hq2
  obtain ⟨hq2, no2, so2, _⟩ := setM_ex hq2
  have vr1 := st1 (n1 := n2) (H1 := H2) sb2 vr1
  refine ⟨by show 2 ≤ sizeLine; decide, fun p hp => ?_⟩
  have st := h2.sv.g.refl.lay0 (o := HO.tup [v1, v2]) hp
  have h2 := h2.step st
  have vr1 := val_lay (p := p) (o := HO.tup [v1, v2]) no1 so1 vr1
  have vr2 := val_lay (p := p) (o := HO.tup [v1, v2]) no2 so2 vr2
  have e1 := h2.upd (h2.sv.env.setV i no1 so1 vr1) (UpdR.setV σ ρ i v1 no1)
  exact ⟨p, _, rfl, .inl (.inl upd_same), rfl, v1, _, rfl, v2, _, rfl, rfl, q.nx _ _ _ _ _ _ _ (e1.upd (e1.sv.env.setV j' no2 so2 vr2) (UpdR.setV _ _ j' v2 no2)) hq2⟩
end
end Dl

namespace Dl
open PySem PySem.Spec PyProof.Rows L2
/-! ### a set display of one number or text -/
section
variable {X : Cx} {e : Expr} {te : TE} {we : DE} {pos : Pos}
noncomputable def dSet1 (P : Program) (w : World) (we : DE) : DE := fun ρ n Q => we ρ n fun r n1 => ∃ k, r = .d (kD k) ∧ Q (.own (setF P w (fun j => decide (j = k)) 1)) n1
end
section
variable {P : Program} {w : World} {K : PySem.W.Frag} {mg : Str → Option Value} {base : Heap}
/-! ### defs whose body must know its code -/
end
/-! ### x in s, x not in s as values -/
section
variable {X : Cx} {x : Str} {e : Expr} {pos p1 : Pos} {we : DE}
noncomputable def dSInV (P : Program) (w : World) (neg : Bool) (i : Nat) (we : DE) : DE := fun ρ n Q => ∃ S m, ρ[i]? = some (some (.own (setF P w S m))) ∧ we ρ n fun r n1 => ∃ k, r = .d (kD k) ∧ Q (.d (.bool (if neg then !S k else S k))) n1
end
end Dl

namespace Dl
open PySem PySem.Spec PyProof.Rows L2
/-! ### methods called by names -/
noncomputable def BindKs (fd : FuncData) (ps ks : List Str) : Prop := ∀ (s : Shared) (u : Value) (us : List Value), (u :: us).length = ps.length → BindsTo s fd ⟨[u], ks.zip us⟩ (ps.zip (u :: us))
structure MethK (P : Program) (w : World) (K : PySem.W.Frag) (mg : Str → Option Value) (base : Heap) (k : Nat) (C : Addr) (m : Str) (ps ks : List Str) (c : DSpM) : Prop where
  ex : ∃ (f : Addr) (fd : FuncData), FnG P w K mg base k f fd ps (liftM K c) ∧ Meth K C m f ∧ BindKs fd ps ks
section
variable {X : Cx} {k : Nat} {C f : Addr} {fd : FuncData} {ps ks : List Str} {sp : Sp} {m : Str} {pos apos kpos : Pos} {o e : Expr} {kws : List Keyword} {ta : TE} {t : TA} {nm : Option Str}
end
section
variable {X : Cx} {E : Ent} {e o : Expr} {wo we : DEM} {C : Addr} {m : Str} {k : Nat} {ps ks : List Str} {c : DSpM} {pos apos kpos : Pos} {nm : Option Str}
end
end Dl

namespace Dl
open PySem PySem.Spec PyProof.Rows L2 PySem.W
/-! ### tuples that are known to the object: dict(a tuple) -/
noncomputable def ExT (K : PySem.W.Frag) (B : Hp) (a : Addr) (xs : List PyData) : Prop := ∃ o vs its n, B a = some (.frz o (.tup vs)) ∧ o.cls = .type "tuple" ∧ o.dict = none ∧ o.data = .seq its n ∧ Dl.DpAll K B vs xs
theorem ExT.mono {K : PySem.W.Frag} {B B' : Hp} {a : Addr} {xs : List PyData} (s : Same B B') (h : ExT K B a xs) : ExT K B' a xs := by
  obtain ⟨o, vs, its, n, e, h1, h2, h3, h4⟩ := h
  exact ⟨o, vs, its, n, s a _ e, h1, h2, h3, dpSameAll s _ _ h4⟩
theorem ExT.dp {K : PySem.W.Frag} {B : Hp} {a : Addr} {xs : List PyData} (h : ExT K B a xs) : Dl.Dp K B (.ref a) (.tuple xs) := by
  obtain ⟨o, vs, its, n, e, h1, h2, h3, h4⟩ := h
  exact .tup (.inl (.inr ⟨o, e⟩)) h4
noncomputable def tupF (a : Addr) (xs : List PyData) : OwnM := ⟨[], fun K B _ => ExT K B a xs, fun s _ h => h.mono s⟩
section
variable {K : PySem.W.Frag} {E : Ent} {M : Hp} {n : Nat} {B H : Hp} {bxs : List Addr} {σ : L2.St} {ρ : DEnv} {ms : MS} {a : Addr} {xs : List PyData}
theorem mx_fact (h : MX K E M n B H bxs σ ρ ms) (x : ExT K B a xs) : MX K E M n B H bxs σ ρ (tupF a xs :: ms) :=
  ⟨h.sv, ⟨h.ok.at_, h.ok.en, fun m hm => by
    rcases List.mem_cons.mp hm with rfl | hm
    · exact x
    · exact h.ok.rl m hm, h.ok.nd⟩, h.ow⟩
theorem MX.fact (h : MX K E M n B H bxs σ ρ ms) (hm : tupF a xs ∈ ms) : ExT K B a xs := h.ok.rl _ hm
theorem MX.envD (h : MX K E M n B H bxs σ ρ ms) {i : Nat} {x : PyData} (hi : ρ[i]? = some (some (.obj a))) (dx : Dl.Dp K B (.ref a) x) : EnvR K bxs n B H σ (ρ.set i (some (.d x))) := by
  have il : i < ρ.length := (List.getElem?_eq_some_iff.mp hi).1
  obtain ⟨u, hu, vu⟩ := h.sv.env.val i _ hi
  have eu : u = .ref a := vu
  subst eu
  refine ⟨by rw [List.length_set]; exact h.sv.env.len, fun j r hr => ?_, fun j k r r' b h1 h2 o1 o2 h3 h4 => ?_, fun j r hr => ?_⟩
  · by_cases c : i = j
    · subst c
      rw [List.getElem?_set_self il] at hr
      cases hr
      exact ⟨.ref a, hu, dx⟩
    · rw [List.getElem?_set_ne c] at hr
      exact h.sv.env.val j r hr
  · have old : ∀ (j : Nat) (r : RV), isOwn r → (ρ.set i (some (.d x)))[j]? = some (some r) → ρ[j]? = some (some r) := fun j r o z => by
      by_cases c : i = j
      · subst c
        rw [List.getElem?_set_self il] at z
        cases z
        exact o.elim
      · rw [List.getElem?_set_ne c] at z
        exact z
    exact h.sv.env.own j k r r' b (old j r o1 h1) (old k r' o2 h2) o1 o2 h3 h4
  · by_cases c : i = j
    · subst c
      rw [List.getElem?_set_self il] at hr
      cases hr
      trivial
    · rw [List.getElem?_set_ne c] at hr
      exact h.sv.env.ok j r hr
end
/-! tuple(a list) -/
section
variable {X : Cx} {E : Ent}
noncomputable def rTupX (K : PySem.W.Frag) : List V → Hp → VK → Prop := fun xs H Q => ∃ p ys, xs = [.ref p] ∧ SqL K H p ys ∧ ∀ l o its n, H l = none → o.cls = .type "tuple" → o.dict = none → o.data = .seq its n → Q (.ref l) (upd H l (.frz o (.tup ys)))
theorem call_tupX : CallR X (.type "tuple") (rTupX X.K) := by
  intro pins s σ H xs us Q I r h
  obtain ⟨p, ys, rfl, hq, q⟩ := h
  obtain ⟨u, rfl, rx⟩ := vals1 r
  cases rx
  obtain ⟨its, r', pl, hz⟩ := I.list hq
  have hlen := r'.length
  refine call_tuple_list pl.isList (fun h' kp => ?_) (by simp only [List.size_toArray]; omega)
  have I1 : Inv X pins σ H { s with heap := h' } := I.kept (t' := s.toks) kp
  have hg : (h'.push { cls := .type "tuple", data := .seq its.toArray }).get? h'.objs.size = some { cls := .type "tuple", data := .seq its.toArray } := Heap.get?_push_size _ rfl
  have I2 : Inv X pins σ (upd H h'.objs.size (.frz { cls := .type "tuple", data := .seq its.toArray } (.tup ys))) { s with heap := h'.push { cls := .type "tuple", data := .seq its.toArray } } :=
    I1.laid (t' := s.toks) (fun b o e => Heap.get?_push_of_some _ e) (Nat.le_refl _) ⟨hg, hz, its, r', IsTup.new _ _⟩
  exact ⟨.ref h'.objs.size, _, I2, rfl, q _ _ its.toArray 0 (I1.hok.fresh (Nat.le_refl _)) rfl rfl rfl⟩
noncomputable def dTupX (wr : DAM) : DEM := fun ρ ms n Q => wr ρ ms n fun rs ms1 n1 => ∃ xs, rs = [.d (.list xs)] ∧ ∀ a, Q (.obj a) (tupF a xs :: ms1) n1
theorem lem_tupX {p pos : Pos} {e : Expr} {wr : DAM} (hg : Gl X "tuple") (hm : X.mg "tuple" = none) (hv : bootBuiltins "tuple" = some (.type "tuple")) (ha : LAM X E [e] wr)
    (he : starEach [e] X.env = (false, eval e X.env) :: starEach [] X.env := by rfl) (hpl : (backTo pos (starEach [] X.env)).any (·.1) = false := by rfl) : LEM X E (.Call (.Name "tuple" p) [e] [] pos) (dTupX wr) :=
  pe_imp (pe_callTy call_tupX hg hm hv ha (by decide) (by decide) he hpl) fun σ H Q hu => by
    obtain ⟨ρ, ms, n, B, M, bxs, Qd, h, w1, q⟩ := hu
    refine ⟨ρ, ms, n, B, M, bxs, _, h, w1, fun rs ms1 n1 vs B1 H1 hq h1 sb vr => ?_⟩
    obtain ⟨xs, rfl, hq⟩ := hq
    cases vs with
    | nil => exact vr.elim
    | cons v vs =>
      cases vs with
      | cons _ _ => exact vr.2.elim
      | nil =>
        obtain ⟨p', us, rfl, h2, h3⟩ := DpV.list (H := H1) (.inl vr.1) h1.sv.g.sub
        refine ⟨p', us, rfl, h2, fun l o its n2 hl c1 c2 c3 => ?_⟩
        have sl : Step bxs n1 n1 B1 H1 (upd B1 l (.frz o (.tup us))) (upd H1 l (.frz o (.tup us))) := h1.sv.g.refl.lay h1.sv.g hl
        exact q _ _ _ _ _ _ (hq l) (mx_fact (h1.step sl) ⟨o, us, its, n2, upd_same, c1, c2, c3, dpSameAll sl.b1 _ _ h3⟩) (sb.trans sl.b1) rfl
/-! such a tuple read as data -/
noncomputable def dAsT (i : Nat) (w : DE) : DEM := fun ρ ms n Q => ∃ a xs, ρ[i]? = some (some (.obj a)) ∧ tupF a xs ∈ ms ∧ w (ρ.set i (some (.d (.tuple xs)))) n fun r n1 => okM r fun r' => Q r' ms n1
noncomputable def dAsTT (i : Nat) (w : DT) : DTM := fun ρ ms n Q => ∃ a xs, ρ[i]? = some (some (.obj a)) ∧ tupF a xs ∈ ms ∧ w (ρ.set i (some (.d (.tuple xs)))) n fun b n1 => Q b ms n1
noncomputable def dDatM (w : DEM) : DEM := fun ρ ms n Q => w ρ ms n fun r ms1 n1 => ∃ a xs, r = .obj a ∧ tupF a xs ∈ ms1 ∧ Q (.d (.tuple xs)) ms1 n1
/-! dict(such a tuple) -/
noncomputable def rDictT (X : Cx) : List V → Hp → VK → Prop := fun xs H Q => ∃ p o vs its n B ps fl, xs = [.ref p] ∧ H p = some (.frz o (.tup vs)) ∧ o.cls = .type "tuple" ∧ o.dict = none ∧ o.data = .seq its n ∧ Same B H ∧ Dl.DpAll X.K B vs (ps.map pairD) ∧ (∀ q ∈ ps, ckOk fl q.1) ∧ ps.length ≤ sizeLine ∧
  ∀ q l, H q = none → RelA X.K B l (foldA ps) → Q (.ref q) (upd H q (dO X.prog X.w fl q l))
theorem call_dictT (hc : X.calm = true) (hu : X.A.units + 65 < cLine) : CallR X (.type "dict") (rDictT X) := by
  intro pins s σ H xs us Q I r h
  obtain ⟨p, o, vs, its0, n0, B, ps, fl, rfl, hp, c1, c2, c3, sb, dp, ok, hn, q⟩ := h
  obtain ⟨u, rfl, rx⟩ := vals1 r
  cases rx
  obtain ⟨ds, e1, e2, e3⟩ := items_of I sb dp
  have hl : ps.length = ds.length := by rw [e2, List.length_map]
  have ok' : ∀ d ∈ ds, ckOk fl d.k := fun d hd => ok (d.k, d.y) (by rw [e2]; exact List.mem_map.mpr ⟨d, hd, rfl⟩)
  have rA := item_rel ds [] [] e3 .nil
  rw [← e2] at rA
  have ln := fold_len ds []
  rw [List.length_nil, Nat.zero_add] at ln
  let Ts : Nat → Addr := fun j => (ds[j]?.map (·.T)).getD 0
  obtain ⟨its, T, P, hit⟩ : ∃ (its : Array Value) (T : String), PairArg X.prog X.w T p (p :: (List.range (ds.map fun d => (d.ku, d.vu)).length).map Ts) [] (ds.map fun d => (d.ku, d.vu)).length (PairRel (ds.map fun d => (d.ku, d.vu))) (fun h => PlainSeq T h p its ∧ PairItems h its Ts (ds.map fun d => (d.ku, d.vu))) ∧
      (PlainSeq T s.heap p its ∧ PairItems s.heap its Ts (ds.map fun d => (d.ku, d.vu))) := by
    have pit : ∀ its : List Value, Vals vs its → PairItems s.heap its.toArray Ts (ds.map fun d => (d.ku, d.vu)) := fun its rv => by
      refine ⟨by rw [List.size_toArray, ← rv.length, e1, List.length_map, List.length_map], fun j k v hj => ?_⟩
      rw [List.getElem?_map] at hj
      cases hd : ds[j]? with
      | none => rw [hd] at hj; cases hj
      | some d =>
        rw [hd] at hj
        cases hj
        have hT : Ts j = d.T := by show (ds[j]?.map (·.T)).getD 0 = _; rw [hd]; rfl
        rw [hT]
        obtain ⟨u, hu2, ru⟩ := rv.get (i := j) (x := .ref d.T) (by rw [e1, List.getElem?_map, hd]; rfl)
        cases ru
        exact ⟨by rw [List.getElem?_toArray]; exact hu2, (e3 d (List.mem_of_getElem? hd)).at_⟩
    obtain ⟨ho, hz, its, rv, ⟨o2, ho2, hcl, n2, hdt⟩⟩ := (show ObjOk X.prog X.w H s.heap p (.frz o (.tup vs)) from I.hok p _ hp)
    rw [ho] at ho2
    cases ho2
    exact ⟨its.toArray, "tuple", PairArg.tuple _ _ _ _, ⟨⟨o, n2, ho, c1, c2, hdt⟩, pit its rv⟩⟩
  have nS : H s.heap.objs.size = none := I.hok.fresh (Nat.le_refl _)
  have sS : (s.heap.objs.size == sysModules) = false := beq_eq_false_iff_ne.mpr (Ne.symm (Nat.ne_of_lt I.big))
  have kl : (ds.map fun d => (d.ku, d.vu)).length ≤ sizeLine := by rw [List.length_map]; omega
  cases fl with
  | false =>
    refine call_dict_pairs (knd := mixKind X.prog X.w) (kvs := ds.map fun d => (keyL d.k, d.vu)) P (I.ok.hd hc) hit ⟨by rw [List.length_map, List.length_map], fun i key v hr => ?_⟩ kl fun h' tk dd kp => ?_
    · have hr : (ds.map fun d => (d.ku, d.vu))[i]? = some (key, v) := hr
      rw [List.getElem?_map] at hr
      cases hd : ds[i]? with
      | none => rw [hd] at hr; cases hr
      | some d =>
        rw [hd] at hr
        cases hr
        refine ⟨keyL d.k, by rw [List.getElem?_map, hd]; rfl, ?_⟩
        have hm := List.mem_of_getElem? hd
        have o1 := e3 d hm
        have o2 := ok' d hm
        cases ek : d.k with
        | inr k => rw [ek] at o2; exact o2.elim
        | inl k =>
          have dk := o1.dk
          rw [ek] at dk
          have e := kD_dp dk
          have rk := o1.rk
          rw [e] at rk
          exact kV_is rk
    · exact ⟨.ref s.heap.objs.size, _, I.laid (t' := tk) (fun b o e => kp b o (fun z => nomatch z) e) (Nat.le_refl _) (dO_ok ⟨by omega, sS, .inl ⟨rfl, _, item_relL ds [] [] e3 ok' .nil, dd⟩⟩), rfl, q _ _ nS rA⟩
  | true =>
    obtain ⟨as, has⟩ : ∃ as : DItem → Addr, ∀ d ∈ ds, d.kv = .ref (as d) := by
      refine ⟨fun d => match d.kv with | .ref a => a | _ => 0, fun d hd => ?_⟩
      have o1 := (e3 d hd).dk
      have o2 := ok' d hd
      cases ek : d.k with
      | inl k => rw [ek] at o2; exact o2.elim
      | inr k =>
        rw [ek] at o1
        obtain ⟨b, eb⟩ := cpd_ref o1
        dsimp only
        rw [eb]
    have key_is : ∀ d ∈ ds, (nestedKind X.prog X.w).is s.heap (keyN d.k) (as d) := fun d hd => by
      have o1 := (e3 d hd).dk
      have o2 := ok' d hd
      cases ek : d.k with
      | inl k => rw [ek] at o2; exact o2.elim
      | inr k =>
        rw [ek, has d hd] at o1
        exact key_in I (dpSame sb _ _ o1)
    refine call_dict_pairsH (knd := nestedKind X.prog X.w) (ps := ds.map fun d => (keyN d.k, as d, d.vu)) P (I.ok.hd hc) (show X.A.in1.in1.units + 8 < cLine from by show X.A.units + 2 + 8 < cLine; omega) hit ⟨by rw [List.length_map, List.length_map], fun i key v hr => ?_⟩ (fun h' hk x hx => ?_) kl fun h' tk dd kp => ?_
    · have hr : (ds.map fun d => (d.ku, d.vu))[i]? = some (key, v) := hr
      rw [List.getElem?_map] at hr
      cases hd : ds[i]? with
      | none => rw [hd] at hr; cases hr
      | some d =>
        rw [hd] at hr
        cases hr
        have hm := List.mem_of_getElem? hd
        refine ⟨keyN d.k, as d, by rw [List.getElem?_map, hd]; rfl, ?_⟩
        have rk := (e3 d hm).rk
        rw [has d hm] at rk
        exact rk
    · obtain ⟨d, hd, rfl⟩ := List.mem_map.mp hx
      exact nestedKind_stays.stays (fun b o vs n e _ => hk b o (Nat.ne_of_lt (Heap.lt_size e)) (fun z => nomatch z) e) (key_is d hd)
    · exact ⟨.ref s.heap.objs.size, _, I.laid (t' := tk) (fun b o e => kp b o (fun z => nomatch z) e) (Nat.le_refl _) (dO_ok ⟨by omega, sS, .inr ⟨rfl, _, item_relN ds as [] [] (fun d hd => ⟨e3 d hd, has d hd⟩) ok' .nil, Shape.of dd⟩⟩), rfl, q _ _ nS rA⟩
noncomputable def dDictT (P : Program) (w : World) (i : Nat) : DEM := fun ρ ms n Q => ∃ a fl ps, ρ[i]? = some (some (.obj a)) ∧ tupF a (ps.map pairD) ∈ ms ∧ (∀ q ∈ ps, ckOk fl q.1) ∧ ps.length ≤ sizeLine ∧ ∀ b, Q (.obj b) (ownM b (dictL P w fl (foldA ps)) :: ms) n
theorem lem_dictT {x : Str} {p px pos : Pos} (P : Program) (w : World) (i : Nat) (hu : X.A.units + 65 < cLine) (hg : Gl X "dict") (hm : X.mg "dict" = none) (hv : bootBuiltins "dict" = some (.type "dict")) (ha : LE X (.Name x px) (dVar i)) (hc : X.calm = true := by rfl) (hP : X.prog = P := by rfl) (hw : X.w = w := by rfl)
    (he : starEach [.Name x px] X.env = (false, eval (.Name x px) X.env) :: starEach [] X.env := by rfl) (hpl : (backTo pos (starEach [] X.env)).any (·.1) = false := by rfl) : LEM X E (.Call (.Name "dict" p) [.Name x px] [] pos) (dDictT P w i) := by
  subst hP hw
  refine pe_imp (pe_callTy (call_dictT hc hu) hg hm hv (lam_cons (E := E) (lem_of (E := E) ha) lam_nil he) (by decide) (by decide) he hpl) fun σ H Q hu => ?_
  obtain ⟨ρ, ms, n, B, M, bxs, Qd, h, ⟨a, fl, ps, hi, hf, ok, hn, q1⟩, q⟩ := hu
  have hok : tupF a (ps.map pairD) ∈ ms := hf
  refine ⟨ρ, ms, n, B, M, bxs, fun rs ms1 n1 => rs = [.obj a] ∧ ms1 = ms ∧ n1 = n, h, ?_, fun rs ms1 n1 vs B1 H1 hq h1 sb vr => ?_⟩
  · unfold dConsM ofE dVar
    rw [hi]
    exact ⟨rfl, rfl, rfl⟩
  · obtain ⟨rfl, rfl, rfl⟩ := hq
    cases vs with
    | nil => exact vr.elim
    | cons v vs =>
      cases vs with
      | cons _ _ => exact vr.2.elim
      | nil =>
        have ev : v = .ref a := vr.1
        subst ev
        obtain ⟨o, us, its, n2, e, c1, c2, c3, dd⟩ := h1.fact hok
        refine ⟨a, o, us, its, n2, B1, ps, fl, rfl, h1.sv.g.sub _ _ e, c1, c2, c3, h1.sv.g.sub, dd, ok, hn, fun b l hb rl => ?_⟩
        have fb := freshB h1.sv.g hb
        exact q _ _ _ _ _ _ (q1 b) (mx_lay (T := dictL X.prog X.w fl (foldA ps)) h1 hb ⟨l, rfl, rl⟩) sb rfl
/-! x, y, z = a, b, c over objects -/
noncomputable def dPar3M (i j l : Nat) (wa wb wc : DEM) : DSM := fun D ρ ms n => wa ρ ms n fun r1 ms1 n1 => stM r1 fun r1' => wb ρ ms1 n1 fun r2 ms2 n2 => stM r2 fun r2' => wc ρ ms2 n2 fun r3 ms3 n3 => setM r1' fun s1 => setM r2' fun s2 => setM r3 fun s3 => D.nx (((ρ.set i (some s1)).set j (some s2)).set l (some s3)) ms3 n3
end
end Dl

namespace Dl
open PySem PySem.Spec PyProof.Rows L2
/-! ### y = an own thing made of a tuple that is known to the object -/
noncomputable def dSetAsT (i j : Nat) (w : DE) : DSM := fun D ρ ms n => ∃ a xs, ρ[i]? = some (some (.obj a)) ∧ tupF a xs ∈ ms ∧ w (ρ.set i (some (.d (.tuple xs)))) n fun r n1 => isOwn r ∧ D.nx (ρ.set j (some r)) ms n1
section
variable {X : Cx} {E : Ent}
theorem lsm_setAsT {x : Str} {e : Expr} {pos pos' : Pos} {we : DE} (i j : Nat) (hN : X.N.Nodup) (he : LE X e we) (hi : X.N[j]? = some x := by rfl) (hx : Loc X.env.scope x := by first | exact Or.inl rfl | exact Or.inr rfl) (hs : swapsWith e (some (.Name x pos')) pos.line X.env = pure false := by rfl)
    (hf : X.fn x = true ∨ X.env.scope.names.lookup x = some .local := by first | exact .inl rfl | exact .inr rfl | assumption) : LSM X E (.Assign [.Name x pos'] e pos) (dSetAsT i j we) := ps_imp (ps_set hN hi hx he hs hf) fun D σ H hu => by
  obtain ⟨ρ, ms, n, B, M, bxs, Dd, h, ⟨a, xs, ha, hm, w1⟩, q⟩ := hu
  refine ⟨_, n, B, bxs, _, h.sv.g, h.envD ha (h.fact hm).dp, w1, fun r n1 v B1 H1 hq s1 vr fr => ?_⟩
  obtain ⟨ow, hq⟩ := hq
  exact q.nx _ _ _ _ _ _ _ (h.outer (own_inv (i := j) ow h.inner s1 vr fr)) hq
end
end Dl

namespace Dl
open PySem PySem.Spec PyProof.Rows L2 PySem.W
/-! ### pairs of ints: their order, sorted, sorted(set(..)) -/
noncomputable def ip (p : Int × Int) : PyData := .tuple [.int p.1, .int p.2]
noncomputable def ltP (p q : Int × Int) : Bool := decide (p.1 < q.1) || (decide (p.1 = q.1) && decide (p.2 < q.2))
section
variable {X : Cx}
theorem two_vals {i j : Int} {us : List Value} (r : Vals [V.int i, V.int j] us) : ∃ t u, us = [.int i t, .int j u] := by
  cases r with
  | cons r1 r => cases r with
    | cons r2 r =>
      cases r
      obtain ⟨t, rfl⟩ := r1
      obtain ⟨u, rfl⟩ := r2
      exact ⟨t, u, rfl⟩
theorem beq_dec (a b : Int) : (a == b) = decide (a = b) := by
  cases h : a == b with
  | true => rw [decide_eq_true (beq_iff_eq.mp h)]
  | false => rw [decide_eq_false (beq_eq_false_iff_ne.mp h)]
noncomputable def wLtP : DOp := fun x y Q => match x, y with
  | .tuple [.int a, .int b], .tuple [.int c, .int d] => Q (.d (.bool (ltP (a, b) (c, d))))
  | _, _ => False
/-! their order as data -/
theorem lt_ip (p q : Int × Int) : dataLt (ip p) (ip q) = ltP p q := by
  unfold ip
  rw [dataLt_pair (by rfl) (by rfl), dataLt_int, dataLt_int]
  unfold ltP
  simp only [PyData.eqv, beq_dec]
  by_cases e1 : p.1 = q.1
  · by_cases e2 : p.2 = q.2
    · simp [e1, e2]
    · simp [e1, e2]
  · simp [e1]
theorem ips_alike (ks : List (Int × Int)) : AllAlike ((ks.map ip).map id) := by
  rw [List.map_id]
  exact AllAlike.of fun _ _ => by simp [ip, PySem.W.alike, alikeAll]
theorem ips_sortable (ks : List (Int × Int)) : PySem.W.Sortable ((ks.map ip).map id) := by
  rw [List.map_id]
  exact Sortable.tuples fun _ => ⟨_, _, rfl⟩
theorem reads_ip {pins : List (Addr × Obj)} {σ : L2.St} {H B : Hp} {s : Shared} (I : Inv X pins σ H s) (sb : Same B H) {k : Int × Int} {u : Value} (h : ∃ v, RelV v u ∧ Dl.Dp X.K B v (ip k)) : Reads s.heap u (ip k) [] := by
  obtain ⟨v, r, h⟩ := h
  obtain ⟨b, vs, rfl, s1, s2⟩ := DpV.tuple (H := H) (show DpV X.K B H _ (.tuple [.int k.1, .int k.2]) from .inl h) sb
  cases r
  obtain ⟨its, rr, ⟨o, e, hc, n, hdt⟩, _⟩ := I.tuple s1
  cases s2 with
  | cons q1 s3 => cases s3 with
    | cons q2 s4 =>
      cases s4; cases q1; cases q2
      obtain ⟨t1, t2, rfl⟩ := two_vals rr
      exact .tuple (as := []) e hc hdt (.cons (as := []) (bs := []) (.int _ _) (.cons (as := []) (bs := []) (.int _ _) .nil))
theorem each_of {K : PySem.W.Frag} {B : Hp} : ∀ {vs : List V} {us : List Value} {ds : List PyData}, Vals vs us → Dl.DpAll K B vs ds → EachD K B us ds
  | [], _, _, r, h => by cases r; cases h; exact .nil
  | v :: vs, _, _, r, h => by
    cases r with
    | cons r1 r => cases h with
      | cons h1 h => exact .cons ⟨v, r1, h1⟩ (each_of r h)
noncomputable def rSortL (K : PySem.W.Frag) : List V → Hp → VK → Prop := fun xs H Q => ∃ (p : Addr) (us : List V) (B : Hp) (ks : List (Int × Int)), xs = [.ref p] ∧ SqL K H p us ∧ Same B H ∧ Dl.DpAll K B us (ks.map ip) ∧ ∀ z vs, H z = none → Dl.DpAll K B vs (sortD (ks.map ip)) → Q (.ref z) (upd H z (.lst vs))
theorem call_sortL (hu : X.A.units + 65 < cLine) : CallR X (.builtin "sorted") (rSortL X.K) := by
  intro pins s σ H xs us0 Q I r h
  obtain ⟨p, us, B, ks, rfl, hp, sb, hd, q⟩ := h
  obtain ⟨u, rfl, rx⟩ := vals1 r
  cases rx
  obtain ⟨its, r1, pl, hz⟩ := I.list hp
  have ee := each_of r1 hd
  have hn : (ks.map ip).length ≤ sizeLine := by rw [← dpLen _ _ hd]; exact hz
  refine sorted_data (enc := id) (R := fun u d => ∃ v, RelV v u ∧ Dl.Dp X.K B v d) pl.isList ee ((each_mem ee).mono fun u d z => ?_) (ips_alike ks) (ips_sortable ks) hn (fun d hd => ?_) fun out lo eo => ?_
  · obtain ⟨k, _, e⟩ := List.mem_map.mp z.2
    subst e
    exact ⟨[], reads_ip I sb z.1⟩
  · obtain ⟨k, _, rfl⟩ := List.mem_map.mp hd
    show _ + 2 + 1 < _
    omega
  · have eo : EachIs (fun u d => ∃ v, RelV v u ∧ Dl.Dp X.K B v d) out (sortD (ks.map ip)) := eo
    obtain ⟨vs, v1, v2⟩ := each_dp eo
    obtain ⟨c, hc⟩ := sortedAll_at s.heap its out.toArray
    have hfr : H (s.heap.objs.size + 1) = none := I.hok.fresh (Nat.le_succ _)
    have hlen : vs.length ≤ sizeLine := by
      rw [v1.length, lo]
      exact hn
    have J : Inv X pins σ (upd H (s.heap.objs.size + 1) (.lst vs)) { s with heap := sortedAll s.heap its out.toArray } := I.laid (t' := s.toks) (fun b o e => sortedAll_old e) (Nat.le_succ _) ⟨hlen, out, c, v1, hc⟩
    exact ⟨.ref (s.heap.objs.size + 1), _, J, rfl, q _ vs hfr v2⟩
noncomputable def wSortL : DCall := fun xs Q => match xs with
  | [.list yd] => ∃ ks : List (Int × Int), yd = ks.map ip ∧ Q (.new (sortD (ks.map ip)))
  | _ => False
theorem lc_sortL (hu : X.A.units + 65 < cLine) : LCall X (.builtin "sorted") wSortL := by
  refine ⟨_, call_sortL hu, fun bxs n B H xs vs Qd Q g hv w k => ?_⟩
  unfold wSortL at w
  split at w
  · obtain ⟨v, rfl, dx⟩ := dpvs1 hv
    obtain ⟨p, us, rfl, h1, h2⟩ := dx.list g.sub
    obtain ⟨ks, e, w⟩ := w
    subst e
    refine ⟨p, us, B, ks, rfl, h1, g.sub, h2, fun z vs nz dz => ?_⟩
    have fb := freshB g nz
    exact k _ _ _ _ w (g.refl.lay0 nz) ⟨z, _, rfl, fb.1, fb.2, upd_same, dz⟩ ⟨z, rfl, nz⟩
  · exact w.elim
end
end Dl

namespace Dl
open PySem PySem.Spec PyProof.Rows L2 PySem.W
/-! ### sorted(set(pairs of ints)) -/
section
variable {X : Cx}
noncomputable def wSortSetP : DCall := fun xs Q => match xs with
  | [.list yd] => yd.length < 64 ∧ ∃ ks : List (Int × Int), yd = ks.map ip ∧ Q (.new (sortD ((metL ks).map ip)))
  | [.tuple yd] => yd.length < 64 ∧ ∃ ks : List (Int × Int), yd = ks.map ip ∧ Q (.new (sortD ((metL ks).map ip)))
  | _ => False
end
end Dl

namespace Dl
open PySem PySem.Spec PyProof.Rows L2
/-! ### {e for a in x for b in y}, without tests -/
section
variable {prog : Program} {w : World} {A : Around} {R : Result → Shared → Prop} {s : Shared} {el t0 i0 t1 i1 : Expr} {sc : Scope} {pos : Pos} {it acc : Value} {en : Env}
end
section
variable {X : Cx}
end
end Dl

namespace Dl
open PySem PySem.Spec PyProof.Rows L2
/-! ### len({e for a in x for b in y}), at data level -/
/-- a set with just these members, so many -/
noncomputable def setX (P : Program) (w : World) (S : Key → Bool) (m : Nat) : OwnT where
  rel := fun _ _ a o => o = SetK P w a S m
  mono := fun _ h => h
/-- the thing under way at D -/
structure KSt (bxs : List Addr) (n : Nat) (B H B1 : Hp) (D : Addr) (o : HO) (nc : Nat) (Bc Hc : Hp) : Prop where
  st : Step bxs n nc B H Bc (L2.del Hc D)
  sb : Same B1 Bc
  bD : Bc D = none
  hD : Hc D = some o
section
variable {K : PySem.W.Frag} {bxs : List Addr} {n nc n2 : Nat} {B H B1 Bc Hc B2 H2 : Hp} {D : Addr} {o o' : HO} {σ : L2.St} {ρ : DEnv}
theorem KSt.step (L : KSt bxs n B H B1 D o nc Bc Hc) (nD : D ∉ bxs) (s : Step bxs nc n2 Bc Hc B2 H2) : KSt bxs n B H B1 D o n2 B2 H2 := by
  have b2 : B2 D = none := by rw [s.b3 D (ne_none_of L.hD)]; exact L.bD
  exact ⟨L.st.trans (s.del nD b2), L.sb.trans s.b1, b2, s.h1 D _ nD L.hD⟩
theorem KSt.env (L : KSt bxs n B H B1 D o nc Bc Hc) (e : EnvR K bxs n B H σ ρ) : EnvR K bxs nc Bc Hc σ ρ := (e.step L.st).undel
theorem KSt.put (L : KSt bxs n B H B1 D o nc Bc Hc) : KSt bxs n B H B1 D o' nc Bc (L2.upd Hc D o') := ⟨by rw [del_upd2]; exact L.st, L.sb, L.bD, upd_same⟩
theorem KSt.whole (L : KSt bxs n B H B1 D o nc Bc Hc) : Step bxs n nc B H Bc Hc where
  b1 := L.st.b1
  b2 := fun c o h => (of_del (L.st.b2 c o h)).2
  b3 := L.st.b3
  h1 := fun a o ha h => (of_del (L.st.h1 a o ha h)).2
  bx := fun b hb => (L.st.bx b hb).keep fun o h => (of_del h).2
  nn := L.st.nn
end
noncomputable def dLenX (P : Program) (w : World) (we : DE) : DE := fun ρ n Q => we ρ n fun r n1 => ∃ S m, r = .own (setX P w S m) ∧ Q (.d (.int (m : Int))) n1
section
variable {X : Cx} {elt tg iter tg1 iter1 : Expr} {scope : Scope} {own : List (Str × Nat)} {us us1 vs1 : List Nat} {pos : Pos} {wi wi1 : DI} {wg wg1 : DG} {we : DE}
end
end Dl

namespace Dl
open PySem PySem.Spec PyProof.Rows L2
/-! ### defs of the M-kind called by names -/
structure DefMK (P : Program) (w : World) (K : PySem.W.Frag) (mg : Str → Option Value) (base : Heap) (k : Nat) (x : Str) (ps : List Str) (st : Stmt) (c : DSpM) : Prop where
  ex : ∃ (f : Addr) (fd : FuncData), FnG P w K mg base k f fd ps (liftM K c) ∧ mg x = some (.ref f) ∧ Fun K x x st f fd
noncomputable def dCallKM (idx : List Nat) (c : DSpM) (wr : DAM) : DEM := fun ρ ms n Q => wr ρ ms n fun rs ms1 n1 => ∃ ma mb, ms1.Perm (ma ++ mb) ∧ argsIn (pick idx rs) ∧ c (pick idx rs) ma n1 fun r ma' n2 => Q r (ma' ++ mb) n2
section
variable {X : Cx} {E : Ent} {a : Expr} {wa : DEM} {wr wk : DAM} {kws : List Keyword} {nm : Option Str} {kpos : Pos}
end
end Dl

namespace Dl
open PySem PySem.Spec PyProof.Rows L2
/-! ### lists made as objects: [..] and x + [..] -/
noncomputable def dLstO (wr : DAM) : DEM := fun ρ ms n Q => wr ρ ms n fun rs ms1 n1 => onO (datas rs) fun xs => xs.length ≤ sizeLine ∧ ∀ a, Q (.obj a) (ownM a (listO xs) :: ms1) n1
noncomputable def dAddO (wa wb : DEM) : DEM := fun ρ ms n Q => wa ρ ms n fun r1 ms1 n1 => ∃ st, r1 = .obj st ∧ wb ρ ms1 n1 fun r2 ms2 n2 => ∃ xs ys, r2 = .d (.list ys) ∧ ownM st (listO xs) ∈ ms2 ∧ xs.length + ys.length ≤ sizeLine ∧ ∀ z, Q (.obj z) (ownM z (listO (xs ++ ys)) :: ms2) n2
section
variable {X : Cx} {E : Ent} {a b : Expr} {es : List Expr} {wa wb : DEM} {wr : DAM} {pos : Pos}
end
end Dl

namespace Dl
open PySem PySem.Spec PyProof.Rows L2 PySem.W
/-! ### exact tuples of displays and sums -/
section
variable {X : Cx} {es : List Expr} {t : TA} {pos : Pos}
noncomputable def tTupX (t : TA) : TE := fun σ H Q => t σ H fun xs H1 => xs.length ≤ sizeLine ∧ ∀ l o its n, H1 l = none → o.cls = .type "tuple" → o.dict = none → o.data = .seq its n → Q (.ref l) (upd H1 l (.frz o (.tup xs)))
theorem pe_tupX {x1} (h : PA X es t) : PE X (.Tuple es x1 pos) (tTupX t) := by
  refine ⟨fun pins s σ H Q I hq => ?_⟩
  refine wpAny_Tuple_spliced (thn (h.run pos pins s σ H _ I hq) fun us s1 ⟨xs, H1, I1, r, z, q⟩ => ⟨by rw [← r.length]; exact z, ?_⟩)
  have hf : H1 s1.heap.objs.size = none := I1.hok.fresh (Nat.le_refl _)
  have hg : (s1.heap.push { cls := .type "tuple", data := .seq us.toArray }).get? s1.heap.objs.size = some { cls := .type "tuple", data := .seq us.toArray } := Heap.get?_push_size _ rfl
  refine ⟨.ref s1.heap.objs.size, upd H1 s1.heap.objs.size (.frz { cls := .type "tuple", data := .seq us.toArray } (.tup xs)), I1.laid (t' := s1.toks) (fun b u e => Heap.get?_push_of_some _ e) (Nat.le_refl _) ⟨hg, z, us, r, ⟨_, hg, rfl, _, rfl⟩⟩, rfl, q _ _ us.toArray 0 hf rfl rfl rfl⟩
noncomputable def rCatX (K : PySem.W.Frag) : R2 := fun x y H Q => ∃ a b xs ys, x = .ref a ∧ y = .ref b ∧ SqT K H a xs ∧ SqT K H b ys ∧ xs ≠ [] ∧ ys ≠ [] ∧ xs.length + ys.length ≤ sizeLine ∧
  ∀ l o its n, H l = none → o.cls = .type "tuple" → o.dict = none → o.data = .seq its n → Q (.ref l) (upd H l (.frz o (.tup (xs ++ ys))))
theorem op_catX : OpR X (binaryOp .Add) (rCatX X.K) := by
  intro pins s σ H x y v u Q I rx ry h
  obtain ⟨a, b, xs, ys, rfl, rfl, ha, hb, hx, hy, hz, q⟩ := h
  cases rx
  cases ry
  obtain ⟨its, r1, p1, _⟩ := I.tuple ha
  obtain ⟨its2, r2, p2, _⟩ := I.tuple hb
  refine HT.cat_tup p1 p2 (fun z => hx (r1.nil_iff.mp z)) (fun z => absurd (r2.nil_iff.mp z) hy) (fun z => ?_) (by rw [← r1.length, ← r2.length]; exact hz)
  refine ⟨.ref s.heap.objs.size, _, I.laid (t' := s.toks) (o := .frz _ (.tup (xs ++ ys))) (fun b ob q => Heap.get?_push_of_some _ q) (Nat.le_refl _) ⟨Heap.get?_push_size _ rfl, by rw [List.length_append]; exact hz, _, r1.append r2, IsTup.new _ _⟩, rfl, q _ _ _ 0 (I.hok.fresh (Nat.le_refl _)) rfl rfl rfl⟩
end
noncomputable def dCatX (wa wb : DEM) : DEM := fun ρ ms n Q => wa ρ ms n fun r1 ms1 n1 => ∃ a, r1 = .obj a ∧ wb ρ ms1 n1 fun r2 ms2 n2 => ∃ b xs ys, r2 = .obj b ∧ tupF a xs ∈ ms2 ∧ tupF b ys ∈ ms2 ∧ ys ≠ [] ∧ xs.length + ys.length ≤ sizeLine ∧ ∀ z, Q (.obj z) (tupF z (xs ++ ys) :: ms2) n2
section
variable {X : Cx} {E : Ent} {a b : Expr} {wa wb : DEM} {pos : Pos}
/-- x + y of two exact tuples, y not empty -/
theorem lem_catX (ha : LEM X E a wa) (hb : LEM X E b wb) : LEM X E (.BinOp a .Add b pos) (dCatX wa wb) := pe_imp (pe_op (OpR.or op_catX op_catA) ha hb) fun σ H Q hu => by
  obtain ⟨ρ, ms, n, B, M, bxs, Qd, h, w1, q⟩ := hu
  refine ⟨ρ, ms, n, B, M, bxs, _, h, w1, fun r ms1 n1 v B1 H1 hq h1 sb vr => ?_⟩
  obtain ⟨a, rfl, hq⟩ := hq
  refine ⟨ρ, ms1, n1, B1, M, bxs, _, h1, hq, fun r2 ms2 n2 u B2 H2 hq2 h2 sb2 vr2 => ?_⟩
  obtain ⟨b, xs, ys, rfl, hm1, hm2, hy, hl, hq2⟩ := hq2
  cases vr
  cases vr2
  have f2 := h2.fact hm2
  obtain ⟨o1, v1, i1, k1, e1, c1, d1, s1, da1⟩ := h2.fact hm1
  obtain ⟨o2, v2, i2, k2, e2, c2, d2, s2, da2⟩ := h2.fact hm2
  have l1 := dpLen _ _ da1
  have l2 := dpLen _ _ da2
  have q1 : SqT X.K H2 a v1 := .inl (.inr ⟨o1, h2.sv.g.sub a _ e1⟩)
  have q2 : SqT X.K H2 b v2 := .inl (.inr ⟨o2, h2.sv.g.sub b _ e2⟩)
  by_cases hx : xs = []
  · subst hx
    have hv : v1 = [] := List.eq_nil_of_length_eq_zero l1
    exact .inr ⟨a, b, v1, v2, rfl, rfl, q1, q2, by rw [l1, l2]; exact hl, fun _ => q _ _ _ _ _ _ (hq2 b) (mx_fact h2 f2) (sb.trans sb2) rfl, fun z => absurd hv z, fun z => absurd hv z⟩
  · have hv1 : v1 ≠ [] := fun z => hx (List.eq_nil_of_length_eq_zero (by rw [← l1, z]; rfl))
    have hv2 : v2 ≠ [] := fun z => hy (List.eq_nil_of_length_eq_zero (by rw [← l2, z]; rfl))
    refine .inl ⟨a, b, v1, v2, rfl, rfl, q1, q2, hv1, hv2, by rw [l1, l2]; exact hl, fun l o its n3 hl c1 c2 c3 => ?_⟩
    have sl : Step bxs n2 n2 B2 H2 (upd B2 l (.frz o (.tup (v1 ++ v2)))) (upd H2 l (.frz o (.tup (v1 ++ v2)))) := h2.sv.g.refl.lay h2.sv.g hl
    exact q _ _ _ _ _ _ (hq2 l) (mx_fact (h2.step sl) ⟨o, v1 ++ v2, its, n3, upd_same, c1, c2, c3, dpSameAll sl.b1 _ _ (dpApp _ _ _ _ da1 da2)⟩) ((sb.trans sb2).trans sl.b1) rfl
end
noncomputable def dTupD (wr : DAM) : DEM := fun ρ ms n Q => wr ρ ms n fun rs ms1 n1 => onO (datas rs) fun xs => xs.length ≤ sizeLine ∧ ∀ a, Q (.obj a) (tupF a xs :: ms1) n1
section
variable {X : Cx} {E : Ent} {es : List Expr} {wr : DAM} {pos : Pos}
theorem lem_tupD {x1} (h : LAM X E es wr) : LEM X E (.Tuple es x1 pos) (dTupD wr) := pe_imp (pe_tupX h) fun σ H Q hu => by
  obtain ⟨ρ, ms, n, B, M, bxs, Qd, h, w1, q⟩ := hu
  refine ⟨ρ, ms, n, B, M, bxs, _, h, w1, fun rs ms1 n1 vs B1 H1 hq h1 sb vr => ?_⟩
  obtain ⟨xs, ex, hl, hq⟩ := onO_ex hq
  have da := datas_r rs vs xs vr ex
  refine ⟨by rw [dpLen _ _ da]; exact hl, fun l o its n2 hl c1 c2 c3 => ?_⟩
  have sl : Step bxs n1 n1 B1 H1 (upd B1 l (.frz o (.tup vs))) (upd H1 l (.frz o (.tup vs))) := h1.sv.g.refl.lay h1.sv.g hl
  exact q _ _ _ _ _ _ (hq l) (mx_fact (h1.step sl) ⟨o, vs, its, n2, upd_same, c1, c2, c3, dpSameAll sl.b1 _ _ da⟩) (sb.trans sl.b1) rfl
end
end Dl

namespace Dl
open PySem PySem.Spec PyProof.Rows L2 PySem.W
/-! ### a list of objects, by their addresses: [..], .append, for -/
noncomputable def listA (as : List Addr) : OwnT where
  rel := fun _ _ _ o => o = .lst (as.map V.ref)
  mono := fun _ h => h
noncomputable def dLstA (wr : DAM) : DEM := fun ρ ms n Q => wr ρ ms n fun rs ms1 n1 => ∃ as, rs = as.map RV.obj ∧ as.length ≤ sizeLine ∧ ∀ p, Q (.obj p) (ownM p (listA as) :: ms1) n1
theorem objs_vs {K : PySem.W.Frag} {bxs : List Addr} {n : Nat} {B H : Hp} : ∀ {as : List Addr} {vs : List V}, ValsR K bxs n B H (as.map RV.obj) vs → vs = as.map V.ref
  | [], [], _ => rfl
  | [], _ :: _, h => h.elim
  | _ :: _, [], h => h.elim
  | a :: as, v :: vs, h => by
    have e : v = V.ref a := h.1
    rw [e, objs_vs (as := as) h.2]
    rfl
section
variable {X : Cx} {E : Ent} {a : Expr} {es : List Expr} {body : List Stmt} {wa : DEM} {wr : DAM} {w : DSM} {pos py : Pos} {y : Str}
theorem lem_lstA (h : LAM X E es wr) : LEM X E (.List es pos) (dLstA wr) := pe_imp (pe_lst h) fun σ H Q hu => by
  obtain ⟨ρ, ms, n, B, M, bxs, Qd, h, w1, q⟩ := hu
  refine ⟨ρ, ms, n, B, M, bxs, _, h, w1, fun rs ms1 n1 vs B1 H1 hq h1 sb vr => ?_⟩
  obtain ⟨as, rfl, hl, hq⟩ := hq
  have ev := objs_vs vr
  subst ev
  refine ⟨by rw [List.length_map]; exact hl, fun p hp => ?_⟩
  exact q _ _ _ _ _ _ (hq p) (mx_lay (T := listA as) h1 hp rfl) sb rfl
end
end Dl

namespace Dl
open PySem PySem.Spec PyProof.Rows L2 PySem.W
/-! ### y = xs.pop(i); .append of an object -/
noncomputable def dPopAt (i j : Nat) (we : DE) : DS := fun D ρ n => ∃ xs, ρ[i]? = some (some (.new xs)) ∧ we ρ n fun r n1 => ∃ (k : Nat) (y : PyData), r = .d (.int (k : Int)) ∧ xs[k]? = some y ∧ k < 2 ^ 62 ∧ D.nx ((ρ.set i (some (.new (xs.eraseIdx k)))).set j (some (.d y))) n1
noncomputable def dAppA (wo we : DEM) : DEM := fun ρ ms n Q => wo ρ ms n fun r ms1 n1 => ∃ a as, r = .obj a ∧ ownM a (listA as) ∈ ms1 ∧ we ρ ms1 n1 fun re ms2 n2 => ∃ b mr, re = .obj b ∧ ms2.Perm (ownM a (listA as) :: mr) ∧ as.length < sizeLine ∧ Q (.d .none) (ownM a (listA (as ++ [b])) :: mr) n2
section
variable {X : Cx} {E : Ent} {e o : Expr} {we : DE} {wo wa : DEM} {x y : Str} {pos p1 py apos cpos : Pos}
end
end Dl

namespace Dl
open PySem PySem.Spec PyProof.Rows L2
/-! ### asking a dict of pairs for a plain key: nothing is found -/
section
variable {prog : Program} {w : World} {A : Around} {E : Value → Shared → Prop} {s : Shared}
end
noncomputable def kyOk (fl : Bool) (k : CK) : Prop := fl = true ∨ ckOk fl k
theorem RelN.plain {l : List (CK × V × V)} {xs : List (NestedKey × Addr × Value)} (r : RelN l xs) (k : Key) : lookV l (.inl k) = none := by
  induction r with
  | nil => rfl
  | cons h _ ih =>
    rename_i p q l vs _
    obtain ⟨j, h1, _⟩ := h
    unfold lookV at ih ⊢
    rw [List.find?_cons, show decide (p.1 = Sum.inl k) = false from decide_eq_false (by rw [h1]; exact fun z => nomatch z)]
    exact ih
section
variable {X : Cx} {pins : List (Addr × Obj)} {σ : L2.St} {H : Hp} {s : Shared} {a : Addr} {fl : Bool} {l : List (CK × V × V)} {A : Around} {E : Value → Shared → Prop} {k : CK} {y z : V} {u r : Value}
end
section
variable {X : Cx} {o i e f value : Expr} {pos pos' apos cpos : Pos} {td ty tx tv : TE}
end
noncomputable def dLGetG (P : Program) (w : World) (i : Nat) (wk wx : DE) : DE := fun ρ n Q => ∃ fl al, ρ[i]? = some (some (.own (dictL P w fl al))) ∧ wk ρ n fun r n1 => wx ρ n1 fun r2 n2 => ∃ k y, r = .d (ckD k) ∧ kyOk fl k ∧ r2 = .d y ∧ Q (.d ((lookA al k).getD y)) n2
noncomputable def dGetDGM (P : Program) (w : World) (wo wk wx : DEM) : DEM := fun ρ ms n Q => wo ρ ms n fun r ms1 n1 => ∃ a, r = .obj a ∧ DicAt P w a ms1 fun fl al => wk ρ ms1 n1 fun rk ms2 n2 => ∃ k, rk = .d (ckD k) ∧ kyOk fl k ∧ wx ρ ms2 n2 fun rx ms3 n3 => onD rx fun y => ownM a (dictL P w fl al) ∈ ms3 ∧ Q (.d ((lookA al k).getD y)) ms3 n3
section
variable {X : Cx} {E : Ent} {x : Str} {o e f value : Expr} {pos pos' apos cpos p1 p2 : Pos} {wk wx wv : DE}
end
section
variable {X : Cx} {E : Ent} {a b e o : Expr} {es : List Expr} {wa wb wo we wk wx : DEM} {wr : DAM} {C : Addr} {f m x : Str} {k : Nat} {ps : List Str} {c : DSpM} {p pos apos cpos : Pos}
end
end Dl

namespace Dl
open PySem PySem.Spec PyProof.Rows L2 PySem.W
/-! ### comprehensions over a list of objects; lists of objects made by comprehensions; sums of such lists; slices of exact tuples -/
noncomputable def dLcXD (j : Nat) (wa : DEM) (tt : DTM) (we : DEM) (vs : List Nat) : DEM := fun ρ ms n Q => wa ρ ms n fun r ms1 n1 => ∃ st as, r = .obj st ∧ ownM st (listA as) ∈ ms1 ∧ wipeD ρ vs = ρ ∧ ∃ Iv : Nat → List PyData → MS → Nat → Prop, Iv 0 [] ms1 n1 ∧
  (∀ i acc ms n a, Iv i acc ms n → as[i]? = some a → ownM st (listA as) ∈ ms ∧ wipeD (ρ.set j (some (.obj a))) vs = ρ ∧ tt (ρ.set j (some (.obj a))) ms n fun b ms2 n2 => if b = true then we (ρ.set j (some (.obj a))) ms2 n2 fun r ms3 n3 => onD r fun y => acc.length < sizeLine ∧ Iv (i + 1) (acc ++ [y]) ms3 n3 else Iv (i + 1) acc ms2 n2) ∧
  ∀ acc ms n, Iv as.length acc ms n → ownM st (listA as) ∈ ms ∧ Q (.d (.list acc)) ms n
noncomputable def dLcXO (j : Nat) (wa : DEM) (tt : DTM) (we : DEM) (vs : List Nat) : DEM := fun ρ ms n Q => wa ρ ms n fun r ms1 n1 => ∃ st as, r = .obj st ∧ ownM st (listA as) ∈ ms1 ∧ wipeD ρ vs = ρ ∧ ∃ Iv : Nat → List Addr → MS → Nat → Prop, Iv 0 [] ms1 n1 ∧
  (∀ i acc ms n a, Iv i acc ms n → as[i]? = some a → ownM st (listA as) ∈ ms ∧ wipeD (ρ.set j (some (.obj a))) vs = ρ ∧ tt (ρ.set j (some (.obj a))) ms n fun b ms2 n2 => if b = true then we (ρ.set j (some (.obj a))) ms2 n2 fun r ms3 n3 => ∃ y, r = .obj y ∧ acc.length < sizeLine ∧ Iv (i + 1) (acc ++ [y]) ms3 n3 else Iv (i + 1) acc ms2 n2) ∧
  ∀ acc ms n, Iv as.length acc ms n → ownM st (listA as) ∈ ms ∧ ∀ D, Q (.obj D) (ownM D (listA acc) :: ms) n
noncomputable def dLcDO (wi : DI) (wg : DG) (tt : DTM) (we : DEM) (vs : List Nat) : DEM := fun ρ ms n Q => wi ρ n fun items n1 => wipeD ρ vs = ρ ∧ ∃ Iv : Nat → List Addr → MS → Nat → Prop, Iv 0 [] ms n1 ∧
  (∀ i acc ms n z, Iv i acc ms n → items[i]? = some z → wg z ρ fun ρ' => wipeD ρ' vs = ρ ∧ tt ρ' ms n fun b ms2 n2 => if b = true then we ρ' ms2 n2 fun r ms3 n3 => ∃ y, r = .obj y ∧ acc.length < sizeLine ∧ Iv (i + 1) (acc ++ [y]) ms3 n3 else Iv (i + 1) acc ms2 n2) ∧
  ∀ acc ms n, Iv items.length acc ms n → ∀ D, Q (.obj D) (ownM D (listA acc) :: ms) n
section
variable {K : PySem.W.Frag} {E : Ent} {wa we : DEM} {wi : DI} {wg : DG} {tt : DTM} {vs us : List Nat} {j : Nat}
theorem at_lstA {M B' H' : Hp} {n' : Nat} {bxs' : List Addr} {σ' : L2.St} {ρ' : DEnv} {ms' : MS} {st : Addr} {as : List Addr} (h : MX K E M n' B' H' bxs' σ' ρ' ms') (hm : ownM st (listA as) ∈ ms') : H' st = some (.lst (as.map V.ref)) := by
  obtain ⟨_, e, e2, _⟩ := h.get hm
  rw [e, show _ = _ from e2]
theorem up_lcXD (hj : j ∈ vs) (σ : L2.St) (H : Hp) (Q : VK) (hu : upM K E (dLcXD j wa tt we vs) σ H Q) :
    tLc (tSeqI K (upM K E wa)) (gName j) (fun σ H Q => ∃ E', upTM K E' tt σ H Q) (fun σ H Q => ∃ E', upM K E' we σ H Q) vs σ H Q := by
  obtain ⟨ρ, ms, n, B, M, bxs, Qd, h, w1, q⟩ := hu
  refine ⟨ρ, ms, n, B, M, bxs, _, h, w1, fun r ms1 n1 v B1 H1 hq h1 sb vr => ?_⟩
  obtain ⟨st, as, rfl, hm, hw, Iv, h0, ht, hd⟩ := hq
  cases vr
  refine .inl ⟨st, rfl, ⟨_, SqL.of (at_lstA h1 hm)⟩, fun D hD => ?_⟩
  have hD1 := mx_lay (T := listO []) h1 hD (o := .lst []) ⟨[], rfl, .nil⟩
  refine ⟨fun i m Hc => m = as.length - i ∧ i ≤ as.length ∧ ∃ (nc : Nat) (Bc : Hp) (acc : List PyData) (mc : MS), Iv i acc mc nc ∧ MX K E M nc Bc Hc bxs σ ρ (ownM D (listO acc) :: mc) ∧ Same B1 Bc,
    ⟨_, rfl, Nat.zero_le _, n1, B1, [], ms1, h0, hD1, Same.refl _⟩, ?_⟩
  rintro i m Hc ⟨rfl, hi, nc, Bc, acc, mc, iv, hc, sbc⟩
  by_cases hlt : i < as.length
  · have hz : as[i]? = some as[i] := List.getElem?_eq_getElem hlt
    obtain ⟨hmem, hw2, htt⟩ := ht i acc mc nc as[i] iv hz
    have hS := SqL.of (K := K) (at_lstA hc (.tail _ hmem))
    have hz2 : (as.map V.ref)[i]? = some (V.ref as[i]) := by rw [List.getElem?_map, hz]; rfl
    refine .inr ⟨⟨_, _, hS, hz2⟩, fun Hn => ∃ (nn : Nat) (Bn : Hp) (acn : List PyData) (mn : MS), Iv (i + 1) acn mn nn ∧ MX K E M nn Bn Hn bxs σ ρ (ownM D (listO acn) :: mn) ∧ Same B1 Bn,
      fun Hn hn => ⟨as.length - (i + 1), by omega, rfl, hlt, hn⟩, fun x Hy hy => ?_⟩
    obtain ⟨rfl, hy2⟩ := hy
    have e3 := hy2 _ hS
    rw [hz2] at e3
    cases e3
    have hyw := hc.wipe vs
    rw [hw] at hyw
    have u2 := UpdR.setV (r0 := .obj as[i]) (L2.wipe σ vs) ρ j (V.ref as[i]) (fun z => z)
    have hus : ∀ k ∈ [j], k ∈ vs := fun k hk => by rw [List.mem_singleton.mp hk]; exact hj
    refine ⟨wipe_upd u2 hus, ?_⟩
    have hb : MX K E M nc Bc Hy bxs ((L2.wipe σ vs).set j (some (V.ref as[i]))) (ρ.set j (some (.obj as[i]))) ([ownM D (listO acc)] ++ mc) := hyw.upd (hyw.sv.env.setV (r0 := .obj as[i]) j (fun z => z) trivial rfl) u2
    refine ⟨_, _, mc, nc, Bc, Bc, bxs, _, hb.innerP, htt, fun b m2 n2 B2 H2 hq3 g2 sb2 => ?_⟩
    have hb2 := hb.outerP g2
    cases b with
    | false =>
      refine iteF ⟨n2, B2, acc, m2, ?_, hb2.unwipe (h.sv.env.len) h.sv.env.ok hw2 u2 hus, sbc.trans sb2⟩
      rw [if_neg Bool.false_ne_true] at hq3
      exact hq3
    | true =>
      rw [if_pos rfl] at hq3
      refine iteT ⟨_, _, m2, n2, B2, B2, bxs, _, hb2.innerP, hq3, fun r m3 n3 v B3 H3 hq4 g3 sb3 vr => ?_⟩
      obtain ⟨y, rfl, hl, iv'⟩ := onD_ex hq4
      have hb3 := (hb2.outerP g3).unwipe (h.sv.env.len) h.sv.env.ok hw2 u2 hus
      have hb4 : MX K E M n3 B3 H3 bxs σ ρ (ownM D (listO acc) :: m3) := hb3
      obtain ⟨_, eD, ⟨av, rfl, da⟩, _⟩ := hb4.get (List.mem_cons_self)
      exact ⟨av, eD, by rw [dpLen _ _ da]; exact hl, n3, B3, acc ++ [y], m3, iv', mx_put (T' := listO (acc ++ [y])) hb4 ⟨_, rfl, dpApp _ _ _ _ da (.cons vr .nil)⟩, (sbc.trans sb2).trans sb3⟩
  · have el : i = as.length := by omega
    subst el
    obtain ⟨hmem, hn⟩ := hd acc mc nc iv
    refine .inl ⟨⟨_, SqL.of (at_lstA hc (.tail _ hmem)), by rw [List.length_map]; exact Nat.le_refl _⟩, ?_⟩
    obtain ⟨B', h', sB, vr⟩ := mx_frz hc
    exact q _ _ _ _ _ _ hn h' ((sb.trans sbc).trans sB) vr
theorem up_lcXO (hj : j ∈ vs) (σ : L2.St) (H : Hp) (Q : VK) (hu : upM K E (dLcXO j wa tt we vs) σ H Q) :
    tLc (tSeqI K (upM K E wa)) (gName j) (fun σ H Q => ∃ E', upTM K E' tt σ H Q) (fun σ H Q => ∃ E', upM K E' we σ H Q) vs σ H Q := by
  obtain ⟨ρ, ms, n, B, M, bxs, Qd, h, w1, q⟩ := hu
  refine ⟨ρ, ms, n, B, M, bxs, _, h, w1, fun r ms1 n1 v B1 H1 hq h1 sb vr => ?_⟩
  obtain ⟨st, as, rfl, hm, hw, Iv, h0, ht, hd⟩ := hq
  cases vr
  refine .inl ⟨st, rfl, ⟨_, SqL.of (at_lstA h1 hm)⟩, fun D hD => ?_⟩
  have hD1 := mx_lay (T := listA []) h1 hD (o := .lst []) rfl
  refine ⟨fun i m Hc => m = as.length - i ∧ i ≤ as.length ∧ ∃ (nc : Nat) (Bc : Hp) (acc : List Addr) (mc : MS), Iv i acc mc nc ∧ MX K E M nc Bc Hc bxs σ ρ (ownM D (listA acc) :: mc) ∧ Same B1 Bc,
    ⟨_, rfl, Nat.zero_le _, n1, B1, [], ms1, h0, hD1, Same.refl _⟩, ?_⟩
  rintro i m Hc ⟨rfl, hi, nc, Bc, acc, mc, iv, hc, sbc⟩
  by_cases hlt : i < as.length
  · have hz : as[i]? = some as[i] := List.getElem?_eq_getElem hlt
    obtain ⟨hmem, hw2, htt⟩ := ht i acc mc nc as[i] iv hz
    have hS := SqL.of (K := K) (at_lstA hc (.tail _ hmem))
    have hz2 : (as.map V.ref)[i]? = some (V.ref as[i]) := by rw [List.getElem?_map, hz]; rfl
    refine .inr ⟨⟨_, _, hS, hz2⟩, fun Hn => ∃ (nn : Nat) (Bn : Hp) (acn : List Addr) (mn : MS), Iv (i + 1) acn mn nn ∧ MX K E M nn Bn Hn bxs σ ρ (ownM D (listA acn) :: mn) ∧ Same B1 Bn,
      fun Hn hn => ⟨as.length - (i + 1), by omega, rfl, hlt, hn⟩, fun x Hy hy => ?_⟩
    obtain ⟨rfl, hy2⟩ := hy
    have e3 := hy2 _ hS
    rw [hz2] at e3
    cases e3
    have hyw := hc.wipe vs
    rw [hw] at hyw
    have u2 := UpdR.setV (r0 := .obj as[i]) (L2.wipe σ vs) ρ j (V.ref as[i]) (fun z => z)
    have hus : ∀ k ∈ [j], k ∈ vs := fun k hk => by rw [List.mem_singleton.mp hk]; exact hj
    refine ⟨wipe_upd u2 hus, ?_⟩
    have hb : MX K E M nc Bc Hy bxs ((L2.wipe σ vs).set j (some (V.ref as[i]))) (ρ.set j (some (.obj as[i]))) ([ownM D (listA acc)] ++ mc) := hyw.upd (hyw.sv.env.setV (r0 := .obj as[i]) j (fun z => z) trivial rfl) u2
    refine ⟨_, _, mc, nc, Bc, Bc, bxs, _, hb.innerP, htt, fun b m2 n2 B2 H2 hq3 g2 sb2 => ?_⟩
    have hb2 := hb.outerP g2
    cases b with
    | false =>
      refine iteF ⟨n2, B2, acc, m2, ?_, hb2.unwipe (h.sv.env.len) h.sv.env.ok hw2 u2 hus, sbc.trans sb2⟩
      rw [if_neg Bool.false_ne_true] at hq3
      exact hq3
    | true =>
      rw [if_pos rfl] at hq3
      refine iteT ⟨_, _, m2, n2, B2, B2, bxs, _, hb2.innerP, hq3, fun r m3 n3 v B3 H3 hq4 g3 sb3 vr => ?_⟩
      obtain ⟨y, rfl, hl, iv'⟩ := hq4
      cases vr
      have hb3 := (hb2.outerP g3).unwipe (h.sv.env.len) h.sv.env.ok hw2 u2 hus
      have hb4 : MX K E M n3 B3 H3 bxs σ ρ (ownM D (listA acc) :: m3) := hb3
      exact ⟨_, at_lstA hb4 List.mem_cons_self, by rw [List.length_map]; exact hl, n3, B3, acc ++ [y], m3, iv', mx_put (T' := listA (acc ++ [y])) hb4 (show _ = _ by rw [List.map_append]; rfl), (sbc.trans sb2).trans sb3⟩
  · have el : i = as.length := by omega
    subst el
    obtain ⟨hmem, hn⟩ := hd acc mc nc iv
    exact .inl ⟨⟨_, SqL.of (at_lstA hc (.tail _ hmem)), by rw [List.length_map]; exact Nat.le_refl _⟩, q _ _ _ _ _ _ (hn D) hc (sb.trans sbc) rfl⟩
theorem up_lcDO (hus : ∀ j ∈ us, j ∈ vs) (σ : L2.St) (H : Hp) (Q : VK) (hu : upM K E (dLcDO wi wg tt we vs) σ H Q) :
    tLc (upI K wi) (upG K us wg) (fun σ H Q => ∃ E', upTM K E' tt σ H Q) (fun σ H Q => ∃ E', upM K E' we σ H Q) vs σ H Q := by
  obtain ⟨ρ, ms, n, B, M, bxs, Qd, h, w1, q⟩ := hu
  refine ⟨ρ, n, B, bxs, _, h.sv.g, h.sv.env, w1, fun items n1 B1 H1 J hq s1 ji => fun D hD => ?_⟩
  obtain ⟨hw, Iv, h0, ht, hd⟩ := hq
  have h1 := h.step s1
  have hD1 := mx_lay (T := listA []) h1 hD (o := .lst []) rfl
  refine ⟨fun i m Hc => m = items.length - i ∧ i ≤ items.length ∧ ∃ (nc : Nat) (Bc : Hp) (acc : List Addr) (mc : MS), Iv i acc mc nc ∧ MX K E M nc Bc Hc bxs σ ρ (ownM D (listA acc) :: mc) ∧ Same B1 Bc,
    ⟨_, rfl, Nat.zero_le _, n1, B1, [], ms, h0, hD1, Same.refl _⟩, ?_⟩
  rintro i m Hc ⟨rfl, hi, nc, Bc, acc, mc, iv, hc, sbc⟩
  by_cases hlt : i < items.length
  · refine .inr ⟨ji.go i Hc (sbc.trans hc.sv.g.sub) hlt, fun Hn => ∃ (nn : Nat) (Bn : Hp) (acn : List Addr) (mn : MS), Iv (i + 1) acn mn nn ∧ MX K E M nn Bn Hn bxs σ ρ (ownM D (listA acn) :: mn) ∧ Same B1 Bn,
      fun Hn hn => ⟨items.length - (i + 1), by omega, rfl, hlt, hn⟩, fun x Hy hy => ?_⟩
    have hz : items[i]? = some items[i] := List.getElem?_eq_getElem hlt
    obtain ⟨By, sy, dx⟩ := yr_step hc.sv.g sbc (ji.yld i Hc x Hy items[i] (sbc.trans hc.sv.g.sub) hy hz)
    have hy2 := hc.step sy
    have hyw := hy2.wipe vs
    rw [hw] at hyw
    refine ⟨bxs, nc, By, ρ, items[i], _, hy2.sv.g, hyw.sv.env, dx, ht i acc mc nc items[i] iv hz, fun σ2 ρ2 hq2 e2 u2 => ⟨wipe_upd u2 hus, ?_⟩⟩
    obtain ⟨hw2, hq2⟩ := hq2
    have hb : MX K E M nc By Hy bxs σ2 ρ2 ([ownM D (listA acc)] ++ mc) := hyw.upd e2 u2
    refine ⟨_, ρ2, mc, nc, By, By, bxs, _, hb.innerP, hq2, fun b m2 n2 B2 H2 hq3 g2 sb2 => ?_⟩
    have hb2 := hb.outerP g2
    cases b with
    | false =>
      refine iteF ⟨n2, B2, acc, m2, ?_, hb2.unwipe (h.sv.env.len) h.sv.env.ok hw2 u2 hus, (sbc.trans sy.b1).trans sb2⟩
      rw [if_neg Bool.false_ne_true] at hq3
      exact hq3
    | true =>
      rw [if_pos rfl] at hq3
      refine iteT ⟨_, ρ2, m2, n2, B2, B2, bxs, _, hb2.innerP, hq3, fun r m3 n3 v B3 H3 hq4 g3 sb3 vr => ?_⟩
      obtain ⟨y, rfl, hl, iv'⟩ := hq4
      cases vr
      have hb3 := (hb2.outerP g3).unwipe (h.sv.env.len) h.sv.env.ok hw2 u2 hus
      have hb4 : MX K E M n3 B3 H3 bxs σ ρ (ownM D (listA acc) :: m3) := hb3
      exact ⟨_, at_lstA hb4 List.mem_cons_self, by rw [List.length_map]; exact hl, n3, B3, acc ++ [y], m3, iv', mx_put (T' := listA (acc ++ [y])) hb4 (show _ = _ by rw [List.map_append]; rfl), ((sbc.trans sy.b1).trans sb2).trans sb3⟩
  · have el : i = items.length := by omega
    subst el
    exact .inl ⟨ji.stop Hc (sbc.trans hc.sv.g.sub), q _ _ _ _ _ _ (hd acc mc nc iv D) hc (s1.b1.trans sbc) rfl⟩
end
section
variable {X : Cx} {E : Ent} {elt tg iter a : Expr} {ifs : List Expr} {scope : Scope} {own : List (Str × Nat)} {us : List Nat} {pos spos py : Pos} {wi : DI} {wg : DG} {tt : DTM} {wa we : DEM} {y : Str}
theorem lem_lcDO (hc : X.calm = true) (hN : X.N.Nodup) (hi : LI X tg iter wi) (ok : blkC X.N X.env.scope scope own = true)
    (hg : ∀ (s : Shared) (H : Hp) (C : Addr) (cl : List (Str × Addr)) (fp : List Addr), LG (X.blk s H scope (compEnvC scope cl C X.env) fp) tg us wg) (ht : ∀ (E' : Ent) (s : Shared) (H : Hp) (C : Addr) (cl : List (Str × Addr)) (fp : List Addr), LTsM (X.blk s H scope (compEnvC scope cl C X.env) fp) E' ifs tt)
    (he : ∀ (E' : Ent) (s : Shared) (H : Hp) (C : Addr) (cl : List (Str × Addr)) (fp : List Addr), LEM (X.blk s H scope (compEnvC scope cl C X.env) fp) E' elt we) (hus : ∀ j ∈ us, j ∈ own.map (·.2) := by decide) (hs : ∀ x, foldedSetIterable iter X.env x = pure x := by intro _; rfl) :
    LEM X E (.ListComp elt [⟨tg, iter, ifs, 0⟩] scope pos) (dLcDO wi wg tt we (own.map (·.2))) :=
  pe_imp (pe_lc hc hN hi (blkOk_by ok) (fun s H C cl fp => lg_up (hg s H C cl fp)) (fun s H C cl fp => pts_ex fun E' => ht E' s H C cl fp) (fun s H C cl fp => pe_ex fun E' => he E' s H C cl fp) hs) (up_lcDO (K := X.K) hus)
theorem lem_lcXD (j : Nat) (hc : X.calm = true) (hN : X.N.Nodup) (ha : LEM X E a wa) (ok : blkC X.N X.env.scope scope own = true)
    (hg : ∀ (s : Shared) (H : Hp) (C : Addr) (cl : List (Str × Addr)) (fp : List Addr), PG (X.blk s H scope (compEnvC scope cl C X.env) fp) (.Name y py) (gName j)) (ht : ∀ (E' : Ent) (s : Shared) (H : Hp) (C : Addr) (cl : List (Str × Addr)) (fp : List Addr), LTsM (X.blk s H scope (compEnvC scope cl C X.env) fp) E' ifs tt)
    (he : ∀ (E' : Ent) (s : Shared) (H : Hp) (C : Addr) (cl : List (Str × Addr)) (fp : List Addr), LEM (X.blk s H scope (compEnvC scope cl C X.env) fp) E' elt we) (hj : j ∈ own.map (·.2) := by decide) (hs : ∀ x, foldedSetIterable a X.env x = pure x := by intro _; rfl) :
    LEM X E (.ListComp elt [⟨.Name y py, a, ifs, 0⟩] scope pos) (dLcXD j wa tt we (own.map (·.2))) :=
  pe_imp (pe_lc hc hN (pi_seq ha) (blkOk_by ok) hg (fun s H C cl fp => pts_ex fun E' => ht E' s H C cl fp) (fun s H C cl fp => pe_ex fun E' => he E' s H C cl fp) hs) (up_lcXD (K := X.K) hj)
theorem lem_lcXO (j : Nat) (hc : X.calm = true) (hN : X.N.Nodup) (ha : LEM X E a wa) (ok : blkC X.N X.env.scope scope own = true)
    (hg : ∀ (s : Shared) (H : Hp) (C : Addr) (cl : List (Str × Addr)) (fp : List Addr), PG (X.blk s H scope (compEnvC scope cl C X.env) fp) (.Name y py) (gName j)) (ht : ∀ (E' : Ent) (s : Shared) (H : Hp) (C : Addr) (cl : List (Str × Addr)) (fp : List Addr), LTsM (X.blk s H scope (compEnvC scope cl C X.env) fp) E' ifs tt)
    (he : ∀ (E' : Ent) (s : Shared) (H : Hp) (C : Addr) (cl : List (Str × Addr)) (fp : List Addr), LEM (X.blk s H scope (compEnvC scope cl C X.env) fp) E' elt we) (hj : j ∈ own.map (·.2) := by decide) (hs : ∀ x, foldedSetIterable a X.env x = pure x := by intro _; rfl) :
    LEM X E (.ListComp elt [⟨.Name y py, a, ifs, 0⟩] scope pos) (dLcXO j wa tt we (own.map (·.2))) :=
  pe_imp (pe_lc hc hN (pi_seq ha) (blkOk_by ok) hg (fun s H C cl fp => pts_ex fun E' => ht E' s H C cl fp) (fun s H C cl fp => pe_ex fun E' => he E' s H C cl fp) hs) (up_lcXO (K := X.K) hj)
end
/-! sums of lists of objects -/
noncomputable def dAddA (wa wb : DEM) : DEM := fun ρ ms n Q => wa ρ ms n fun r1 ms1 n1 => ∃ st, r1 = .obj st ∧ wb ρ ms1 n1 fun r2 ms2 n2 => ∃ s2 as bs, r2 = .obj s2 ∧ ownM st (listA as) ∈ ms2 ∧ ownM s2 (listA bs) ∈ ms2 ∧ as.length + bs.length ≤ sizeLine ∧ ∀ z, Q (.obj z) (ownM z (listA (as ++ bs)) :: ms2) n2
section
variable {X : Cx} {E : Ent} {a b : Expr} {wa wb : DEM} {pos p2 : Pos}
theorem lem_addA (ha : LEM X E a wa) (hb : LEM X E b wb) : LEM X E (.BinOp a .Add b pos) (dAddA wa wb) := pe_imp (pe_op op_catL ha hb) fun σ H Q hu => by
  obtain ⟨ρ, ms, n, B, M, bxs, Qd, h, w1, q⟩ := hu
  refine ⟨ρ, ms, n, B, M, bxs, _, h, w1, fun r ms1 n1 v B1 H1 hq h1 sb vr => ?_⟩
  obtain ⟨st, rfl, hq⟩ := hq
  refine ⟨ρ, ms1, n1, B1, M, bxs, _, h1, hq, fun r2 ms2 n2 u B2 H2 hq2 h2 sb2 vr2 => ?_⟩
  obtain ⟨s2, as, bs, rfl, hm1, hm2, hl, hq2⟩ := hq2
  cases vr
  cases vr2
  refine ⟨st, s2, as.map V.ref, bs.map V.ref, rfl, rfl, SqL.of (at_lstA h2 hm1), SqL.of (at_lstA h2 hm2), by rw [List.length_map, List.length_map]; exact hl, fun p hp => ?_⟩
  exact q _ _ _ _ _ _ (hq2 p) (mx_lay (T := listA (as ++ bs)) h2 hp (show _ = _ by rw [List.map_append])) (sb.trans sb2) rfl
end
/-! x[lo:] of an exact tuple -/
noncomputable def rSlX1 (K : PySem.W.Frag) : V → Option Int → Option Int → Hp → VK → Prop := fun x lo hi H Q => ∃ a xs, x = .ref a ∧ SqT K H a xs ∧
  ((HT.sIx xs.length 0 lo = 0 ∧ HT.sIx xs.length xs.length hi = xs.length) → Q (.ref a) H) ∧ (¬ (HT.sIx xs.length 0 lo = 0 ∧ HT.sIx xs.length xs.length hi = xs.length) →
  ∀ l o its n, H l = none → o.cls = .type "tuple" → o.dict = none → o.data = .seq its n → Q (.ref l) (upd H l (.frz o (.tup (cutV xs lo hi)))))
theorem sl_tupX {X : Cx} : SlR X (rSlX1 X.K) := by
  intro pins s σ H x v vl vu lo hi sl Q I rx hs pl pu h
  obtain ⟨a, xs, rfl, hx, q1, q2⟩ := h
  by_cases hw : HT.sIx xs.length 0 lo = 0 ∧ HT.sIx xs.length xs.length hi = xs.length
  · exact sl_tupA pins s σ H _ v vl vu lo hi sl Q I rx hs pl pu ⟨a, xs, rfl, hx, q1, fun z => absurd hw z⟩
  · cases rx
    obtain ⟨its, r, ht, hz⟩ := I.tuple hx
    have hlen : its.toArray.size = xs.length := by rw [List.size_toArray]; exact r.length.symm
    refine ⟨"tuple", _, PyProof.Rows.slot_tuple_getitem.lookup, ht.typeIs, ?_⟩
    refine HT.getItem_tuple_cut ht hs pl pu (by rw [hlen]; exact hw) ?_ (by rw [hlen]; exact hz)
    rw [hlen]
    refine ⟨.ref s.heap.objs.size, _, I.laid (t' := s.toks) (o := .frz _ (.tup (cutV xs lo hi))) (fun b ob q => Heap.get?_push_of_some _ q) (Nat.le_refl _) ⟨Heap.get?_push_size _ rfl, ?_⟩, rfl, q2 hw _ _ _ 0 (I.hok.fresh (Nat.le_refl _)) rfl rfl rfl⟩
    exact ⟨Nat.le_trans (cutV_length xs lo hi) hz, _, (r.drop (HT.sIx xs.length 0 lo)).take (HT.sIx xs.length xs.length hi - HT.sIx xs.length 0 lo), IsTup.new _ _⟩
noncomputable def dSlX (lo : Int) (wa : DEM) : DEM := fun ρ ms n Q => wa ρ ms n fun r ms1 n1 => ∃ a xs, r = .obj a ∧ tupF a xs ∈ ms1 ∧ ∀ z, Q (.obj z) (tupF z (cutD xs (some lo) none) :: ms1) n1
theorem cutD_all {xs : List PyData} {lo hi : Option Int} (h : HT.sIx xs.length 0 lo = 0 ∧ HT.sIx xs.length xs.length hi = xs.length) : cutD xs lo hi = xs := by
  unfold cutD
  rw [h.1, h.2, List.drop_zero, Nat.sub_zero, List.take_length]
theorem lem_slX {X : Cx} {E : Ent} {a : Expr} {wa : DEM} {pos p1 p2 : Pos} {lo : Int} {j} (ha : LEM X E a wa) : LEM X E (.Subscript a (.Slice (some (.Constant (.int lo) j p1)) none none p2) pos) (dSlX lo wa) := pe_imp (pe_slice sl_tupX ha (po_some pe_int) po_none) fun σ H Q hu => by
  obtain ⟨ρ, ms, n, B, M, bxs, Qd, h, w1, q⟩ := hu
  refine ⟨ρ, ms, n, B, M, bxs, _, h, w1, fun r ms1 n1 v B1 H1 hq h1 sb vr => ?_⟩
  obtain ⟨a, xs, rfl, hm, hq⟩ := hq
  cases vr
  have f1 := h1.fact hm
  obtain ⟨o1, v1, i1, k1, e1, c1, d1, s1, da1⟩ := h1.fact hm
  have l1 := dpLen _ _ da1
  refine ⟨lo, rfl, a, v1, rfl, .inl (.inr ⟨o1, h1.sv.g.sub a _ e1⟩), fun hw => ?_, fun hw l o its n3 hl c1 c2 c3 => ?_⟩
  · have hq2 := hq a
    rw [cutD_all (by rw [← l1]; exact hw)] at hq2
    exact q _ _ _ _ _ _ hq2 (mx_fact h1 f1) sb rfl
  · have sl : Step bxs n1 n1 B1 H1 (upd B1 l (.frz o (.tup (cutV v1 (some lo) none)))) (upd H1 l (.frz o (.tup (cutV v1 (some lo) none)))) := h1.sv.g.refl.lay h1.sv.g hl
    exact q _ _ _ _ _ _ (hq l) (mx_fact (h1.step sl) ⟨o, cutV v1 (some lo) none, its, n3, upd_same, c1, c2, c3, dpSameAll sl.b1 _ _ (dpCut da1 (some lo) none)⟩) (sb.trans sl.b1) rfl
/-! the tails as letters -/
theorem lcXD_def (j : Nat) (wa : DEM) (tt : DTM) (we : DEM) (vs : List Nat) (ρ : DEnv) (ms : MS) (n : Nat) (Q : RV → MS → Nat → Prop) (h : ∀ F : RV → MS → Nat → Prop, (∀ r ms1 n1, (∃ st as, r = .obj st ∧ ownM st (listA as) ∈ ms1 ∧ wipeD ρ vs = ρ ∧ ∃ Iv : Nat → List PyData → MS → Nat → Prop, Iv 0 [] ms1 n1 ∧
  (∀ i acc ms n a, Iv i acc ms n → as[i]? = some a → ownM st (listA as) ∈ ms ∧ wipeD (ρ.set j (some (.obj a))) vs = ρ ∧ tt (ρ.set j (some (.obj a))) ms n fun b ms2 n2 => if b = true then we (ρ.set j (some (.obj a))) ms2 n2 fun r ms3 n3 => onD r fun y => acc.length < sizeLine ∧ Iv (i + 1) (acc ++ [y]) ms3 n3 else Iv (i + 1) acc ms2 n2) ∧
  ∀ acc ms n, Iv as.length acc ms n → ownM st (listA as) ∈ ms ∧ Q (.d (.list acc)) ms n) → F r ms1 n1) → wa ρ ms n F) : dLcXD j wa tt we vs ρ ms n Q := h _ fun _ _ _ q => q
theorem lcXO_def (j : Nat) (wa : DEM) (tt : DTM) (we : DEM) (vs : List Nat) (ρ : DEnv) (ms : MS) (n : Nat) (Q : RV → MS → Nat → Prop) (h : ∀ F : RV → MS → Nat → Prop, (∀ r ms1 n1, (∃ st as, r = .obj st ∧ ownM st (listA as) ∈ ms1 ∧ wipeD ρ vs = ρ ∧ ∃ Iv : Nat → List Addr → MS → Nat → Prop, Iv 0 [] ms1 n1 ∧
  (∀ i acc ms n a, Iv i acc ms n → as[i]? = some a → ownM st (listA as) ∈ ms ∧ wipeD (ρ.set j (some (.obj a))) vs = ρ ∧ tt (ρ.set j (some (.obj a))) ms n fun b ms2 n2 => if b = true then we (ρ.set j (some (.obj a))) ms2 n2 fun r ms3 n3 => ∃ y, r = .obj y ∧ acc.length < sizeLine ∧ Iv (i + 1) (acc ++ [y]) ms3 n3 else Iv (i + 1) acc ms2 n2) ∧
  ∀ acc ms n, Iv as.length acc ms n → ownM st (listA as) ∈ ms ∧ ∀ D, Q (.obj D) (ownM D (listA acc) :: ms) n) → F r ms1 n1) → wa ρ ms n F) : dLcXO j wa tt we vs ρ ms n Q := h _ fun _ _ _ q => q
theorem lcDO_def (wi : DI) (wg : DG) (tt : DTM) (we : DEM) (vs : List Nat) (ρ : DEnv) (ms : MS) (n : Nat) (Q : RV → MS → Nat → Prop) (h : ∀ F : List PyData → Nat → Prop, (∀ items n1, (wipeD ρ vs = ρ ∧ ∃ Iv : Nat → List Addr → MS → Nat → Prop, Iv 0 [] ms n1 ∧
  (∀ i acc ms n z, Iv i acc ms n → items[i]? = some z → wg z ρ fun ρ' => wipeD ρ' vs = ρ ∧ tt ρ' ms n fun b ms2 n2 => if b = true then we ρ' ms2 n2 fun r ms3 n3 => ∃ y, r = .obj y ∧ acc.length < sizeLine ∧ Iv (i + 1) (acc ++ [y]) ms3 n3 else Iv (i + 1) acc ms2 n2) ∧
  ∀ acc ms n, Iv items.length acc ms n → ∀ D, Q (.obj D) (ownM D (listA acc) :: ms) n) → F items n1) → wi ρ n F) : dLcDO wi wg tt we vs ρ ms n Q := h _ fun _ _ q => q
theorem inv4A (P : Nat → List Addr → MS → Nat → Prop) : ∃ Iv : Nat → List Addr → MS → Nat → Prop, ∀ i acc ms n, Iv i acc ms n ↔ P i acc ms n := ⟨P, fun _ _ _ _ => Iff.rfl⟩
theorem split_one {ms : MS} {m : OwnM} {F : MS → MS → Prop} (hm : m ∈ ms) (h : ∀ mb, (∀ x ∈ ms, x = m ∨ x ∈ mb) → F [m] mb) : splitM ms F := by
  obtain ⟨s, t, rfl⟩ := List.append_of_mem hm
  refine ⟨[m], s ++ t, List.perm_middle, h _ fun x hx => ?_⟩
  rcases List.mem_append.mp hx with hx | hx
  · exact .inr (List.mem_append_left _ hx)
  · rcases List.mem_cons.mp hx with hx | hx
    · exact .inl hx
    · exact .inr (List.mem_append_right _ hx)
end Dl

local macro_rules | `(tactic| walk_at "kw") => `(tactic| (intro kV doc pm an cdv ct us hl; rcases us with _ | ⟨u1, _ | ⟨u2, _ | ⟨u3, _ | ⟨u4, _ | ⟨u5, r⟩⟩⟩⟩⟩ <;> first | rfl | (exact absurd hl (by simp [Dl.pick]))))
local macro_rules | `(tactic| walk_at "kww") => `(tactic| (intro D doc pm an cdv ct us v hl; rcases us with _ | ⟨u1, _ | ⟨u2, _ | ⟨u3, _ | ⟨u4, r⟩⟩⟩⟩ <;> first | exact ⟨_, _, _, _, _, _, rfl, rfl, rfl⟩ | (simp at hl; done)))
local macro_rules | `(tactic| walk_at "kwp") => `(tactic| (intro kV doc pm an cdv ct us ws hl hn; rcases us with _ | ⟨u1, _ | ⟨u2, _ | ⟨u3, _ | ⟨u4, r⟩⟩⟩⟩ <;> first | (simp at hn; done) | (rcases ws with _ | ⟨w1, _ | ⟨w2, _ | ⟨w3, r⟩⟩⟩ <;> first | rfl | (simp [Dl.pick] at hl; done))))
local macro_rules | `(tactic| walk_at "lc") => `(tactic| first | decide +kernel | rfl)
namespace Lw
open PySem PySem.Spec PyProof.Rows L2 Dl
local macro_rules | `(tactic| walk_at "de") => `(tactic| try simp only [wEq, wNe, dPopAt, wSortL, wSortSetP, wLtP, dLenX, dSet1, dSInV, wMaxT, wMinT, dTryRetY, dIsY, dYFld, dZipX, dTryX, dTryRet, dIsX, dXFld, dRaiseX, allD, wMaxL, wMinL, dDKnew, dDKaug, dDKix, dDKsort, wSortSetI, dUnpPair, dAugIx, dFld, wIsB, dCallY, dCallYK, dListY, dTupY, dYieldZ, dIfZ, dPlainZ, dNilZ, gdLst, dPar4o, dRetPair, dFst, dLIxE, wSet0, dSAdd, dSIn, dUnpPop, dIfNm, dNever, dUnpStar, wSplit, dRetOwn, dValsO, wDictO, dLNew, dLGet, dLGetG, dLIx, dLPut, dGrp, dSortO, dDIx, wSortSet, wLenSetC, dListZ, wEqE, wNeE, dDict0, dDict1, dStar, seqD, datas_map, dDNew, dDGet, dDPut, dOwnT, dNoRt, dFirst, dCallW, dSet, dOwn, dNext, dRet, dIfS, dIf, dTest, dNot, dAnd, dOr, dAndV, dOrV, dNotV, dNeg, dOp, vw2, onB, onI, onO, onD, onI1, onI2, onN, onS, on2, on3, dAppend, dSetIx, dVar, dC, dCB, dCons, dNil, dTup, dLst, dCall, dSl, dNoPart, dPart, dSeqI, dRange1, dRange2, dEnum, dZip, dPar2, dPar3, dUnp, gdName, gdNil, gdCons, gdTup, dYes, dPass, dBreak, dCont, dRetO, dFrz, startD, view, views, datas, fixR, dat, setR, retR, asArg, Dl.argsOk, Dl.argOk, itemsOf, wSl, dStep, wStep, wAdd, wI, wIC, wB, wLt, wIsN, wNotN, isNone, wMul, wMulA, dAug, wIx, wLen, wAbs, wMax, wMin, wInt, wStr, wTuple, wList, onT, dMs, wCount, dChain, dListR1, dListR2, dExtend, dCallK, dCat, pick_nil, pick_cons, wIn, wNotIn, setO, dPar2o, dPar3o, wRjust, dIsI, List.length_cons, List.length_nil, List.map_cons, List.map_nil, List.replicate_succ, List.replicate_zero, List.cons_append, List.nil_append, List.append_nil, List.getElem?_cons_zero, List.getElem?_cons_succ, List.set_cons_zero, List.set_cons_succ, Option.some.injEq, Option.map_some, Option.bind_some, exists_eq_left', exists_eq_left, RV.d.injEq, PyData.int.injEq, PyData.bool.injEq, PyData.tuple.injEq, PyData.list.injEq, List.cons.injEq, and_true, true_and, decide_true, Bool.not_true, Bool.not_false, Bool.false_eq_true, if_true, if_false, Nat.reduceSub, Nat.reduceAdd])
local macro_rules | `(tactic| walk_at "dx") => `(tactic| try simp only [dPopAt, wSortL, wSortSetP, wLtP, dLenX, dSet1, dSInV, wMaxT, wMinT, dTryRetY, dIsY, dYFld, dZipX, dTryX, dTryRet, dIsX, dXFld, dRaiseX, allD, wMaxL, wMinL, dDKnew, dDKaug, dDKix, dDKsort, wSortSetI, dUnpPair, dAugIx, dFld, wIsB, dCallY, dCallYK, dListY, dTupY, dYieldZ, dIfZ, dPlainZ, dNilZ, gdLst, dPar4o, dRetPair, dFst, dLIxE, wSet0, dSAdd, dSIn, dUnpPop, dIfNm, dNever, dUnpStar, wSplit, dRetOwn, dValsO, wDictO, dLNew, dLGet, dLGetG, dLIx, dLPut, dGrp, dSortO, dDIx, wSortSet, wLenSetC, dListZ, wEqE, wNeE, dDict0, dDict1, dStar, seqD, datas_map, dDNew, dDGet, dDPut, dOwnT, dNoRt, dFirst, dCallW, dSet, dOwn, dNext, dRet, dIfS, dIf, dTest, dNot, dAnd, dOr, dAndV, dOrV, dNotV, dNeg, dOp, vw2, onB, onI, onO, onD, onI1, onI2, onN, onS, on2, on3, dAppend, dSetIx, dVar, dC, dCB, dCons, dNil, dTup, dLst, dCall, dSl, dNoPart, dPart, dSeqI, dRange1, dRange2, dEnum, dZip, dPar2, dPar3, dUnp, gdName, gdNil, gdCons, gdTup, dYes, dPass, dBreak, dCont, dRetO, dFrz, startD, view, views, datas, fixR, dat, setR, retR, asArg, Dl.argsOk, Dl.argOk, itemsOf, wSl, dStep, wStep, wAdd, wI, wIC, wB, wLt, wIsN, wNotN, isNone, wMul, wMulA, dAug, wIx, wLen, wAbs, wMax, wMin, wInt, wStr, wTuple, wList, onT, dMs, wCount, dChain, dListR1, dListR2, dExtend, dCallK, dCat, pick_nil, pick_cons, wIn, wNotIn, setO, dPar2o, dPar3o, wRjust, dIsI, List.length_cons, List.length_nil, List.map_cons, List.map_nil, List.replicate_succ, List.replicate_zero, List.cons_append, List.nil_append, List.append_nil, List.getElem?_cons_zero, List.getElem?_cons_succ, List.set_cons_zero, List.set_cons_succ, Option.some.injEq, Option.map_some, Option.bind_some, exists_eq_left', exists_eq_left, RV.d.injEq, PyData.int.injEq, PyData.bool.injEq, PyData.tuple.injEq, PyData.list.injEq, List.cons.injEq, and_true, true_and, decide_true, Bool.not_true, Bool.not_false, Bool.false_eq_true, if_true, if_false, Nat.reduceSub, Nat.reduceAdd])
local macro_rules | `(tactic| walk_at "ds") => `(tactic| try simp only [dSeq, wEq, wNe, dPopAt, wSortL, wSortSetP, wLtP, dLenX, dSet1, dSInV, wMaxT, wMinT, dTryRetY, dIsY, dYFld, dZipX, dTryX, dTryRet, dIsX, dXFld, dRaiseX, allD, wMaxL, wMinL, dDKnew, dDKaug, dDKix, dDKsort, wSortSetI, dUnpPair, dAugIx, dFld, wIsB, dCallY, dCallYK, dListY, dTupY, dYieldZ, dIfZ, dPlainZ, dNilZ, gdLst, dPar4o, dRetPair, dFst, dLIxE, wSet0, dSAdd, dSIn, dUnpPop, dIfNm, dNever, dUnpStar, wSplit, dRetOwn, dValsO, wDictO, dLNew, dLGet, dLGetG, dLIx, dLPut, dGrp, dSortO, dDIx, wSortSet, wLenSetC, dListZ, wEqE, wNeE, dDict0, dDict1, dStar, seqD, datas_map, dDNew, dDGet, dDPut, dOwnT, dNoRt, dFirst, dCallW, dSet, dOwn, dNext, dRet, dIfS, dIf, dTest, dNot, dAnd, dOr, dAndV, dOrV, dNotV, dNeg, dOp, vw2, onB, onI, onO, onD, onI1, onI2, onN, onS, on2, on3, dAppend, dSetIx, dVar, dC, dCB, dCons, dNil, dTup, dLst, dCall, dSl, dNoPart, dPart, dSeqI, dRange1, dRange2, dEnum, dZip, dPar2, dPar3, dUnp, gdName, gdNil, gdCons, gdTup, dYes, dPass, dBreak, dCont, dRetO, dFrz, startD, view, views, datas, fixR, dat, setR, retR, asArg, Dl.argsOk, Dl.argOk, itemsOf, wSl, dStep, wStep, wAdd, wI, wIC, wB, wLt, wIsN, wNotN, isNone, wMul, wMulA, dAug, wIx, wLen, wAbs, wMax, wMin, wInt, wStr, wTuple, wList, onT, dMs, wCount, dChain, dListR1, dListR2, dExtend, dCallK, dCat, pick_nil, pick_cons, wIn, wNotIn, setO, dPar2o, dPar3o, wRjust, dIsI, List.length_cons, List.length_nil, List.map_cons, List.map_nil, List.replicate_succ, List.replicate_zero, List.cons_append, List.nil_append, List.append_nil, List.getElem?_cons_zero, List.getElem?_cons_succ, List.set_cons_zero, List.set_cons_succ, Option.some.injEq, Option.map_some, Option.bind_some, exists_eq_left', exists_eq_left, RV.d.injEq, PyData.int.injEq, PyData.bool.injEq, PyData.tuple.injEq, PyData.list.injEq, List.cons.injEq, and_true, true_and, decide_true, Bool.not_true, Bool.not_false, Bool.false_eq_true, if_true, if_false, Nat.reduceSub, Nat.reduceAdd])
local macro_rules | `(tactic| walk_at "dm") => `(tactic| try simp only [ofE, ofT, ofS, dIfSM, dSetM, dAugM, dExprM, dRetM, setM, okM, Dl.stM, dOpM, dTestM, dNotM, dAndM, dOrM, dIfM, dNilM, dConsM, dLstM, dTupM, dFldM, dMethM, dMeth0M, dPropM, dMakeM, dMake0M, dCallOM, dBinM, wInO, wNotInO, wIxO, wInD, wIxD, dLenOM, dLenDM, dGetDM, dGetDGM, dAppM, dPlainM, dCallM, dCallKM, dLstO, dAddO, dLstA, dAppA, dTupD, dCatX, dAddA, dSlX, dSetFldM, dSetFld2M, dNewLM, dPar2M, dParB, dNewDM, dPutDM, dUnpFM, dLendN, lendR, noLst, noLsts, dLcItM, dLcIuM, noOwn, nOwn, dLendM, dYesM, dMatchM, wCaseM, dNeverM, dCBM, dAndVM, dOrVM, dNotVM, dLendS, dAdoptS, dFrzM, dNextM, InsAt, DicAt, argsIn, argIn, RV.obj.injEq, PyData.str.injEq, reduceCtorEq, dTupX, dAsT, dAsTT, dDatM, dDictT, dPar3M, dSetAsT, wEq, wNe, dPopAt, wSortL, wSortSetP, wLtP, dLenX, dSet1, dSInV, wMaxT, wMinT, dTryRetY, dIsY, dYFld, dZipX, dTryX, dTryRet, dIsX, dXFld, dRaiseX, allD, wMaxL, wMinL, dDKnew, dDKaug, dDKix, dDKsort, wSortSetI, dUnpPair, dAugIx, dFld, wIsB, dCallY, dCallYK, dListY, dTupY, dYieldZ, dIfZ, dPlainZ, dNilZ, gdLst, dPar4o, dRetPair, dFst, dLIxE, wSet0, dSAdd, dSIn, dUnpPop, dIfNm, dNever, dUnpStar, wSplit, dRetOwn, dValsO, wDictO, dLNew, dLGet, dLGetG, dLIx, dLPut, dGrp, dSortO, dDIx, wSortSet, wLenSetC, dListZ, wEqE, wNeE, dDict0, dDict1, dStar, seqD, datas_map, dDNew, dDGet, dDPut, dOwnT, dNoRt, dFirst, dCallW, dSet, dOwn, dNext, dRet, dIfS, dIf, dTest, dNot, dAnd, dOr, dAndV, dOrV, dNotV, dNeg, dOp, vw2, onB, onI, onO, onD, onI1, onI2, onN, onS, on2, on3, dAppend, dSetIx, dVar, dC, dCB, dCons, dNil, dTup, dLst, dCall, dSl, dNoPart, dPart, dSeqI, dRange1, dRange2, dEnum, dZip, dPar2, dPar3, dUnp, gdName, gdNil, gdCons, gdTup, dYes, dPass, dBreak, dCont, dRetO, dFrz, startD, view, views, datas, fixR, dat, setR, retR, asArg, Dl.argsOk, Dl.argOk, itemsOf, wSl, dStep, wStep, wAdd, wI, wIC, wB, wLt, wIsN, wNotN, isNone, wMul, wMulA, dAug, wIx, wLen, wAbs, wMax, wMin, wInt, wStr, wTuple, wList, onT, dMs, wCount, dChain, dListR1, dListR2, dExtend, dCallK, dCat, pick_nil, pick_cons, wIn, wNotIn, setO, dPar2o, dPar3o, wRjust, dIsI, List.length_cons, List.length_nil, List.map_cons, List.map_nil, List.replicate_succ, List.replicate_zero, List.cons_append, List.nil_append, List.append_nil, List.getElem?_cons_zero, List.getElem?_cons_succ, List.set_cons_zero, List.set_cons_succ, Option.some.injEq, Option.map_some, Option.bind_some, exists_eq_left', exists_eq_left, RV.d.injEq, PyData.int.injEq, PyData.bool.injEq, PyData.tuple.injEq, PyData.list.injEq, List.cons.injEq, and_true, true_and, decide_true, Bool.not_true, Bool.not_false, Bool.false_eq_true, if_true, if_false, Nat.reduceSub, Nat.reduceAdd])
noncomputable def topS (i : Nat) : Stmt := PySem.Challenge.pw_pastenough_k86_whole_no_fixed_table_is_b.main.body.getD i (.Pass ⟨0, 0, 0, 0⟩)
noncomputable abbrev s__law_take : Stmt := topS 20
theorem sc__law_take : FnScope ["_law_box_here", "_law_many", "_law_digit", "_law_drawn"] ["_law_box_here", "_law_many"] (defScope s__law_take) := ⟨rfl, rfl, rfl, by decide +kernel, rfl, by decide +kernel, by decide +kernel⟩
noncomputable abbrev s__law_box : Stmt := topS 19
theorem sc__law_box : FnScope ["_law_script", "_law_k", "_law_digits", "_law_own"] ["_law_script", "_law_k"] (defScope s__law_box) := ⟨rfl, rfl, rfl, by decide +kernel, rfl, by decide +kernel, by decide +kernel⟩
noncomputable abbrev s__law_of : Stmt := topS 21
theorem sc__law_of : FnScope ["_law_box_here", "_law_some"] ["_law_box_here", "_law_some"] (defScope s__law_of) := ⟨rfl, rfl, rfl, by decide +kernel, rfl, by decide +kernel, by decide +kernel⟩
noncomputable abbrev s__law_row : Stmt := topS 22
theorem sc__law_row : FnScope ["_law_box_here", "_law_most", "_law_size", "_law_kind", "_law_piece", "_law_found", "_law_is_kept", "_law_turn"] ["_law_box_here", "_law_most"] (defScope s__law_row) := ⟨rfl, rfl, rfl, by decide +kernel, rfl, by decide +kernel, by decide +kernel⟩
noncomputable abbrev s__law_loop : Stmt := topS 23
theorem sc__law_loop : FnScope ["_law_box_here", "_law_most", "_law_homes", "_law_row_here", "_law_kind", "_law_some", "_law_first", "_law_found", "_law_deed", "_law_at"] ["_law_box_here", "_law_most", "_law_homes"] (defScope s__law_loop) := ⟨rfl, rfl, rfl, by decide +kernel, rfl, by decide +kernel, by decide +kernel⟩
noncomputable abbrev s__law_plan : Stmt := topS 24
theorem sc__law_plan : FnScope ["_law_box_here", "_law_most", "_law_size", "_law_kind"] ["_law_box_here", "_law_most"] (defScope s__law_plan) := ⟨rfl, rfl, rfl, by decide +kernel, rfl, by decide +kernel, by decide +kernel⟩
noncomputable abbrev s_steady_history : Stmt := topS 5
theorem sc_steady_history : FnScope ["trace", "scheme", "position", "length", "branch", "pairs", "row", "wide", "other", "outcome"] ["trace", "scheme", "position"] (defScope s_steady_history) := ⟨rfl, rfl, rfl, by decide +kernel, rfl, by decide +kernel, by decide +kernel⟩
noncomputable abbrev s_fold : Stmt := topS 6
theorem sc_fold : FnScope ["history", "bits", "branch", "back", "pieces", "at"] ["history", "bits", "branch"] (defScope s_fold) := ⟨rfl, rfl, rfl, by decide +kernel, rfl, by decide +kernel, by decide +kernel⟩
noncomputable abbrev s_cell_of : Stmt := topS 7
theorem sc_cell_of : FnScope ["scheme", "branch", "history"] ["scheme", "branch", "history"] (defScope s_cell_of) := ⟨rfl, rfl, rfl, by decide +kernel, rfl, by decide +kernel, by decide +kernel⟩
noncomputable abbrev s_steady_cells : Stmt := topS 8
theorem sc_steady_cells : FnScope ["trace", "scheme", "pairs", "at", "branch", "history"] ["trace", "scheme"] (defScope s_steady_cells) := ⟨rfl, rfl, rfl, by decide +kernel, rfl, by decide +kernel, by decide +kernel⟩
noncomputable abbrev s_groups : Stmt := topS 10
theorem sc_groups : FnScope ["trace", "scheme", "found", "position", "cell"] ["trace", "scheme"] (defScope s_groups) := ⟨rfl, rfl, rfl, by decide +kernel, rfl, by decide +kernel, by decide +kernel⟩
noncomputable abbrev s__law_folded : Stmt := topS 25
theorem sc__law_folded : FnScope ["_law_past_here", "_law_width", "_law_home", "_law_found", "_law_number", "_law_sign"] ["_law_past_here", "_law_width", "_law_home"] (defScope s__law_folded) := ⟨rfl, rfl, rfl, by decide +kernel, rfl, by decide +kernel, by decide +kernel⟩
noncomputable abbrev s__law_cell : Stmt := topS 26
theorem sc__law_cell : FnScope ["_law_plan_here", "_law_home", "_law_past_here"] ["_law_plan_here", "_law_home", "_law_past_here"] (defScope s__law_cell) := ⟨rfl, rfl, rfl, by decide +kernel, rfl, by decide +kernel, by decide +kernel⟩
noncomputable abbrev s__law_past : Stmt := topS 27
theorem sc__law_past : FnScope ["_law_loop_here", "_law_plan_here", "_law_time", "_law_found", "_law_here", "_law_home", "_law_deed"] ["_law_loop_here", "_law_plan_here", "_law_time"] (defScope s__law_past) := ⟨rfl, rfl, rfl, by decide +kernel, rfl, by decide +kernel, by decide +kernel⟩
noncomputable abbrev s__law_steady : Stmt := topS 28
theorem sc__law_steady : FnScope ["_law_loop_here", "_law_plan_here", "_law_late", "_law_at", "_law_home", "_law_deed"] ["_law_loop_here", "_law_plan_here"] (defScope s__law_steady) := ⟨rfl, rfl, rfl, by decide +kernel, rfl, by decide +kernel, by decide +kernel⟩
noncomputable abbrev s_sides : Stmt := topS 13
theorem sc_sides : FnScope ["trace", "positions", "outcome", "at"] ["trace", "positions"] (defScope s_sides) := ⟨rfl, rfl, rfl, by decide +kernel, rfl, by decide +kernel, by decide +kernel⟩
noncomputable abbrev s_sides_of : Stmt := topS 14
theorem sc_sides_of : FnScope ["trace", "scheme", "cell", "positions"] ["trace", "scheme"] (defScope s_sides_of) := ⟨rfl, rfl, rfl, by decide +kernel, rfl, by decide +kernel, by decide +kernel⟩
noncomputable abbrev s_fewest_errors : Stmt := topS 15
theorem sc_fewest_errors : FnScope ["trace", "scheme", "cell", "zeros", "ones"] ["trace", "scheme"] (defScope s_fewest_errors) := ⟨rfl, rfl, rfl, by decide +kernel, rfl, by decide +kernel, by decide +kernel⟩
noncomputable abbrev s_best_table : Stmt := topS 16
theorem sc_best_table : FnScope ["trace", "scheme", "cell", "zeros", "ones"] ["trace", "scheme"] (defScope s_best_table) := ⟨rfl, rfl, rfl, by decide +kernel, rfl, by decide +kernel, by decide +kernel⟩
noncomputable abbrev s_table_errors : Stmt := topS 12
theorem sc_table_errors : FnScope ["trace", "scheme", "table", "outcome_by", "found", "cell", "positions", "at"] ["trace", "scheme", "table"] (defScope s_table_errors) := ⟨rfl, rfl, rfl, by decide +kernel, rfl, by decide +kernel, by decide +kernel⟩
noncomputable abbrev s_forced : Stmt := topS 17
theorem sc_forced : FnScope ["trace", "scheme", "found", "cell", "zeros", "ones", "pair"] ["trace", "scheme"] (defScope s_forced) := ⟨rfl, rfl, rfl, by decide +kernel, rfl, by decide +kernel, by decide +kernel⟩
noncomputable abbrev s__law_tables : Stmt := topS 29
theorem sc__law_tables : FnScope ["_law_box_here", "_law_cells", "_law_spots", "_law_found", "_law_spot", "_law_turn", "_law_some"] ["_law_box_here", "_law_cells"] (defScope s__law_tables) := ⟨rfl, rfl, rfl, by decide +kernel, rfl, by decide +kernel, by decide +kernel⟩
noncomputable abbrev s__law_table_right : Stmt := topS 30
theorem sc__law_table_right : FnScope ["_law_loop_here", "_law_plan_here", "_law_cells", "_law_some", "_law_pairs", "_law_least", "_law_held", "_law_wrong", "_law_at", "_law_home", "_law_deed", "_law_to"] ["_law_loop_here", "_law_plan_here", "_law_cells", "_law_some", "_law_pairs", "_law_least"] (defScope s__law_table_right) := ⟨rfl, rfl, rfl, by decide +kernel, rfl, by decide +kernel, by decide +kernel⟩
noncomputable abbrev s__law_right : Stmt := topS 31
theorem sc__law_right : FnScope ["_law_box_here", "_law_loop_here", "_law_plan_here", "_law_cells", "_law_least", "_law_pairs", "_law_tables_here", "_law_best", "_law_some"] ["_law_box_here"] (defScope s__law_right) := ⟨rfl, rfl, rfl, by decide +kernel, rfl, by decide +kernel, by decide +kernel⟩
noncomputable abbrev s_law : Stmt := topS 32
theorem sc_law : FnScope ["_law_script", "_law_k", "_law_box_here", "_law_turn"] ["_law_script"] (defScope s_law) := ⟨rfl, rfl, rfl, by decide +kernel, rfl, by decide +kernel, by decide +kernel⟩
section
variable {P : Program} {w : World} {K : PySem.W.Frag} {mg : Str → Option Value} {base : Heap}
theorem ok__law_take {f : Addr} {fd : FuncData} (F : Fun K "_law_take" "_law_take" s__law_take f fd) (hm : mg "_law_take" = some (.ref f)) (hb : Binds K fd ["_law_box_here", "_law_many"] []) : Def P w K mg base 1 "_law_take" ["_law_box_here", "_law_many"] spTake := by
  refine ⟨f, fd, fng_of F sc__law_take (fun vs H Q E h => ?_) (fun cdv A outer s H vs Q hr hg h => ?_), hm, F.kp, hb⟩
  · obtain ⟨rs, n, B, bxs, Qd, g, vr, ai, ⟨m, rfl, _⟩, q⟩ := h
    rw [← vals_len vr]
    rfl
  · obtain ⟨rs, n, B, bxs, Qd, g, vr, ai, ⟨m, rfl, h0, h1, hn, hq⟩, q⟩ := h
    obtain ⟨b, rfl, hbx⟩ : ∃ b, vs = [.ref b, .int m] ∧ b ∈ bxs := by
      match vs, vr with
      | [v, u], ⟨⟨b, e, hb⟩, e2, _⟩ =>
        have e3 : Dl.Dp K B u (.int m) := e2
        cases e3
        exact ⟨b, by rw [e], hb⟩
    obtain ⟨o, z, c, hH, o0, o1, z0, z1, hc⟩ := (g.box b hbx).2
    refine ⟨_, pss_cons (ps_if (pt_cmpR op_gt (pe_ix ix_list (pv 0) pe_int (fun _ _ => rfl)) pe_int (nomark _))
        (pss_cons (ps_set (i := 2) sc__law_take.nd rfl (.inl rfl) (pe_op op_mod (pe_ix ix_list (pv 0) pe_int (fun _ _ => rfl)) (pv 1)))
        (pss_cons (ps_asg (pe_op op_fdivW (pe_ix ix_list (pv 0) pe_int (fun _ _ => rfl)) (pv 1)) (pg_sub (pv 0) pe_int set_list)) (pss_one (ps_ret (pv 2))))) pss_nil)
      (pss_cons (ps_asg (pe_op op_add (pe_ix ix_list (pv 0) pe_int (fun _ _ => rfl)) pe_int) (pg_sub (pv 0) pe_int set_list))
      (pss_cons (ps_set (i := 3) sc__law_take.nd rfl (.inl rfl) (pe_op op_mod (pe_op op_mulW (pe_op op_add (pe_op op_add (pe_ix ix_list (pv 0) pe_int (fun _ _ => rfl)) (pe_op op_mulW (pe_op op_mulW pe_int (pe_ix ix_list (pv 0) pe_int (fun _ _ => rfl))) (pe_ix ix_list (pv 0) pe_int (fun _ _ => rfl)))) pe_int) pe_int) pe_int))
      (pss_cons (ps_set (i := 3) sc__law_take.nd rfl (.inl rfl) (pe_op op_mod (pe_op op_mulW (pv 3) (pe_op op_add (pe_op op_mod (pv 3) pe_int) (pe_op op_mulW pe_int (pe_ix ix_list (pv 0) pe_int (fun _ _ => rfl))))) pe_int))
      (pss_one (ps_ret (pe_op op_mod (pe_op op_add (pe_op op_fdivW (pv 3) pe_int) (pe_op op_fdivW (pv 3) pe_int)) (pv 1))))))), ?_⟩
    have hS := SqL.of (K := K) hH
    refine ⟨_, rfl, b, _, 0, .int o, rfl, rfl, hS, rfl, _, _, rfl, rfl, _, rfl, ite2 (fun hp => ?_) (fun hp => ?_)⟩
    · have op : 0 < o := of_decide_eq_true hp
      refine ⟨_, rfl, b, _, 0, .int o, rfl, rfl, hS, rfl, _, rfl, o, m, rfl, rfl, h0, ?_⟩
      refine ⟨_, rfl, b, _, 0, .int o, rfl, rfl, hS, rfl, _, rfl, o, m, rfl, rfl, divOk 64 h0 h1, ?_⟩
      refine ⟨_, rfl, b, _, 0, 0, rfl, rfl, hH, rfl, ?_⟩
      refine ⟨_, rfl, ?_⟩
      refine q (.d (.int (o % m))) (n + 1) _ B _ (hq _ (Int.emod_nonneg _ (by omega)) (Int.emod_lt_of_pos _ h0)) trivial (box_step g hbx (Int.ediv_nonneg o0 (by omega)) (Int.lt_of_le_of_lt (Int.ediv_le_self _ o0) o1) z0 z1 (Nat.le_succ_of_le hc)) (.int _) trivial
    · refine ⟨_, rfl, b, _, 2, .int (c : Int), rfl, rfl, hS, rfl, (c : Int), 1, rfl, rfl, ?_⟩
      refine ⟨_, rfl, b, _, 2, 2, rfl, rfl, hH, rfl, ?_⟩
      have hS2 := SqL.of (K := K) (H := L2.upd H b (.lst [.int o, .int z, .int ((c : Int) + 1)])) (a := b) (xs := [.int o, .int z, .int ((c : Int) + 1)]) upd_same
      have c0 : (0 : Int) ≤ (c : Int) + 1 := by omega
      have c1 : (c : Int) + 1 < 2 ^ 61 := by
        have : (2 : Nat) ^ 60 = 1152921504606846976 := by decide
        have : (2 : Int) ^ 61 = 2305843009213693952 := by decide
        omega
      have n1 := natAbs_lt c0 c1
      have n2 : ((65543 : Int)).natAbs < 2 ^ 17 := by decide
      have n3 := wide_lt n2 n1
      have n4 := wide_lt n3 n1
      have p4 : 0 ≤ 65543 * ((c : Int) + 1) * ((c : Int) + 1) := Int.mul_nonneg (Int.mul_nonneg (by decide) c0) c0
      have n5 : (z + 65543 * ((c : Int) + 1) * ((c : Int) + 1) + 23).natAbs < 2 ^ 140 := by
        have e1 : (2 : Nat) ^ (17 + 61 + 61) = 696898287454081973172991196020261297061888 := by decide
        have e2 : (2 : Nat) ^ 140 = 1393796574908163946345982392040522594123776 := by decide
        have e3 : (2 : Int) ^ 62 = 4611686018427387904 := by decide
        rw [e1] at n4
        rw [e2]
        omega
      refine ⟨_, rfl, b, _, 1, .int z, rfl, rfl, hS2, rfl, _, rfl, b, _, 2, .int ((c : Int) + 1), rfl, rfl, hS2, rfl, 65543, (c : Int) + 1, rfl, rfl, mulOk 17 61 n2 n1,
        _, rfl, b, _, 2, .int ((c : Int) + 1), rfl, rfl, hS2, rfl, _, (c : Int) + 1, rfl, rfl, mulOk (17 + 61) 61 n3 n1, z, _, rfl, rfl, _, 23, rfl, rfl, _, 48313, rfl, rfl, mulOk 140 16 n5 (by decide), _, 2305843009213693921, rfl, rfl, (by show (0 : Int) < _; decide), ?_⟩
      dsimp only
      generalize hd1 : (z + 65543 * ((c : Int) + 1) * ((c : Int) + 1) + 23) * 48313 % 2305843009213693921 = d1
      have d10 : 0 ≤ d1 := by rw [← hd1]; exact Int.emod_nonneg _ (by decide)
      have d11 : d1 < 2 ^ 61 := by
        rw [← hd1]
        have : (2 : Int) ^ 61 = 2305843009213693952 := by decide
        have := Int.emod_lt_of_pos ((z + 65543 * ((c : Int) + 1) * ((c : Int) + 1) + 23) * 48313) (show (0 : Int) < 2305843009213693921 by decide)
        omega
      have n6 := natAbs_lt d10 d11
      have n7 := wide_lt (show ((99991 : Int)).natAbs < 2 ^ 17 by decide) n1
      have q0 := Int.emod_nonneg d1 (show (1000033 : Int) ≠ 0 by decide)
      have q1 := Int.emod_lt_of_pos d1 (show (0 : Int) < 1000033 by decide)
      have p7 : 0 ≤ 99991 * ((c : Int) + 1) := Int.mul_nonneg (by decide) c0
      have n8 : (d1 % 1000033 + 99991 * ((c : Int) + 1)).natAbs < 2 ^ 80 := by
        have e1 : (2 : Nat) ^ (17 + 61) = 302231454903657293676544 := by decide
        have e2 : (2 : Nat) ^ 80 = 1208925819614629174706176 := by decide
        rw [e1] at n7
        rw [e2]
        omega
      refine ⟨_, rfl, _, rfl, d1, 1000033, rfl, rfl, (by show (0 : Int) < _; decide), _, rfl, b, _, 2, .int ((c : Int) + 1), rfl, rfl, hS2, rfl, 99991, (c : Int) + 1, rfl, rfl, mulOk 17 61 (by decide) n1, _, _, rfl, rfl, d1, _, rfl, rfl, mulOk 61 80 n6 n8, _, 2305843009213693907, rfl, rfl, (by show (0 : Int) < _; decide), ?_⟩
      refine ⟨_, rfl, _, 107, rfl, rfl, divOk 7 (by decide) (by decide), _, rfl, _, 1000037, rfl, rfl, divOk 20 (by decide) (by decide), _, _, rfl, rfl, _, rfl, _, m, rfl, rfl, h0, ?_⟩
      have ec : ((c : Int) + 1) = ((c + 1 : Nat) : Int) := by omega
      rw [ec]
      exact q (.d (.int _)) (n + 1) _ B _ (hq _ (Int.emod_nonneg _ (by omega)) (Int.emod_lt_of_pos _ h0)) trivial (box_step g hbx o0 o1 z0 z1 (by omega)) (.int _) trivial
theorem ok__law_box {f : Addr} {fd : FuncData} (F : Fun K "_law_box" "_law_box" s__law_box f fd) (hm : mg "_law_box" = some (.ref f)) (hb : Binds K fd ["_law_script", "_law_k"] []) (m_len : mg "len" = none) (m_abs : mg "abs" = none) (m_int : mg "int" = none) : Def P w K mg base 1 "_law_box" ["_law_script", "_law_k"] spBox := by
  refine box_of (def_mk (k := 0) F sc__law_box hm hb ?hlen (fun cdv A outer s H E hr => (lss_cons (ls_set 2 sc__law_box.nd (le_if (lt_cmp lo_lt (le_var 1) (le_callB lc_len (by rfl) m_len (by decide +kernel) (la_cons (le_var 0) la_nil)) (nomark _)) (le_ix (le_var 0) (le_var 1)) (le_op lo_add (le_op lo_mulA le_int (le_var 1)) le_int)))
  (lss_cons (ls_set 3 sc__law_box.nd (le_op lo_mulA (le_op lo_mod (le_callB lc_abs (by rfl) m_abs (by decide +kernel) (la_cons (le_var 2) la_nil)) (le_op lo_powW (le_op lo_powW le_int le_int) le_int)) (le_callTy lc_int (by rfl) m_int (by decide +kernel) (la_cons (le_cmp lo_ge (le_callB lc_abs (by rfl) m_abs (by decide +kernel) (la_cons (le_var 2) la_nil)) (le_op lo_powW le_int le_int) (nomark _)) la_nil))))
  (lss_one (ls_ret (le_lst (la_cons (le_var 3) (la_cons (le_op lo_mod (le_op lo_add (le_op lo_add (le_op lo_mulA (le_op lo_mod (le_var 2) le_int) le_int) (le_op lo_mulA (le_op lo_mulA le_int (le_var 1)) (le_var 1))) le_int) le_int) (la_cons le_int la_nil))))))))) ?hd)
  case hlen =>
    rintro rs n Q ⟨ns, k, rfl, _⟩
    rfl
  case hd =>
    rintro rs n Qd _ ⟨ns, k, rfl, h63, hbits, k0, k1, hq⟩
    refine seq_def _ _ _ _ _ (fun R hR => ?_)
    walk_at "ds"
    have key : ∀ dg : Int, R [some (.d (.list (ns.map PyData.int))), some (.d (.int k)), some (.d (.int dg)), none] n := by
      intro dg
      rw [hR]
      clear hR R
      refine seq_def _ _ _ _ _ (fun R hR => ?_)
      walk_at "ds"
      generalize hA : (if dg < 0 then -dg else dg) = A
      have eT : ((10 : Int) ^ Int.toNat 60) ^ Int.toNat 5 = 10 ^ 300 := by decide +kernel
      rw [eT]
      have b0 : (0 : Int) ≤ A % 10 ^ 300 := Int.emod_nonneg _ (by decide +kernel)
      have b1 : A % 10 ^ 300 < 2 ^ 1000 := Int.lt_trans (Int.emod_lt_of_pos A (show (0 : Int) < 10 ^ 300 by decide +kernel)) (by decide +kernel)
      refine ⟨⟨by decide, by decide +kernel⟩, ⟨by decide, by decide +kernel⟩, by decide +kernel, ⟨by decide, by decide +kernel⟩, ?_, ?_⟩
      · refine mulOk 1000 1 (natAbs_lt b0 b1) ?_
        split <;> decide
      · rw [hR]
        clear hR R
        walk_at "ds"
        have c0 : (0 : Int) ≤ dg % 2305843009213693951 := Int.emod_nonneg _ (by decide)
        have c1 : dg % 2305843009213693951 < 2 ^ 61 := Int.lt_trans (Int.emod_lt_of_pos _ (by decide)) (by decide)
        have k2 : k.natAbs < 2 ^ 10 := natAbs_lt k0 (by omega)
        have k3 := wide_lt (show ((5303 : Int)).natAbs < 2 ^ 13 by decide) k2
        refine ⟨by decide, mulOk 61 17 (natAbs_lt c0 c1) (by decide), mulOk 13 10 (by decide) k2, mulOk (13 + 10) 10 k3 k2, by decide, by decide, ?_⟩
        refine hq _ _ ?_ ?_ (Int.emod_nonneg _ (by decide)) (Int.lt_trans (Int.emod_lt_of_pos _ (by decide)) (by decide))
        · split
          · omega
          · omega
        · split
          · omega
          · rw [Int.mul_zero]; decide +kernel
    refine if_bool (fun h => ?_) (fun h => ?_)
    · have h1 : k < ((ns.map PyData.int).length : Int) := of_decide_eq_true h
      rw [List.length_map] at h1
      have h2 : k.toNat < ns.length := by omega
      refine ⟨.int ns[k.toNat], atI_of k0 ?_, key _⟩
      rw [List.getElem?_map, List.getElem?_eq_getElem h2]
      rfl
    · exact ⟨mulOk 5 10 (by decide) (natAbs_lt k0 (by omega)), key _⟩
/-! rows of outcomes -/
noncomputable abbrev dI (l : List Int) : List PyData := l.map PyData.int
noncomputable abbrev TI (l : List Int) : PyData := .tuple (dI l)
noncomputable def Bits (l : List Int) : Prop := ∀ x ∈ l, x = 0 ∨ x = 1
noncomputable def spOf : DSp := fun rs n Q => ∃ xs, rs = [.box, .d (.list xs)] ∧ xs ≠ [] ∧ xs.length ≤ 2000 ∧ n < 2 ^ 60 ∧ ∀ x ∈ xs, Q (.d x) (n + 1)
noncomputable def spRow : DSp := fun rs n Q => ∃ m : Int, rs = [.box, .d (.int m)] ∧ 1 ≤ m ∧ m ≤ 64 ∧ n < 2 ^ 59 ∧ ∀ (l : List Int) (n' : Nat), 1 ≤ l.length → (l.length : Int) ≤ m → Bits l → n' ≤ n + 200 → Q (.d (TI l)) n'
theorem len_pos {α : Type} {xs : List α} (h : xs ≠ []) : 0 < xs.length := by
  cases xs with
  | nil => exact absurd rfl h
  | cons a b => exact Nat.succ_pos _
theorem at_mem {α : Type} {xs : List α} {k : Int} (h0 : 0 ≤ k) (h1 : k < xs.length) : ∃ x ∈ xs, atI xs k = some x := by
  have h2 : k.toNat < xs.length := by omega
  exact ⟨xs[k.toNat], List.getElem_mem h2, atI_of h0 (List.getElem?_eq_getElem h2)⟩
theorem sIx_hi (n : Nat) (k : Int) (h0 : 0 ≤ k) (h1 : k ≤ n) : HT.sIx n n (some k) = k.toNat := by
  show (if k < 0 then (k + (n : Int)).toNat else min k.toNat n) = k.toNat
  rw [if_neg (by omega)]
  omega
theorem sIx_lo (n : Nat) (k : Int) (h0 : 0 ≤ k) (h1 : k ≤ n) : HT.sIx n 0 (some k) = k.toNat := by
  show (if k < 0 then (k + (n : Int)).toNat else min k.toNat n) = k.toNat
  rw [if_neg (by omega)]
  omega
theorem cut_take {xs : List PyData} {k : Int} (h0 : 0 ≤ k) (h1 : k ≤ xs.length) : Dl.cutD xs none (some k) = xs.take k.toNat := by
  unfold Dl.cutD
  rw [sIx_hi _ _ h0 h1, HT.sIx_none, List.drop_zero, Nat.sub_zero]
theorem cut_drop {xs : List PyData} {k : Int} (h0 : 0 ≤ k) (h1 : k ≤ xs.length) : Dl.cutD xs (some k) none = xs.drop k.toNat := by
  unfold Dl.cutD
  rw [sIx_lo _ _ h0 h1, HT.sIx_none, List.take_of_length_le]
  rw [List.length_drop]
  exact Nat.le_refl _
theorem ints_rep (n : Nat) (l : List Int) : (List.replicate n (dI l)).flatten = dI (List.replicate n l).flatten := by
  show (List.replicate n (l.map PyData.int)).flatten = (List.replicate n l).flatten.map PyData.int
  rw [List.map_flatten, List.map_replicate]
theorem bits_rep {n : Nat} {l : List Int} (h : Bits l) : Bits (List.replicate n l).flatten := by
  intro x hx
  obtain ⟨m, hm, hx⟩ := List.mem_flatten.mp hx
  rw [(List.mem_replicate.mp hm).2] at hx
  exact h x hx
theorem bits_app {l m : List Int} (h : Bits l) (h2 : Bits m) : Bits (l ++ m) := by
  intro x hx
  rcases List.mem_append.mp hx with q | q
  · exact h x q
  · exact h2 x q
theorem bits_take {l : List Int} (h : Bits l) (k : Nat) : Bits (l.take k) := fun x hx => h x (List.mem_of_mem_take hx)
theorem bits_one {x : Int} (h : x = 0 ∨ x = 1) : Bits [x] := by
  intro y hy
  rw [List.mem_singleton.mp hy]
  exact h
theorem bit_of {k : Int} (h0 : 0 ≤ k) (h1 : k < 2) : k = 0 ∨ k = 1 := by omega
theorem ok__law_of {f : Addr} {fd : FuncData} (F : Fun K "_law_of" "_law_of" s__law_of f fd) (hm : mg "_law_of" = some (.ref f)) (hb : Binds K fd ["_law_box_here", "_law_some"] []) (m_len : mg "len" = none) (D__law_take : Def P w K mg base 1 "_law_take" ["_law_box_here", "_law_many"] spTake) : Def P w K mg base 2 "_law_of" ["_law_box_here", "_law_some"] spOf := by
  refine def_mk (k := 1) F sc__law_of hm hb ?hlen (fun cdv A outer s H E hr => (lss_one (ls_ret (le_ix (le_var 1) (le_def D__law_take (hr.mono (by decide)) (by rfl) (la_cons (le_var 0) (la_cons (le_callB lc_len (by rfl) m_len (by decide +kernel) (la_cons (le_var 1) la_nil)) la_nil))))))) ?hd
  case hlen =>
    rintro rs n Q ⟨xs, rfl, _⟩
    rfl
  case hd =>
    rintro rs n Qd _ ⟨xs, rfl, h0, h1, hn, hq⟩
    have hl := len_pos h0
    walk_at "ds"
    refine ⟨(xs.length : Int), rfl, by omega, by omega, hn, fun k k0 k1 => ?_⟩
    obtain ⟨x, hx, e⟩ := at_mem k0 k1
    walk_at "ds"
    exact ⟨x, e, hq x hx⟩
theorem ok__law_row {f : Addr} {fd : FuncData} (F : Fun K "_law_row" "_law_row" s__law_row f fd) (hm : mg "_law_row" = some (.ref f)) (hb : Binds K fd ["_law_box_here", "_law_most"] []) (m_range : mg "range" = none) (m_min : mg "min" = none) (m_tuple : mg "tuple" = none) (m_len : mg "len" = none) (D__law_take : Def P w K mg base 1 "_law_take" ["_law_box_here", "_law_many"] spTake) : Def P w K mg base 2 "_law_row" ["_law_box_here", "_law_most"] spRow := by
  refine def_mk (k := 1) F sc__law_row hm hb ?hlen (fun cdv A outer s H E hr => (lss_cons (ls_par2 2 3 sc__law_row.nd (la_cons (le_op lo_add le_int (le_def D__law_take (hr.mono (by decide)) (by rfl) (la_cons (le_var 0) (la_cons (le_var 1) la_nil)))) (la_cons (le_def D__law_take (hr.mono (by decide)) (by rfl) (la_cons (le_var 0) (la_cons le_int la_nil))) la_nil)) rfl)
  (lss_cons (ls_if (lt_cmp (lo_eq hr.room.units) (le_var 3) le_int (nomark _)) (lss_one (ls_ret (le_op lo_add (le_op lo_mulA (le_tup (la_cons le_int la_nil)) (le_op lo_sub (le_var 2) le_int)) (le_tup (la_cons le_int la_nil))))) lss_nil)
  (lss_cons (ls_if (lt_cmp (lo_eq hr.room.units) (le_var 3) le_int (nomark _)) (lss_cons (ls_setLc 4 rfl sc__law_row.nd (own := [("_law_turn", 7)]) (li_range1 (by rfl) m_range (la_cons (le_op lo_add le_int (le_def D__law_take (hr.mono (by decide)) (by rfl) (la_cons (le_var 0) (la_cons (le_callB (lc_min rfl) (by rfl) m_min (by decide +kernel) (la_cons (le_var 2) (la_cons le_int la_nil))) la_nil)))) la_nil)) (by walk_at "lc") (fun _ _ _ _ _ => (lg_name (i := 7) sc__law_row.nd rfl (by first | exact Or.inl rfl | exact Or.inr rfl))) (fun _ _ _ _ _ => lts_nil) (fun _ _ _ _ _ => (le_def D__law_take (hr.mono (by decide)) (by rfl) (la_cons (le_var 0) (la_cons le_int la_nil)))) (sw_true rfl rfl rfl (by decide +kernel)))
  (lss_one (ls_ret (le_callTy lc_tuple (by rfl) m_tuple (by decide +kernel) (la_cons (le_sl (le_op lo_mulA (le_var 4) (le_var 2)) lo_none (lo_some (le_var 2))) la_nil))))) lss_nil)
  (lss_cons (ls_own 5 sc__law_row.nd (le_lst (la_cons (le_def D__law_take (hr.mono (by decide)) (by rfl) (la_cons (le_var 0) (la_cons le_int la_nil))) la_nil)))
  (lss_cons (ls_while PassesOwn.never (lt_cmp lo_lt (le_callB lc_len (by rfl) m_len (by decide +kernel) (la_cons (le_var 5) la_nil)) (le_var 2) (nomark _)) (lss_cons (ls_set 6 sc__law_row.nd (le_and (le_cmp (lo_eq hr.room.units) (le_var 3) le_int (nomark _)) (le_one (le_cmp lo_gt (le_def D__law_take (hr.mono (by decide)) (by rfl) (la_cons (le_var 0) (la_cons le_int la_nil))) le_int (nomark _)))))
  (lss_one (ls_append 5 (le_if (lt_val (le_var 6)) (le_ix (le_var 5) (le_neg le_int)) (le_def D__law_take (hr.mono (by decide)) (by rfl) (la_cons (le_var 0) (la_cons le_int la_nil))))))))
  (lss_one (ls_ret (le_callTy lc_tuple (by rfl) m_tuple (by decide +kernel) (la_cons (le_var 5) la_nil)))))))))) ?hd
  case hlen =>
    rintro rs n Q ⟨m, rfl, _⟩
    rfl
  case hd =>
    rintro rs n Qd _ ⟨m0, rfl, hm0, hm1, hn, hq⟩
    refine seq_def _ _ _ _ _ (fun R hR => ?_)
    walk_at "ds"
    refine ⟨m0, rfl, by omega, by omega, by omega, fun k k0 k1 => ?_⟩
    walk_at "ds"
    refine ⟨5, rfl, by decide, by decide, by omega, fun kd kd0 kd1 => ?_⟩
    walk_at "ds"
    refine Eq.mpr (hR _ _) ?_; clear hR
    refine seq_def _ _ _ _ _ (fun R hR => ?_)
    walk_at "ds"
    refine if_bool (fun _ => ?_) (fun _ => ?_)
    · refine ⟨by decide, ⟨by omega, by omega, by decide⟩, by decide, ?_, ?_⟩
      · show (List.replicate (1 + k - 1).toNat (dI [1])).flatten.length + 1 ≤ _
        rw [ints_rep, List.length_map, PyProof.Rows.lm_len_rep_flat]
        refine size_ok ?_
        show (1 + k - 1).toNat * 1 + 1 ≤ _
        omega
      · have e : (List.replicate (1 + k - 1).toNat [PyData.int 1]).flatten ++ [PyData.int 0] = dI ((List.replicate (1 + k - 1).toNat [(1 : Int)]).flatten ++ [0]) := by
          show (List.replicate (1 + k - 1).toNat (dI [1])).flatten ++ [PyData.int 0] = _
          rw [ints_rep, dI, dI, List.map_append]
          rfl
        rw [e]
        have el : ((List.replicate (1 + k - 1).toNat [(1 : Int)]).flatten ++ [0]).length = (1 + k - 1).toNat + 1 := by
          rw [List.length_append, PyProof.Rows.lm_len_rep_flat]
          show (1 + k - 1).toNat * 1 + 1 = _
          omega
        exact hq _ _ (by omega) (by omega) (bits_app (bits_rep (bits_one (.inr rfl))) (bits_one (.inl rfl))) (by omega)
    · refine Eq.mpr (hR _ _) ?_; clear hR
      refine seq_def _ _ _ _ _ (fun R hR => ?_)
      walk_at "de"
      refine if_bool (fun _ => ?_) (fun _ => ?_)
      · -- a piece, repeated
        refine seq_def _ _ _ _ _ (fun R hR => ?_)
        walk_at "de"
        refine lc_def _ _ _ _ _ _ _ _ (fun F hF => ?_)
        walk_at "de"
        have hmin : (if (4 : Int) < 1 + k then 4 else 1 + k) ≤ 4 ∧ 1 ≤ (if (4 : Int) < 1 + k then 4 else 1 + k) := by
          split <;> omega
        generalize (if (4 : Int) < 1 + k then 4 else 1 + k) = t at *
        refine ⟨t, rfl, by omega, by omega, by omega, fun j j0 j1 => ?_⟩
        walk_at "de"
        obtain ⟨Jv, hJ⟩ := inv3 (fun (i : Nat) (acc : List PyData) (m : Nat) => m ≤ n + 3 + i ∧ ∃ l : List Int, acc = dI l ∧ l.length = i ∧ Bits l)
        refine ⟨by omega, hF _ _ ⟨Jv, (hJ _ _ _).mpr ⟨by omega, [], rfl, rfl, fun x hx => nomatch hx⟩, fun i acc m z hv hz => ?_, fun acc m hv => ?_⟩⟩
        · obtain ⟨hm, l, rfl, hl, hb⟩ := (hJ _ _ _).mp hv
          obtain ⟨hi, rfl⟩ := range_get hz
          unfold wipeD wipeD
          walk_at "de"
          refine ⟨2, rfl, by decide, by decide, by omega, fun x x0 x1 => ?_⟩
          walk_at "de"
          refine ⟨by rw [List.length_map]; exact size_lt (by omega), (hJ _ _ _).mpr ⟨by omega, l ++ [x], ?_, ?_, bits_app hb (bits_one (bit_of x0 x1))⟩⟩
          · show dI l ++ [PyData.int x] = dI (l ++ [x])
            show l.map PyData.int ++ [PyData.int x] = (l ++ [x]).map PyData.int
            rw [List.map_append]
            rfl
          · rw [List.length_append, hl]
            rfl
        · obtain ⟨hm, l, rfl, hl, hb⟩ := (hJ _ _ _).mp hv
          rw [range_len] at hm hl
          walk_at "de"
          refine Eq.mpr (hR _ _) ?_; clear hR
          walk_at "de"
          have e1 : ((List.replicate (1 + k).toNat (dI l)).flatten).length = (1 + k).toNat * l.length := by
            rw [PyProof.Rows.lm_len_rep_flat, List.length_map]
          have l1 : 1 ≤ l.length := by omega
          have l4 : l.length ≤ 4 := by omega
          have l5 : (1 + k).toNat * 1 ≤ (1 + k).toNat * l.length := Nat.mul_le_mul_left _ l1
          have l6 : (1 + k).toNat * l.length ≤ 64 * 4 := Nat.mul_le_mul (by omega) l4
          refine ⟨⟨by omega, by omega, ?_⟩, ?_⟩
          · rw [List.length_map, Nat.mul_comm]
            exact size_ok (by omega)
          · rw [cut_take (by omega) (by rw [e1]; omega), ints_rep]
            have e2 : (dI (List.replicate (1 + k).toNat l).flatten).take (1 + k).toNat = dI ((List.replicate (1 + k).toNat l).flatten.take (1 + k).toNat) := List.map_take.symm
            rw [e2]
            have e3 : ((List.replicate (1 + k).toNat l).flatten.take (1 + k).toNat).length = (1 + k).toNat := by
              rw [List.length_take, PyProof.Rows.lm_len_rep_flat]
              omega
            exact hq _ _ (by omega) (by omega) (bits_take (bits_rep hb) _) (by omega)
      · refine Eq.mpr (hR _ _) ?_; clear hR
        refine seq_def _ _ _ _ _ (fun R hR => ?_)
        walk_at "de"
        refine ⟨2, rfl, by decide, by decide, by omega, fun x x0 x1 => ?_⟩
        walk_at "de"
        refine ⟨by decide, ?_⟩
        refine Eq.mpr (hR _ _) ?_; clear hR
        refine seq_def _ _ _ _ _ (fun R hR => ?_)
        obtain ⟨Iv, hI⟩ := inv3 (fun (d : Nat) (ρ : DEnv) (m : Nat) => ∃ (l : List Int) (u v w : Option RV), ρ = [some .box, some (.d (.int m0)), some (.d (.int (1 + k))), some (.d (.int kd)), u, some (.new (dI l)), v, w] ∧ 1 ≤ l.length ∧ (l.length : Int) + d = 1 + k ∧ Bits l ∧ m ≤ n + 3 + 2 * l.length)
        refine ⟨Iv, ⟨k.toNat, (hI _ _ _).mpr ⟨[x], _, _, _, rfl, Nat.le_refl _, by show (1 : Int) + _ = _; omega, bits_one (bit_of x0 x1), by show _ ≤ n + 3 + 2 * 1; omega⟩⟩, fun d ρ m hv => ?_⟩
        obtain ⟨l, u, v, w, rfl, l1, ld, hb, hm⟩ := (hI _ _ _).mp hv
        walk_at "de"
        rw [List.length_map]
        refine if_bool (fun hc => ?_) (fun hc => ?_)
        · have hc1 : (l.length : Int) < 1 + k := of_decide_eq_true hc
          have stp : ∀ (y : Int) (m' : Nat) (u v w : Option RV), (y = 0 ∨ y = 1) → m' ≤ m + 2 → ∃ d', d' < d ∧ Iv d' [some .box, some (.d (.int m0)), some (.d (.int (1 + k))), some (.d (.int kd)), u, some (.new (dI l ++ [.int y])), v, w] m' := by
            intro y m' u v w hy hm'
            refine ⟨d - 1, by omega, (hI _ _ _).mpr ⟨l ++ [y], u, v, w, ?_, ?_, ?_, bits_app hb (bits_one hy), ?_⟩⟩
            · have : dI (l ++ [y]) = dI l ++ [.int y] := by
                show (l ++ [y]).map PyData.int = l.map PyData.int ++ [PyData.int y]
                rw [List.map_append]
                rfl
              rw [this]
            · rw [List.length_append]; exact Nat.le_add_left _ _
            · rw [List.length_append]
              show ((l.length + 1 : Nat) : Int) + _ = _
              omega
            · rw [List.length_append]
              show m' ≤ n + 3 + 2 * (l.length + 1)
              omega
          have hlen : (dI l).length < sizeLine := by
            rw [List.length_map]
            exact size_lt (by omega)
          have last : ∃ y : Int, atI (dI l) (-1) = some (.int y) ∧ (y = 0 ∨ y = 1) := by
            obtain ⟨y, hy⟩ : ∃ y, l[l.length - 1]? = some y := ⟨_, List.getElem?_eq_getElem (by omega)⟩
            refine ⟨y, ?_, hb y (List.mem_of_getElem? hy)⟩
            unfold atI ixN
            rw [if_neg (by decide), if_pos (by rw [List.length_map]; omega), List.length_map]
            show (dI l)[((-1 : Int) + (l.length : Int)).toNat]? = _
            have e : ((-1 : Int) + (l.length : Int)).toNat = l.length - 1 := by omega
            rw [e, List.getElem?_map, hy]
            rfl
          refine seq_def _ _ _ _ _ (fun R hR => ?_)
          walk_at "de"
          have fin : ∀ (b : Bool) (m' : Nat), m' ≤ m + 1 → R [some .box, some (.d (.int m0)), some (.d (.int (1 + k))), some (.d (.int kd)), u, some (.new (dI l)), some (.d (.bool b)), w] m' := by
            intro b m' hm'
            refine Eq.mpr (hR _ _) ?_
            walk_at "de"
            refine if_bool (fun _ => ?_) (fun _ => ?_)
            · obtain ⟨y, e, hy⟩ := last
              exact ⟨_, e, hlen, stp y _ _ _ _ hy (by omega)⟩
            · refine ⟨2, rfl, by decide, by decide, by omega, fun y y0 y1 => ?_⟩
              walk_at "de"
              exact ⟨hlen, stp y _ _ _ _ (bit_of y0 y1) (by omega)⟩
          refine if_bool (fun _ => ?_) (fun _ => ?_)
          · refine ⟨4, rfl, by decide, by decide, by omega, fun y y0 y1 => ?_⟩
            walk_at "de"
            exact fin _ _ (by omega)
          · exact fin _ _ (by omega)
        · have hc1 : ¬ (l.length : Int) < 1 + k := of_decide_eq_false hc
          refine Eq.mpr (hR _ _) ?_; clear hR
          walk_at "de"
          exact hq l m l1 (by omega) hb (by omega)
/-! loops: rows of branches and outcomes -/
noncomputable def spLoop : DSp := fun rs n Q => ∃ m h : Int, rs = [.box, .d (.int m), .d (.int h)] ∧ 1 ≤ m ∧ m ≤ 64 ∧ 1 ≤ h ∧ h ≤ 8 ∧ n < 2 ^ 58 ∧ ∀ (l : List (Int × Int)) (n' : Nat), 1 ≤ l.length → (l.length : Int) ≤ m → Hom l → n' ≤ n + 300 → Q (.d (TP l)) n'
theorem row_get {l : List Int} {i : Nat} {z : PyData} (h : (dI l)[i]? = some z) : ∃ x, l[i]? = some x ∧ z = .int x := by
  rw [List.getElem?_map] at h
  cases e : l[i]? with
  | none => rw [e] at h; cases h
  | some x =>
    rw [e] at h
    exact ⟨x, rfl, (Option.some.inj h).symm⟩
theorem rowD {l : List Int} {i : Nat} {x : Int} (h : l[i]? = some x) : l.getD i 0 = x := by
  rw [List.getD_eq_getElem?_getD, h]
  rfl
theorem bitD {l : List Int} (hb : Bits l) (i : Nat) : l.getD i 0 = 0 ∨ l.getD i 0 = 1 := by
  rw [List.getD_eq_getElem?_getD]
  cases e : l[i]? with
  | none => exact .inl rfl
  | some x => exact hb x (List.mem_of_getElem? e)
theorem hom_map {n : Nat} {f : Nat → Int × Int} (h : ∀ i, i < n → 0 ≤ (f i).1 ∧ (f i).1 ≤ 7 ∧ ((f i).2 = 0 ∨ (f i).2 = 1)) : Hom ((List.range n).map f) := by
  intro p hp
  obtain ⟨i, hi, rfl⟩ := List.mem_map.mp hp
  exact h i (List.mem_range.mp hi)
theorem hom_app {l m : List (Int × Int)} (h : Hom l) (h2 : Hom m) : Hom (l ++ m) := by
  intro x hx
  rcases List.mem_append.mp hx with q | q
  · exact h x q
  · exact h2 x q
theorem at_end {α : Type} {l : List α} {y : α} (h : l[l.length - 1]? = some y) : atI l (-1) = some y := by
  have hl : l.length - 1 < l.length := (List.getElem?_eq_some_iff.mp h).1
  unfold atI ixN
  rw [if_neg (by decide), if_pos (by omega)]
  show l[(-1 + (l.length : Int)).toNat]? = some y
  rw [show (-1 + (l.length : Int)).toNat = l.length - 1 by omega]
  exact h
theorem ok__law_loop {f : Addr} {fd : FuncData} (F : Fun K "_law_loop" "_law_loop" s__law_loop f fd) (hm : mg "_law_loop" = some (.ref f)) (hb : Binds K fd ["_law_box_here", "_law_most", "_law_homes"] []) (m_tuple : mg "tuple" = none) (m_enumerate : mg "enumerate" = none) (m_len : mg "len" = none) (D__law_take : Def P w K mg base 1 "_law_take" ["_law_box_here", "_law_many"] spTake) (D__law_row : Def P w K mg base 2 "_law_row" ["_law_box_here", "_law_most"] spRow) : Def P w K mg base 3 "_law_loop" ["_law_box_here", "_law_most", "_law_homes"] spLoop := by
  refine def_mk (k := 2) F sc__law_loop hm hb ?hlen (fun cdv A outer s H E hr => (lss_cons (ls_unp (le_tup (la_cons (le_def D__law_row (hr.mono (by decide)) (by rfl) (la_cons (le_var 0) (la_cons (le_var 1) la_nil))) (la_cons (le_def D__law_take (hr.mono (by decide)) (by rfl) (la_cons (le_var 0) (la_cons le_int la_nil))) (la_cons (le_op lo_add le_int (le_def D__law_take (hr.mono (by decide)) (by rfl) (la_cons (le_var 0) (la_cons (le_var 2) la_nil)))) la_nil)))) (lg_tup (n := 3) rfl (lgs_cons (lg_name (i := 3) sc__law_loop.nd rfl (by first | exact Or.inl rfl | exact Or.inr rfl)) (lgs_cons (lg_name (i := 4) sc__law_loop.nd rfl (by first | exact Or.inl rfl | exact Or.inr rfl)) (lgs_cons (lg_name (i := 5) sc__law_loop.nd rfl (by first | exact Or.inl rfl | exact Or.inr rfl)) lgs_nil)))))
  (lss_cons (ls_set 6 sc__law_loop.nd (le_def D__law_take (hr.mono (by decide)) (by rfl) (la_cons (le_var 0) (la_cons (le_op lo_sub le_int (le_var 5)) la_nil))))
  (lss_cons (ls_if (lt_cmp (lo_eq hr.room.units) (le_var 4) le_int (nomark _)) (lss_one (ls_ret (le_callTy lc_tuple (by rfl) m_tuple (by decide +kernel) (la_cons (le_lc rfl sc__law_loop.nd (own := [("_law_deed", 8)]) (li_seq (le_var 3)) (by walk_at "lc") (fun _ _ _ _ _ => (lg_name (i := 8) sc__law_loop.nd rfl (by first | exact Or.inl rfl | exact Or.inr rfl))) (fun _ _ _ _ _ => lts_nil) (fun _ _ _ _ _ => (le_tup (la_cons (le_var 6) (la_cons (le_var 8) la_nil))))) la_nil)))) lss_nil)
  (lss_cons (ls_if (lt_cmp (lo_eq hr.room.units) (le_var 4) le_int (nomark _)) (lss_one (ls_ret (le_callTy lc_tuple (by rfl) m_tuple (by decide +kernel) (la_cons (le_lc rfl sc__law_loop.nd (own := [("_law_at", 9), ("_law_deed", 8)]) (li_enum (by rfl) m_enumerate (la_cons (le_var 3) la_nil)) (by walk_at "lc") (fun _ _ _ _ _ => (lg_tup (n := 2) rfl (lgs_cons (lg_name (i := 9) sc__law_loop.nd rfl (by first | exact Or.inl rfl | exact Or.inr rfl)) (lgs_cons (lg_name (i := 8) sc__law_loop.nd rfl (by first | exact Or.inl rfl | exact Or.inr rfl)) lgs_nil)))) (fun _ _ _ _ _ => lts_nil) (fun _ _ _ _ _ => (le_tup (la_cons (le_op lo_add (le_var 6) (le_op lo_mod (le_var 9) (le_var 5))) (la_cons (le_var 8) la_nil))))) la_nil)))) lss_nil)
  (lss_cons (ls_ownLc 7 rfl sc__law_loop.nd (own := [("_law_deed", 8)]) (li_seq (le_var 3)) (by walk_at "lc") (fun _ _ _ _ _ => (lg_name (i := 8) sc__law_loop.nd rfl (by first | exact Or.inl rfl | exact Or.inr rfl))) (fun _ _ _ _ _ => lts_nil) (fun _ _ _ _ _ => (le_tup (la_cons (le_op lo_add (le_var 6) (le_def D__law_take (hr.mono (by decide)) (by rfl) (la_cons (le_var 0) (la_cons (le_var 5) la_nil)))) (la_cons (le_var 8) la_nil)))) (sw_true rfl rfl rfl (by decide +kernel)))
  (lss_cons (ls_if (lt_w (lw_and (lt_cmp (lo_eq hr.room.units) (le_var 4) le_int (nomark _)) (lw_and1 (lt_cmp lo_gt (le_callB lc_len (by rfl) m_len (by decide +kernel) (la_cons (le_var 7) la_nil)) le_int (nomark _))))) (lss_one (ls_setIx 7 (le_tup (la_cons (le_ix (le_ix (le_var 7) (le_neg le_int)) le_int) (la_cons (le_ix (le_ix (le_var 7) le_int) le_int) la_nil))) (le_neg le_int))) lss_nil)
  (lss_one (ls_ret (le_callTy lc_tuple (by rfl) m_tuple (by decide +kernel) (la_cons (le_var 7) la_nil))))))))))) ?hd
  case hlen =>
    rintro rs n Q ⟨m, h, rfl, _⟩
    rfl
  case hd =>
    rintro rs n Qd _ ⟨m, h, rfl, m1, m64, h1, h8, hn, hq⟩
    refine seq_def _ _ _ _ _ (fun R hR => ?_)
    walk_at "de"
    refine ⟨m, rfl, m1, m64, by omega, fun l n1 l1 l2 lb ln => ?_⟩
    walk_at "de"
    refine ⟨4, rfl, by decide, by decide, by omega, fun kd k0 k1 => ?_⟩
    walk_at "de"
    refine ⟨h, rfl, by omega, by omega, by omega, fun so s0 s1 => ?_⟩
    walk_at "de"
    refine ⟨by decide, ?_⟩
    refine Eq.mpr (hR _ _) ?_; clear hR
    refine seq_def _ _ _ _ _ (fun R hR => ?_)
    walk_at "de"
    refine ⟨9 - (1 + so), rfl, by omega, by omega, by omega, fun fi f0 f1 => ?_⟩
    walk_at "de"
    refine Eq.mpr (hR _ _) ?_; clear hR
    refine seq_def _ _ _ _ _ (fun R hR => ?_)
    walk_at "de"
    refine if_bool (fun hk => ?_) (fun hk => ?_)
    · clear hR
      refine lc_def _ _ _ _ _ _ _ _ (fun F hF => ?_)
      walk_at "de"
      refine hF _ _ ?_
      refine lc_map (fun i => Pr (fi, l.getD i 0)) ?hl (fun i z J acc hz ha hJ => ?_) ?_
      case hl => rw [List.length_map]; omega
      · obtain ⟨x, e1, rfl⟩ := row_get hz
        rw [rowD e1] at hJ
        unfold wipeD wipeD
        walk_at "de"
        exact ⟨by decide, ha, hJ⟩
      · walk_at "de"
        rw [List.length_map]
        have := hq ((List.range l.length).map fun i => (fi, l.getD i 0)) (n1 + 1 + 1 + 1) (by rw [List.length_map, List.length_range]; exact l1) (by rw [List.length_map, List.length_range]; exact l2) (hom_map fun i _ => ⟨f0, by show fi ≤ 7; omega, bitD lb i⟩) (by omega)
        rw [Dl.TP, Dl.dP, List.map_map] at this
        exact this
    refine Eq.mpr (hR _ _) ?_; clear hR
    refine seq_def _ _ _ _ _ (fun R hR => ?_)
    walk_at "de"
    refine if_bool (fun hk => ?_) (fun hk => ?_)
    · clear hR
      refine lc_def _ _ _ _ _ _ _ _ (fun F hF => ?_)
      walk_at "de"
      refine hF _ _ ?_
      refine lc_map (fun i => Pr (fi + ((i : Nat) : Int) % (1 + so), l.getD i 0)) ?hl (fun i z J acc hz ha hJ => ?_) ?_
      case hl => rw [enum_len, List.length_map]; omega
      · obtain ⟨y, e0, rfl⟩ := enum_get _ _ _ _ hz
        obtain ⟨x, e1, rfl⟩ := row_get e0
        rw [rowD e1] at hJ
        rw [Nat.zero_add]
        unfold wipeD wipeD wipeD
        walk_at "de"
        exact ⟨by omega, by decide, ha, hJ⟩
      · walk_at "de"
        rw [enum_len, List.length_map]
        have := hq ((List.range l.length).map fun i => (fi + ((i : Nat) : Int) % (1 + so), l.getD i 0)) (n1 + 1 + 1 + 1) (by rw [List.length_map, List.length_range]; exact l1) (by rw [List.length_map, List.length_range]; exact l2) (hom_map fun i _ => ⟨by have := Int.emod_nonneg (i : Int) (show 1 + so ≠ 0 by omega); show 0 ≤ fi + (i : Int) % (1 + so); omega, by have := Int.emod_lt_of_pos (i : Int) (show 0 < 1 + so by omega); show fi + (i : Int) % (1 + so) ≤ 7; omega, bitD lb i⟩) (by omega)
        rw [Dl.TP, Dl.dP, List.map_map] at this
        exact this
    refine Eq.mpr (hR _ _) ?_; clear hR
    refine seq_def _ _ _ _ _ (fun R hR => ?_)
    walk_at "de"
    refine lc_def _ _ _ _ _ _ _ _ (fun F hF => ?_)
    walk_at "de"
    obtain ⟨Jv, hJ⟩ := inv3 (fun (j : Nat) (acc : List PyData) (m' : Nat) => m' = n1 + 1 + 1 + 1 + j ∧ ∃ k : List (Int × Int), acc = dP k ∧ k.length = j ∧ Hom k)
    refine hF _ _ ⟨Jv, (hJ _ _ _).mpr ⟨rfl, [], rfl, rfl, (by intro p hp; cases hp)⟩, fun i acc m' z hv hz => ?_, fun acc m' hv => ?_⟩
    · obtain ⟨rfl, k, rfl, hk, hh⟩ := (hJ _ _ _).mp hv
      obtain ⟨x, e1, rfl⟩ := row_get hz
      have hi : i < l.length := (List.getElem?_eq_some_iff.mp e1).1
      have hx := lb x (List.mem_of_getElem? e1)
      unfold wipeD wipeD
      walk_at "de"
      refine ⟨1 + so, rfl, by omega, by omega, by omega, fun t t0 t1 => ?_⟩
      walk_at "de"
      refine ⟨by decide, by rw [List.length_map]; exact size_lt (by omega), (hJ _ _ _).mpr ⟨by omega, k ++ [(fi + t, x)], by rw [dP, dP, List.map_append]; rfl, by rw [List.length_append, hk]; rfl, hom_app hh ?_⟩⟩
      intro p hp
      obtain rfl := List.mem_singleton.mp hp
      exact ⟨by show 0 ≤ fi + t; omega, by show fi + t ≤ 7; omega, hx⟩
    obtain ⟨rfl, k, rfl, hkl, hh⟩ := (hJ _ _ _).mp hv
    rw [List.length_map] at hkl ⊢
    clear hF hv
    walk_at "de"
    refine Eq.mpr (hR _ _) ?_; clear hR
    refine seq_def _ _ _ _ _ (fun R hR => ?_)
    have fin : ∀ k' : List (Int × Int), k'.length = l.length → Hom k' → R [some .box, some (.d (.int m)), some (.d (.int h)), some (.d (TI l)), some (.d (.int kd)), some (.d (.int (1 + so))), some (.d (.int fi)), some (.new (dP k')), none, none] (n1 + 1 + 1 + 1 + l.length) := by
      intro k' e1 e2
      refine Eq.mpr (hR _ _) ?_
      walk_at "de"
      exact hq k' _ (by omega) (by omega) e2 (by omega)
    walk_at "de"
    refine if_bool (fun hk2 => ?_) (fun hk2 => ?_)
    · refine if_bool (fun hk3 => ?_) (fun hk3 => ?_)
      · have h2 : 1 < k.length := by
          have := of_decide_eq_true hk3
          rw [List.length_map] at this
          omega
        have e1 : k[k.length - 1]? = some k[k.length - 1] := List.getElem?_eq_getElem (by omega)
        have e0 : k[0]? = some k[0] := List.getElem?_eq_getElem (by omega)
        refine ⟨Pr k[k.length - 1], at_end (by rw [List.length_map, List.getElem?_map, e1]; rfl), ?_⟩
        walk_at "de"
        refine ⟨_, rfl, Pr k[0], atI_of (by decide) (by rw [List.getElem?_map, show Int.toNat 0 = 0 from rfl, e0]; rfl), ?_⟩
        walk_at "de"
        refine ⟨_, rfl, by decide, k.length - 1, ?_, ?_⟩
        · rw [List.length_map]
          unfold ixN
          rw [if_neg (by decide), if_pos (by omega)]
          exact congrArg some (by omega)
        · have := fin (k.set (k.length - 1) (k[k.length - 1].1, k[0].2)) (by rw [List.length_set]; exact hkl) ?_
          · rw [dP, List.map_set] at this
            exact this
          · intro p hp
            rcases List.mem_or_eq_of_mem_set hp with q | rfl
            · exact hh p q
            · have a1 := hh _ (List.getElem_mem (show k.length - 1 < k.length by omega))
              have a2 := hh _ (List.getElem_mem (show 0 < k.length by omega))
              exact ⟨a1.1, a1.2.1, a2.2.2⟩
      · exact fin k hkl hh
    · exact fin k hkl hh
noncomputable def spPlan : DSp := fun rs n Q => ∃ m : Int, rs = [.box, .d (.int m)] ∧ 0 ≤ m ∧ m ≤ 64 ∧ n < 2 ^ 57 ∧ ∀ (s : Sc) (n' : Nat), (s.L ≤ 3 ∨ (s.L : Int) ≤ m) → s.b ≤ 16 → n' ≤ n + 10 → Q (.d s.data) n'
theorem ok__law_plan {f : Addr} {fd : FuncData} (F : Fun K "_law_plan" "_law_plan" s__law_plan f fd) (hm : mg "_law_plan" = some (.ref f)) (hb : Binds K fd ["_law_box_here", "_law_most"] []) (m_min : mg "min" = none) (D__law_of : Def P w K mg base 2 "_law_of" ["_law_box_here", "_law_some"] spOf) (D__law_take : Def P w K mg base 1 "_law_take" ["_law_box_here", "_law_many"] spTake) : Def P w K mg base 3 "_law_plan" ["_law_box_here", "_law_most"] spPlan := by
  refine def_mk (k := 2) F sc__law_plan hm hb ?hlen (fun cdv A outer s H E hr => (lss_cons (ls_set 2 sc__law_plan.nd (le_def D__law_of (hr.mono (by decide)) (by rfl) (la_cons (le_var 0) (la_cons (le_lst (la_cons (le_def D__law_take (hr.mono (by decide)) (by rfl) (la_cons (le_var 0) (la_cons le_int la_nil))) (la_cons (le_def D__law_take (hr.mono (by decide)) (by rfl) (la_cons (le_var 0) (la_cons (le_op lo_add (le_var 1) le_int) la_nil))) (la_cons (le_callB (lc_min rfl) (by rfl) m_min (by decide +kernel) (la_cons le_int (la_cons (le_var 1) la_nil))) la_nil)))) la_nil))))
  (lss_cons (ls_set 3 sc__law_plan.nd (le_def D__law_of (hr.mono (by decide)) (by rfl) (la_cons (le_var 0) (la_cons (le_lst (la_cons le_str (la_cons le_str (la_cons le_str (la_cons le_str (la_cons le_str la_nil)))))) la_nil))))
  (lss_one (ls_ret (le_if (lt_cmp (lo_eq hr.room.units) (le_var 3) le_str (nomark _)) (le_tup (la_cons (le_var 3) (la_cons (le_var 2) (la_cons (le_def D__law_take (hr.mono (by decide)) (by rfl) (la_cons (le_var 0) (la_cons le_int la_nil))) la_nil)))) (le_tup (la_cons (le_var 3) (la_cons (le_var 2) la_nil))))))))) ?hd
  case hlen =>
    rintro rs n Q ⟨m, rfl, _⟩
    rfl
  case hd =>
    rintro rs n Qd _ ⟨m, rfl, m0, m64, hn, hq⟩
    refine seq_def _ _ _ _ _ (fun R hR => ?_)
    walk_at "de"
    refine ⟨4, rfl, by decide, by decide, by omega, fun k k0 k1 => ?_⟩
    walk_at "de"
    refine ⟨m + 1, rfl, by omega, by omega, by omega, fun j j0 j1 => ?_⟩
    walk_at "de"
    refine ⟨by decide, _, rfl, by simp, by show 3 ≤ 2000; decide, by omega, fun x hx => ?_⟩
    obtain ⟨L, rfl, hL⟩ : ∃ L : Nat, x = .int (L : Int) ∧ (L ≤ 3 ∨ (L : Int) ≤ m) := by
      simp only [List.mem_cons, List.not_mem_nil, or_false] at hx
      rcases hx with h | h | h
      · exact ⟨k.toNat, by rw [h, Int.toNat_of_nonneg k0], by omega⟩
      · exact ⟨j.toNat, by rw [h, Int.toNat_of_nonneg j0], by omega⟩
      · by_cases c : m < 2
        · rw [if_pos c] at h
          exact ⟨m.toNat, by rw [h, Int.toNat_of_nonneg m0], by omega⟩
        · rw [if_neg c] at h
          exact ⟨2, h, by omega⟩
    clear hx
    walk_at "de"
    refine Eq.mpr (hR _ _) ?_; clear hR
    refine seq_def _ _ _ _ _ (fun R hR => ?_)
    walk_at "de"
    refine ⟨by decide, _, rfl, by simp, by show 5 ≤ 2000; decide, by omega, fun x hx => ?_⟩
    obtain ⟨w, rfl⟩ : ∃ w : Wd, x = .str w.str := by
      simp only [List.mem_cons, List.not_mem_nil, or_false] at hx
      rcases hx with h | h | h | h | h
      · exact ⟨.own, h⟩
      · exact ⟨.split, h⟩
      · exact ⟨.shared, h⟩
      · exact ⟨.shared, h⟩
      · exact ⟨.folded, h⟩
    clear hx
    walk_at "de"
    refine Eq.mpr (hR _ _) ?_; clear hR
    walk_at "de"
    rw [wd_folded]
    have plain : ∀ w : Wd, w ≠ .folded → Qd (.d (.tuple [.str w.str, .int (L : Int)])) (n + 1 + 1 + 1 + 1) := by
      intro w hw
      have := hq ⟨w, L, 0⟩ (n + 1 + 1 + 1 + 1) hL (Nat.zero_le _) (by omega)
      cases w with
      | folded => exact absurd rfl hw
      | own => exact this
      | split => exact this
      | shared => exact this
    refine if_bool (fun h1 => ?_) (fun h1 => ⟨by decide, plain w (of_decide_eq_false h1)⟩)
    have hw := of_decide_eq_true h1
    subst hw
    refine ⟨17, rfl, by decide, by decide, by omega, fun b b0 b1 => ?_⟩
    walk_at "de"
    obtain ⟨bn, rfl⟩ : ∃ bn : Nat, b = (bn : Int) := ⟨b.toNat, by omega⟩
    exact ⟨by decide, hq ⟨.folded, L, bn⟩ _ hL (by show bn ≤ 16; omega) (by omega)⟩
/-! values of any kind: how heavy, how deep -/
mutual
noncomputable def wt : PyData → Nat
  | .none => 5
  | .bool _ => 5
  | .int i => 10 * i.natAbs.log2 + 30
  | .str x => 10 * x.length + 2
  | .list xs => 4 + wts xs
  | .tuple xs => 4 + wts xs
  | .dict kvs => 4 + wtk kvs
noncomputable def wts : List PyData → Nat
  | [] => 0
  | x :: xs => wt x + 2 + wts xs
noncomputable def wtk : List (PyData × PyData) → Nat
  | [] => 0
  | (k, v) :: r => wt k + wt v + 6 + wtk r
end
mutual
/-- its texts have code points -/
noncomputable def okS : PyData → Bool
  | .none => true
  | .bool _ => true
  | .int _ => true
  | .str x => x.cps.toList.all fun c => decide (c < 16 ^ 8)
  | .list xs => okSs xs
  | .tuple xs => okSs xs
  | .dict kvs => okSk kvs
noncomputable def okSs : List PyData → Bool
  | [] => true
  | x :: xs => okS x && okSs xs
noncomputable def okSk : List (PyData × PyData) → Bool
  | [] => true
  | (k, v) :: r => okS k && okS v && okSk r
end
theorem okStr {x : Str} (h : okS (.str x) = true) : ∀ c ∈ x.cps.toList, c < 16 ^ 8 := fun c hc => of_decide_eq_true (List.all_eq_true.mp (show (x.cps.toList.all fun c => decide (c < 16 ^ 8)) = true from h) c hc)
mutual
theorem shown_wt : ∀ x : PyData, okS x = true → x.shown.length ≤ wt x
  | .none, _ => by decide
  | .bool b, _ => by cases b <;> decide
  | .int i, _ => by
    have h := shown_rc (.int i)
    have e : rc (.int i) = i.natAbs.log2 + 2 := rfl
    show _ ≤ 10 * i.natAbs.log2 + 30
    omega
  | .str s, h => by
    have := StrLaws.reprText_len s (okStr h)
    show (reprText s).length ≤ 10 * s.length + 2
    omega
  | .list xs, h => by
    have h := shown_wts xs h
    show (listText (PyData.shownAll xs)).length ≤ 4 + wts xs
    have h2 := textFrom_up (PyData.shownAll xs) 0 "["
    have h3 : (listText (PyData.shownAll xs)).length = (textFrom 0 "[" (PyData.shownAll xs)).length + 1 := by
      unfold listText
      rw [app_len]
      rfl
    have h4 : (Str.ofString "[").length = 1 := by decide
    omega
  | .tuple xs, h => by
    have h := shown_wts xs h
    show (tupleText (PyData.shownAll xs)).length ≤ 4 + wts xs
    unfold tupleText
    rw [app_len, app_len]
    have h4 : (Str.ofString "(").length = 1 := by decide
    have h5 : (Str.ofString (if (PyData.shownAll xs).length == 1 then ",)" else ")" : String)).length ≤ 2 := by
      split <;> decide
    have h6 : (Str.join ", " (PyData.shownAll xs)).length ≤ piled (PyData.shownAll xs) := by
      cases e : PyData.shownAll xs with
      | nil => exact Nat.le_refl _
      | cons a b =>
        have := join_length_add (a :: b) (by simp)
        omega
    omega
  | .dict kvs, h => by
    have h := shown_wtk kvs h
    show (dictText (PyData.shownKv kvs)).length ≤ 4 + wtk kvs
    unfold dictText
    rw [app_len, app_len]
    have h4 : (Str.ofString "{").length = 1 := by decide
    have h5 : (Str.ofString "}").length = 1 := by decide
    have h6 : (Str.join ", " (PyData.shownKv kvs)).length ≤ piled (PyData.shownKv kvs) := by
      cases e : PyData.shownKv kvs with
      | nil => exact Nat.le_refl _
      | cons a b =>
        have := join_length_add (a :: b) (by simp)
        omega
    omega
theorem shown_wts : ∀ xs : List PyData, okSs xs = true → piled (PyData.shownAll xs) ≤ wts xs
  | [], _ => Nat.le_refl _
  | x :: xs, h => by
    unfold okSs at h
    rw [Bool.and_eq_true] at h
    have h1 := shown_wt x h.1
    have h2 := shown_wts xs h.2
    unfold PyData.shownAll wts
    rw [piled_cons]
    omega
theorem shown_wtk : ∀ xs : List (PyData × PyData), okSk xs = true → piled (PyData.shownKv xs) ≤ wtk xs
  | [], _ => Nat.le_refl _
  | (k, v) :: xs, h => by
    unfold okSk at h
    rw [Bool.and_eq_true, Bool.and_eq_true] at h
    have h0 := shown_wt k h.1.1
    have h1 := shown_wt v h.1.2
    have h2 := shown_wtk xs h.2
    unfold PyData.shownKv wtk
    rw [piled_cons, app_len, app_len]
    have h4 : (Str.ofString ": ").length = 2 := by decide
    omega
end
mutual
theorem showable_wt : ∀ x : PyData, wt x ≤ 19000 → x.showable = true
  | .none, _ => rfl
  | .bool _, _ => rfl
  | .str _, _ => rfl
  | .int i, h => by
    have h : 10 * i.natAbs.log2 + 30 ≤ 19000 := h
    exact decide_eq_true (by omega)
  | .list xs, h => by
    have h : 4 + wts xs ≤ 19000 := h
    exact showable_wts xs (by omega)
  | .tuple xs, h => by
    have h : 4 + wts xs ≤ 19000 := h
    exact showable_wts xs (by omega)
  | .dict kvs, h => by
    have h : 4 + wtk kvs ≤ 19000 := h
    exact showable_wtk kvs (by omega)
theorem showable_wts : ∀ xs : List PyData, wts xs ≤ 19000 → PyData.showableAll xs = true
  | [], _ => rfl
  | x :: xs, h => by
    unfold wts at h
    unfold PyData.showableAll
    rw [showable_wt x (by omega), showable_wts xs (by omega)]
    rfl
theorem showable_wtk : ∀ xs : List (PyData × PyData), wtk xs ≤ 19000 → PyData.showableKv xs = true
  | [], _ => rfl
  | (k, v) :: xs, h => by
    unfold wtk at h
    unfold PyData.showableKv
    rw [showable_wt k (by omega), showable_wt v (by omega), showable_wtk xs (by omega)]
    rfl
end
structure AO (m d : Nat) (x : PyData) : Prop where
  ok : okS x = true
  le : wt x ≤ m
  de : x.depth ≤ d
structure AOs (m d : Nat) (xs : List PyData) : Prop where
  ok : okSs xs = true
  le : wts xs ≤ m
  de : PyData.depthAll xs ≤ d
theorem AO.repr {m d : Nat} {x : PyData} (h : AO m d x) (hm : m ≤ 19000) (hd : d ≤ 60) : ReprOk x :=
  ⟨showable_wt x (Nat.le_trans h.le hm), Nat.le_trans (shown_wt x h.ok) (Nat.le_trans h.le (Nat.le_trans hm (by decide))), Nat.le_trans h.de hd⟩
theorem AO.mono {m d m' d' : Nat} {x : PyData} (h : AO m d x) (hm : m ≤ m') (hd : d ≤ d') : AO m' d' x := ⟨h.ok, Nat.le_trans h.le hm, Nat.le_trans h.de hd⟩
theorem AOs.mono {m d m' d' : Nat} {x : List PyData} (h : AOs m d x) (hm : m ≤ m') (hd : d ≤ d') : AOs m' d' x := ⟨h.ok, Nat.le_trans h.le hm, Nat.le_trans h.de hd⟩
theorem AOs.nil {d : Nat} : AOs 0 d [] := ⟨rfl, Nat.le_refl _, Nat.zero_le _⟩
theorem AOs.cons {m m' d : Nat} {x : PyData} {xs : List PyData} (h : AO m d x) (hs : AOs m' d xs) : AOs (m + 2 + m') d (x :: xs) := by
  refine ⟨?_, ?_, ?_⟩
  · unfold okSs
    rw [h.ok, hs.ok]
    rfl
  · have := h.le
    have := hs.le
    show wt x + 2 + wts xs ≤ _
    omega
  · have := h.de
    have := hs.de
    show max (PyData.depth x) (PyData.depthAll xs) ≤ _
    omega
theorem wts_app : ∀ xs ys : List PyData, wts (xs ++ ys) = wts xs + wts ys
  | [], ys => by show wts ys = 0 + wts ys; omega
  | x :: xs, ys => by
    show wt x + 2 + wts (xs ++ ys) = wt x + 2 + wts xs + wts ys
    rw [wts_app xs ys]
    omega
theorem okSs_app : ∀ xs ys : List PyData, okSs (xs ++ ys) = (okSs xs && okSs ys)
  | [], ys => by show okSs ys = (true && okSs ys); rw [Bool.true_and]
  | x :: xs, ys => by
    show (okS x && okSs (xs ++ ys)) = (okS x && okSs xs && okSs ys)
    rw [okSs_app xs ys, Bool.and_assoc]
theorem depthAll_app : ∀ xs ys : List PyData, PyData.depthAll (xs ++ ys) = max (PyData.depthAll xs) (PyData.depthAll ys)
  | [], ys => by show PyData.depthAll ys = max 0 _; omega
  | x :: xs, ys => by
    show max (PyData.depth x) (PyData.depthAll (xs ++ ys)) = max (max (PyData.depth x) (PyData.depthAll xs)) _
    rw [depthAll_app xs ys]
    omega
theorem AOs.mem {m d : Nat} : ∀ {xs : List PyData}, AOs m d xs → ∀ x ∈ xs, AO m d x
  | [], _, x, hx => nomatch hx
  | y :: ys, h, x, hx => by
    have h1 := h.ok
    have h2 := h.le
    have h3 := h.de
    unfold okSs at h1
    unfold wts at h2
    unfold PyData.depthAll at h3
    rw [Bool.and_eq_true] at h1
    rcases List.mem_cons.mp hx with rfl | hx
    · exact ⟨h1.1, by omega, by omega⟩
    · exact AOs.mem (xs := ys) ⟨h1.2, by omega, by omega⟩ x hx
theorem AO.tup {m d : Nat} {xs : List PyData} (h : AOs m d xs) : AO (m + 4) (d + 1) (.tuple xs) :=
  ⟨h.ok, by have := h.le; show 4 + wts xs ≤ _; omega, by have := h.de; show PyData.depthAll xs + 1 ≤ _; omega⟩
theorem AO.lst {m d : Nat} {xs : List PyData} (h : AOs m d xs) : AO (m + 4) (d + 1) (.list xs) :=
  ⟨h.ok, by have := h.le; show 4 + wts xs ≤ _; omega, by have := h.de; show PyData.depthAll xs + 1 ≤ _; omega⟩
theorem AO.dic {m d : Nat} {k : Str} {x : PyData} (hk : okS (.str k) = true) (hl : k.length ≤ 1) (h : AO m d x) : AO (m + 22) (d + 1) (.dict [(.str k, x)]) := by
  refine ⟨?_, ?_, ?_⟩
  · show (okS (.str k) && okS x && true) = true
    rw [hk, h.ok]
    rfl
  · have := h.le
    show 4 + (10 * k.length + 2 + wt x + 6 + 0) ≤ _
    omega
  · have := h.de
    show max (max 0 (PyData.depth x)) 0 + 1 ≤ _
    omega
theorem AO.parts {m d : Nat} {xs : List PyData} (h : AO m d (.tuple xs)) : ∃ m' d', m = m' + 4 ∧ d = d' + 1 ∧ AOs m' d' xs := by
  have h2 : 4 + wts xs ≤ m := h.le
  have h3 : PyData.depthAll xs + 1 ≤ d := h.de
  exact ⟨m - 4, d - 1, by omega, by omega, h.ok, by omega, by omega⟩
theorem split3 {xs : List PyData} {i : Nat} {x : PyData} (h : xs[i]? = some x) : xs = xs.take i ++ (x :: xs.drop (i + 1)) := by
  have hi : i < xs.length := (List.getElem?_eq_some_iff.mp h).1
  have e : xs[i] = x := (List.getElem?_eq_some_iff.mp h).2
  rw [← e, ← List.drop_eq_getElem_cons hi, List.take_append_drop]
/-- a list by one of its items -/
theorem AOs.split {m d : Nat} {xs : List PyData} {i : Nat} {x : PyData} (h : AOs m d xs) (e : xs[i]? = some x) : ∃ a b c, a + (b + 2 + c) ≤ m ∧ AOs a d (xs.take i) ∧ AO b d x ∧ AOs c d (xs.drop (i + 1)) := by
  have h1 := h.ok
  have h2 := h.le
  have h3 := h.de
  have e1 := split3 e
  rw [e1, okSs_app] at h1
  rw [e1, wts_app] at h2
  rw [e1, depthAll_app] at h3
  have h4 : okSs (x :: xs.drop (i + 1)) = (okS x && okSs (xs.drop (i + 1))) := rfl
  have h5 : wts (x :: xs.drop (i + 1)) = wt x + 2 + wts (xs.drop (i + 1)) := rfl
  have h6 : PyData.depthAll (x :: xs.drop (i + 1)) = max (PyData.depth x) (PyData.depthAll (xs.drop (i + 1))) := rfl
  rw [h4, Bool.and_eq_true, Bool.and_eq_true] at h1
  rw [h5] at h2
  rw [h6] at h3
  exact ⟨_, _, _, h2, ⟨h1.1, Nat.le_refl _, by omega⟩, ⟨h1.2.1, Nat.le_refl _, by omega⟩, ⟨h1.2.2, Nat.le_refl _, by omega⟩⟩
/-! looks at values of any kind -/
theorem AO.len {m d : Nat} {xs : List PyData} (h : AO m d (.tuple xs)) : xs.length ≤ m := by
  have h2 : 4 + wts xs ≤ m := h.le
  have : ∀ ys : List PyData, ys.length ≤ wts ys := fun ys => by
    induction ys with
    | nil => exact Nat.le_refl _
    | cons y ys ih => show ys.length + 1 ≤ wt y + 2 + wts ys; omega
  have := this xs
  omega
/-! steady histories and cells -/
noncomputable def Tr (l : List (Int × Int)) : Prop := 1 ≤ l.length ∧ l.length ≤ 100 ∧ Hom l
noncomputable def SOk (s : Sc) : Prop := s.L ≤ 100 ∧ s.b ≤ 20
noncomputable def spSteady : DSp := fun rs n Q => ∃ (l : List (Int × Int)) (s : Sc) (p : Nat), rs = [.d (TP l), .d s.data, .d (.int (p : Int))] ∧ Tr l ∧ SOk s ∧ p < l.length ∧ Q (.d (.str (bs (steadyAt l s p)))) n
noncomputable def spCell : DSp := fun rs n Q => ∃ (s : Sc) (h : Nat) (x : List Bool), rs = [.d s.data, .d (.int (h : Int)), .d (.str (bs x))] ∧ SOk s ∧ x.length ≤ 1000 ∧ h < 2 ^ 60 ∧ Q (.d (cellD s h x)) n
noncomputable def spCells : DSp := fun rs n Q => ∃ (l : List (Int × Int)) (s : Sc), rs = [.d (TP l), .d s.data] ∧ Tr l ∧ SOk s ∧ Q (.d (.tuple (steadyD l s))) n
theorem dP_at {l : List (Int × Int)} {p : Nat} (h : p < l.length) : atI (dP l) (p : Int) = some (Pr (cyc l p)) := by
  refine atI_of (by omega) ?_
  rw [Int.toNat_natCast, List.getElem?_map, cyc_lt h]
  rfl
theorem tr_home {l : List (Int × Int)} (h : Tr l) (i : Nat) : ∃ k : Nat, (cyc l i).1 = (k : Int) ∧ k ≤ 7 := by
  have := h.2.2 _ (cyc_mem h.1 i)
  exact ⟨(cyc l i).1.toNat, by omega, by omega⟩
theorem hom_bit {l : List (Int × Int)} (h : Hom l) {p : Int × Int} (hp : p ∈ l) : p.2 = if bitOf p then (1 : Int) else 0 := by
  rcases (h p hp).2.2 with e | e <;> simp [bitOf, e]
theorem range_filter_map {α β : Type} (f : α → β) (t : α → Bool) (d : α) : ∀ (l : List α), ((List.range l.length).filter fun i => t (l.getD i d)).map (fun i => f (l.getD i d)) = (l.filter t).map f
  | [] => rfl
  | x :: l => by
    rw [List.length_cons, List.range_succ_eq_map, List.filter_cons, List.filter_map]
    have e : List.map (fun i => f ((x :: l).getD i d)) (List.map Nat.succ (List.filter ((fun i => t ((x :: l).getD i d)) ∘ Nat.succ) (List.range l.length))) = (l.filter t).map f := by
      rw [List.map_map, ← range_filter_map f t d l]
      rfl
    show List.map _ (if t x = true then _ else _) = _
    rw [List.filter_cons]
    split
    · rw [List.map_cons, e, List.map_cons]
      rfl
    · exact e
theorem drop_dP {l : List (Int × Int)} {p : Nat} : (dP l).drop p ++ (dP l).take p = dP (l.drop p ++ l.take p) := by
  rw [dP, dP, List.map_append, List.map_take, List.map_drop]
theorem ok_steady_history {f : Addr} {fd : FuncData} {t_OWN : Tok} (F : Fun K "steady_history" "steady_history" s_steady_history f fd) (hm : mg "steady_history" = some (.ref f)) (hb : Binds K fd ["trace", "scheme", "position"] []) (c_OWN : mg "OWN" = some (.str "own" t_OWN)) (m_str : mg "str" = none) (m_len : mg "len" = none) : Def P w K mg base 1 "steady_history" ["trace", "scheme", "position"] spSteady := by
  refine def_mk (k := 0) F sc_steady_history hm hb ?hlen (fun cdv A outer s H E hr => (lss_cons (ls_unp (le_tup (la_cons (le_ix (le_var 1) le_int) (la_cons (le_ix (le_ix (le_var 0) (le_var 2)) le_int) la_nil))) (lg_tup (n := 2) rfl (lgs_cons (lg_name (i := 3) sc_steady_history.nd rfl (by first | exact Or.inl rfl | exact Or.inr rfl)) (lgs_cons (lg_name (i := 4) sc_steady_history.nd rfl (by first | exact Or.inl rfl | exact Or.inr rfl)) lgs_nil))))
  (lss_cons (ls_set 5 sc_steady_history.nd (le_op lo_add (le_sl (le_var 0) (lo_some (le_var 2)) lo_none) (le_sl (le_var 0) lo_none (lo_some (le_var 2)))))
  (lss_cons (ls_set 6 sc_steady_history.nd (le_m_join le_str (la_cons (le_lc rfl sc_steady_history.nd (own := [("other", 8), ("outcome", 9)]) (li_seq (le_var 5)) (by walk_at "lc") (fun _ _ _ _ _ => (lg_tup (n := 2) rfl (lgs_cons (lg_name (i := 8) sc_steady_history.nd rfl (by first | exact Or.inl rfl | exact Or.inr rfl)) (lgs_cons (lg_name (i := 9) sc_steady_history.nd rfl (by first | exact Or.inl rfl | exact Or.inr rfl)) lgs_nil)))) (fun _ _ _ _ _ => (lts_one (lt_w (lw_or (lt_cmp (lo_ne hr.room.units) (le_ix (le_var 1) le_int) (le_gstr (by rfl) c_OWN) (nomark _)) (lw_or1 (lt_cmp (lo_eq hr.room.units) (le_var 8) (le_var 4) (nomark _))))))) (fun _ _ _ _ _ => (le_callTy lc_str (by rfl) m_str (by decide +kernel) (la_cons (le_var 9) la_nil)))) la_nil)))
  (lss_cons (ls_set 7 sc_steady_history.nd (le_op lo_mulA (le_var 6) (le_op lo_add (le_op lo_fdiv (le_var 3) (le_callB lc_len (by rfl) m_len (by decide +kernel) (la_cons (le_var 6) la_nil))) le_int)))
  (lss_one (ls_ret (le_sl (le_var 7) (lo_some (le_op lo_sub (le_callB lc_len (by rfl) m_len (by decide +kernel) (la_cons (le_var 7) la_nil)) (le_var 3))) lo_none)))))))) ?hd
  case hlen =>
    rintro rs n Q ⟨l, s, p, rfl, _⟩
    rfl
  case hd =>
    rintro rs n Qd _ ⟨l, s, p, rfl, ht, hs, hp, hq⟩
    obtain ⟨hl1, hl2, hh⟩ := ht
    obtain ⟨hs1, hs2⟩ := hs
    refine seq_def _ _ _ _ _ (fun R hR => ?_)
    walk_at "de"
    refine ⟨_, sc_1 s, _, dP_at hp, ?_⟩
    walk_at "de"
    refine ⟨_, rfl, by decide, ?_⟩
    walk_at "de"
    refine Eq.mpr (hR _ _) ?_; clear hR
    refine seq_def _ _ _ _ _ (fun R hR => ?_)
    walk_at "de"
    rw [cut_drop (by omega) (by rw [List.length_map]; omega), cut_take (by omega) (by rw [List.length_map]; omega), Int.toNat_natCast, drop_dP]
    refine ⟨size_ok (by rw [List.length_drop, List.length_take, List.length_map]; omega), ?_⟩
    refine Eq.mpr (hR _ _) ?_; clear hR
    refine seq_def _ _ _ _ _ (fun R hR => ?_)
    walk_at "de"
    refine lc_def _ _ _ _ _ _ _ _ (fun F hF => ?_)
    walk_at "de"
    have hmem : ∀ q ∈ l.drop p ++ l.take p, q ∈ l := by
      intro q hq'
      rcases List.mem_append.mp hq' with z | z
      · exact List.mem_of_mem_drop z
      · exact List.mem_of_mem_take z
    have er := row_rot (s := s) hp
    have elen : (l.drop p ++ l.take p).length = l.length := by
      rw [List.length_append, List.length_drop, List.length_take]
      omega
    generalize l.drop p ++ l.take p = rot at *
    refine hF _ _ ?_
    refine lc_filter (fun i => cnts s (cyc l p).1 (rot.getD i (0, 0))) (fun i => .str (bs [bitOf (rot.getD i (0, 0))])) ?hl (fun i z J acc hz ha hJ1 hJ2 => ?_) ?_
    case hl => rw [List.length_map]; omega
    · rw [List.getElem?_map] at hz
      obtain ⟨q, e1, e2⟩ := Option.map_eq_some_iff.mp hz
      subst e2
      have eq : rot.getD i (0, 0) = q := by
        rw [List.getD_eq_getElem?_getD, e1]
        rfl
      rw [eq] at hJ1 hJ2
      have hqm := hmem q (List.mem_of_getElem? e1)
      unfold wipeD wipeD wipeD
      walk_at "de"
      have hA : cnts s (cyc l p).1 q = true → q.2.natAbs.log2 < 1920 ∧ acc.length < sizeLine ∧ J (acc ++ [PyData.str (Str.ofString (toString q.2))]) n := by
        intro hc
        rw [hom_bit hh hqm, bs_str]
        refine ⟨by split <;> decide, ha, hJ1 hc⟩
      refine ⟨_, sc_0 s, ?_⟩
      walk_at "de"
      rw [wd_own]
      refine if_bool (fun h1 => hA ?_) (fun h1 => if_bool (fun h2 => hA ?_) (fun h2 => hJ2 ?_))
      · unfold cnts
        rw [h1, Bool.true_or]
      · unfold cnts
        rw [h2, Bool.or_true]
      · unfold cnts
        rw [h1, h2]
        rfl
    · rw [List.length_map]
      have e := range_filter_map (fun q : Int × Int => PyData.str (bs [bitOf q])) (cnts s (cyc l p).1) (0, 0) rot
      rw [e]
      have e2 : List.map (fun q : Int × Int => PyData.str (bs [bitOf q])) (List.filter (cnts s (cyc l p).1) rot) = (rowOf l s p).map fun b => PyData.str (bs [b]) := by
        rw [er, List.map_map]
        rfl
      rw [e2]
      have r1 := row_pos (s := s) (p := p) hl1
      have r2 := row_le (l := l) (s := s) (p := p)
      walk_at "de"
      refine join_bits (by omega) ?_
      walk_at "de"
      refine Eq.mpr (hR _ _) ?_; clear hR
      refine seq_def _ _ _ _ _ (fun R hR => ?_)
      walk_at "de"
      rw [bs_len, bs_rep]
      have d1 := Nat.div_le_self s.L (rowOf l s p).length
      have ed : ((s.L : Int) / ((rowOf l s p).length : Int) + 1) = ((s.L / (rowOf l s p).length + 1 : Nat) : Int) := by
        rw [Int.natCast_add, Int.natCast_ediv]
        rfl
      have hmul : (rowOf l s p).length * (s.L / (rowOf l s p).length + 1) ≤ 100 * 101 := Nat.mul_le_mul (by omega) (by omega)
      have hdv : CDivW (s.L : Int) ((rowOf l s p).length : Int) := divOk 10 (by omega) (by show _ < (1024 : Int); omega)
      have hwl : s.L ≤ (List.replicate (s.L / (rowOf l s p).length + 1) (rowOf l s p)).flatten.length := by
        rw [PyProof.Rows.lm_len_rep_flat]
        exact wide_ok r1
      have hwu : (List.replicate (s.L / (rowOf l s p).length + 1) (rowOf l s p)).flatten.length ≤ 10100 := by
        rw [PyProof.Rows.lm_len_rep_flat, Nat.mul_comm]
        exact hmul
      unfold steadyAt lastN at hq
      rw [ed, Int.toNat_natCast]
      generalize (List.replicate (s.L / (rowOf l s p).length + 1) (rowOf l s p)).flatten = wide at *
      generalize s.L / (rowOf l s p).length = k at *
      refine ⟨size_ok (by omega), hdv, ⟨by omega, by omega, by omega, size_ok (by omega)⟩, ?_⟩
      refine Eq.mpr (hR _ _) ?_; clear hR
      walk_at "de"
      rw [bs_len, bs_cutS, HT.sIx_none, sIx_lo _ _ (by omega) (by omega)]
      have e5 : ((wide.length : Int) - (s.L : Int)).toNat = wide.length - s.L := by omega
      rw [e5, List.take_of_length_le (by rw [List.length_drop]; exact Nat.le_refl _)]
      exact ⟨size_ok (by omega), size_ok (by omega), hq⟩
/-! folded histories -/
noncomputable def spFold : DSp := fun rs n Q => ∃ (l : List Bool) (w h : Nat), rs = [.d (.str (bs l)), .d (.int (w : Int)), .d (.int (h : Int))] ∧ l.length ≤ 1000 ∧ w ≤ 64 ∧ h < 2 ^ 60 ∧ Q (.d (.int ((foldN l w h : Nat) : Int))) n
theorem bsum_sum (f : Nat → Bool) : ∀ w : Nat, ((List.range w).map fun j => (if f j then (1 : Int) else 0) * 2 ^ j).sum = ((bsum f w : Nat) : Int)
  | 0 => rfl
  | w + 1 => by
    rw [List.range_succ, List.map_append, List.sum_append, bsum_sum f w]
    have e : bsum f (w + 1) = bsum f w + (if f w then 2 ^ w else 0) := rfl
    rw [e]
    cases hf : f w <;> simp [hf]
theorem ok_fold {f : Addr} {fd : FuncData} {t_ONE : Tok} (F : Fun K "fold" "fold" s_fold f fd) (hm : mg "fold" = some (.ref f)) (hb : Binds K fd ["history", "bits", "branch"] []) (m_sum : mg "sum" = none) (m_range : mg "range" = none) (c_ONE : mg "ONE" = some (.str "1" t_ONE)) : Def P w K mg base 1 "fold" ["history", "bits", "branch"] spFold := by
  refine def_mk (k := 0) F sc_fold hm hb ?hlen (fun cdv A outer s H E hr => (lss_cons (ls_set 3 sc_fold.nd (le_step (le_var 0) lo_none lo_none (lo_some (le_neg le_int))))
  (lss_cons (ls_set 4 sc_fold.nd (le_callB (lc_sum rfl) (by rfl) m_sum (by decide +kernel) (la_cons (le_lc rfl sc_fold.nd (own := [("at", 5)]) (li_range1 (by rfl) m_range (la_cons (le_var 1) la_nil)) (by walk_at "lc") (fun _ _ _ _ _ => (lg_name (i := 5) sc_fold.nd rfl (by first | exact Or.inl rfl | exact Or.inr rfl))) (fun _ _ _ _ _ => lts_nil) (fun _ _ _ _ _ => (le_op lo_shl (le_op lo_mod (le_m_count (le_step (le_var 3) (lo_some (le_var 5)) lo_none (lo_some (le_var 1))) (la_cons (le_gstr (by rfl) c_ONE) la_nil)) le_int) (le_var 5)))) la_nil)))
  (lss_one (ls_ret (le_op lo_mod (le_op lo_xor (le_var 4) (le_var 2)) (le_op lo_shl le_int (le_var 1)))))))) ?hd
  case hlen =>
    rintro rs n Q ⟨l, w, h, rfl, _⟩
    rfl
  case hd =>
    rintro rs n Qd _ ⟨l, w, h, rfl, hl, hw, hh, hq⟩
    refine seq_def _ _ _ _ _ (fun R hR => ?_)
    walk_at "de"
    refine ⟨by decide, size_ok (by rw [bs_len]; omega), ?_⟩
    rw [bs_rev]
    refine Eq.mpr (hR _ _) ?_; clear hR
    refine seq_def _ _ _ _ _ (fun R hR => ?_)
    walk_at "de"
    refine lc_def _ _ _ _ _ _ _ _ (fun F hF => ?_)
    walk_at "de"
    refine ⟨by omega, hF _ _ ?_⟩
    refine lc_map (fun j => .int ((if par (lowD l) w j l.length then (1 : Int) else 0) * 2 ^ j)) ?hl (fun j z J acc hz ha hJ => ?_) ?_
    case hl => rw [range_len]; omega
    · obtain ⟨hj, rfl⟩ := range_get hz
      have hj' : j < w := by omega
      unfold wipeD wipeD
      walk_at "de"
      rw [Int.zero_add]
      refine ⟨by omega, size_ok (by rw [bs_len, List.length_reverse]; omega), ?_⟩
      rw [bs_step hj', bs_count]
      have e := stride_par (l := l.reverse) (w := w) (a := j)
      rw [List.length_reverse] at e
      have e2 : (((stride l.reverse w j).count true : Nat) : Int) % 2 = if par (lowD l) w j l.length then (1 : Int) else 0 := by
        have e3 : par (lowD l) w j l.length = par (fun i => l.reverse.getD i false) w j l.length := rfl
        rw [e3]
        split at e <;> rename_i hc
        · rw [if_pos hc]; omega
        · rw [if_neg hc]; omega
      rw [e2]
      refine ⟨by decide, ⟨by omega, by omega, by split <;> decide⟩, ha, ?_⟩
      rw [Int.toNat_natCast]
      exact hJ
    · rw [range_len, Int.toNat_natCast]
      walk_at "de"
      refine ⟨(List.range w).map fun j => (if par (lowD l) w j l.length then (1 : Int) else 0) * 2 ^ j, by rw [List.map_map]; rfl, ?_⟩
      rw [bsum_sum]
      walk_at "de"
      refine Eq.mpr (hR _ _) ?_; clear hR
      walk_at "de"
      have ep : (1 : Int) * 2 ^ ((w : Int)).toNat = ((2 ^ w : Nat) : Int) := by
        rw [Int.toNat_natCast, Int.one_mul, Int.natCast_pow]
        rfl
      rw [ep, Bits.bitXor_pp (by omega) (by omega), Int.toNat_natCast, Int.toNat_natCast, ← Int.natCast_emod, fold_xor]
      have hp : 0 < 2 ^ w := Nat.two_pow_pos w
      exact ⟨⟨by omega, by omega, by decide⟩, by omega, hq⟩
theorem ok_cell_of {f : Addr} {fd : FuncData} {t_FOLDED : Tok} {t_SHARED : Tok} (F : Fun K "cell_of" "cell_of" s_cell_of f fd) (hm : mg "cell_of" = some (.ref f)) (hb : Binds K fd ["scheme", "branch", "history"] []) (c_FOLDED : mg "FOLDED" = some (.str "folded" t_FOLDED)) (c_SHARED : mg "SHARED" = some (.str "shared" t_SHARED)) (D_fold : Def P w K mg base 1 "fold" ["history", "bits", "branch"] spFold) : Def P w K mg base 2 "cell_of" ["scheme", "branch", "history"] spCell := by
  refine def_mk (k := 1) F sc_cell_of hm hb ?hlen (fun cdv A outer s H E hr => (lss_cons (ls_if (lt_cmp (lo_eq hr.room.units) (le_ix (le_var 0) le_int) (le_gstr (by rfl) c_FOLDED) (nomark _)) (lss_one (ls_ret (le_def D_fold (hr.mono (by decide)) (by rfl) (la_cons (le_var 2) (la_cons (le_ix (le_var 0) le_int) (la_cons (le_var 1) la_nil)))))) lss_nil)
  (lss_one (ls_ret (le_if (lt_cmp (lo_eq hr.room.units) (le_ix (le_var 0) le_int) (le_gstr (by rfl) c_SHARED) (nomark _)) (le_var 2) (le_tup (la_cons (le_var 1) (la_cons (le_var 2) la_nil)))))))) ?hd
  case hlen =>
    rintro rs n Q ⟨s, h, x, rfl, _⟩
    rfl
  case hd =>
    rintro rs n Qd _ ⟨s, h, x, rfl, hs, hx, hh, hq⟩
    refine seq_def _ _ _ _ _ (fun R hR => ?_)
    walk_at "de"
    refine ⟨_, sc_0 s, ?_⟩
    walk_at "de"
    rw [wd_folded]
    unfold cellD at hq
    obtain ⟨w, L, b⟩ := s
    cases w with
    | folded =>
      rw [if_pos (by rfl)]
      refine ⟨_, sc_2 _ rfl, ?_⟩
      walk_at "de"
      refine ⟨x, b, h, rfl, hx, by have := hs.2; simp at this; omega, hh, ?_⟩
      walk_at "de"
      rw [Int.toNat_natCast] at hq
      exact hq
    | own =>
      refine Eq.mpr (if_neg fun h => nomatch of_decide_eq_true h) ?_
      refine Eq.mpr (hR _ _) ?_; clear hR
      walk_at "de"
      refine ⟨_, sc_0 _, ?_⟩
      walk_at "de"
      rw [wd_shared]
      exact ⟨by decide, hq⟩
    | split =>
      refine Eq.mpr (if_neg fun h => nomatch of_decide_eq_true h) ?_
      refine Eq.mpr (hR _ _) ?_; clear hR
      walk_at "de"
      refine ⟨_, sc_0 _, ?_⟩
      walk_at "de"
      rw [wd_shared]
      exact ⟨by decide, hq⟩
    | shared =>
      refine Eq.mpr (if_neg fun h => nomatch of_decide_eq_true h) ?_
      refine Eq.mpr (hR _ _) ?_; clear hR
      walk_at "de"
      refine ⟨_, sc_0 _, ?_⟩
      walk_at "de"
      rw [wd_shared]
      exact hq
theorem ok_steady_cells {f : Addr} {fd : FuncData} (F : Fun K "steady_cells" "steady_cells" s_steady_cells f fd) (hm : mg "steady_cells" = some (.ref f)) (hb : Binds K fd ["trace", "scheme"] []) (m_range : mg "range" = none) (m_len : mg "len" = none) (m_tuple : mg "tuple" = none) (D_steady_history : Def P w K mg base 1 "steady_history" ["trace", "scheme", "position"] spSteady) (D_cell_of : Def P w K mg base 2 "cell_of" ["scheme", "branch", "history"] spCell) : Def P w K mg base 3 "steady_cells" ["trace", "scheme"] spCells := by
  refine def_mk (k := 2) F sc_steady_cells hm hb ?hlen (fun cdv A outer s H E hr => (lss_cons (ls_setLc 2 rfl sc_steady_cells.nd (own := [("at", 3)]) (li_range1 (by rfl) m_range (la_cons (le_callB lc_len (by rfl) m_len (by decide +kernel) (la_cons (le_var 0) la_nil)) la_nil)) (by walk_at "lc") (fun _ _ _ _ _ => (lg_name (i := 3) sc_steady_cells.nd rfl (by first | exact Or.inl rfl | exact Or.inr rfl))) (fun _ _ _ _ _ => lts_nil) (fun _ _ _ _ _ => (le_tup (la_cons (le_ix (le_ix (le_var 0) (le_var 3)) le_int) (la_cons (le_def D_steady_history (hr.mono (by decide)) (by rfl) (la_cons (le_var 0) (la_cons (le_var 1) (la_cons (le_var 3) la_nil)))) la_nil)))) (sw_true rfl rfl rfl (by decide +kernel)))
  (lss_one (ls_ret (le_callTy lc_tuple (by rfl) m_tuple (by decide +kernel) (la_cons (le_lc rfl sc_steady_cells.nd (own := [("branch", 4), ("history", 5)]) (li_seq (le_var 2)) (by walk_at "lc") (fun _ _ _ _ _ => (lg_tup (n := 2) rfl (lgs_cons (lg_name (i := 4) sc_steady_cells.nd rfl (by first | exact Or.inl rfl | exact Or.inr rfl)) (lgs_cons (lg_name (i := 5) sc_steady_cells.nd rfl (by first | exact Or.inl rfl | exact Or.inr rfl)) lgs_nil)))) (fun _ _ _ _ _ => lts_nil) (fun _ _ _ _ _ => (le_def D_cell_of (hr.mono (by decide)) (by rfl) (la_cons (le_var 1) (la_cons (le_var 4) (la_cons (le_var 5) la_nil)))))) la_nil)))))) ?hd
  case hlen =>
    rintro rs n Q ⟨l, s, rfl, _⟩
    rfl
  case hd =>
    rintro rs n Qd _ ⟨l, s, rfl, ht, hs, hq⟩
    have hl1 := ht.1
    have hl2 := ht.2.1
    refine seq_def _ _ _ _ _ (fun R hR => ?_)
    walk_at "de"
    refine lc_def _ _ _ _ _ _ _ _ (fun F hF => ?_)
    walk_at "de"
    rw [List.length_map]
    refine ⟨by omega, hF _ _ ?_⟩
    refine lc_map (fun p => .tuple [.int (cyc l p).1, .str (bs (steadyAt l s p))]) ?hl (fun p z J acc hz ha hJ => ?_) ?_
    case hl => rw [range_len]; omega
    · obtain ⟨hp, rfl⟩ := range_get hz
      have hp' : p < l.length := by omega
      rw [Int.zero_add]
      unfold wipeD wipeD
      walk_at "de"
      refine ⟨_, dP_at hp', ?_⟩
      walk_at "de"
      refine ⟨_, rfl, l, s, p, rfl, ht, hs, hp', ?_⟩
      walk_at "de"
      exact ⟨by decide, ha, hJ⟩
    · rw [range_len, Int.toNat_natCast]
      walk_at "de"
      refine Eq.mpr (hR _ _) ?_; clear hR
      walk_at "de"
      refine lc_def _ _ _ _ _ _ _ _ (fun F hF => ?_)
      walk_at "de"
      refine hF _ _ ?_
      refine lc_map (fun p => cellD s (cyc l p).1 (steadyAt l s p)) ?hl2 (fun p z J acc hz ha hJ => ?_) ?_
      case hl2 => rw [List.length_map, List.length_range]; omega
      · have hp' : p < l.length := by
          have := (List.getElem?_eq_some_iff.mp hz).1
          rw [List.length_map, List.length_range] at this
          exact this
        rw [List.getElem?_map, List.getElem?_range hp'] at hz
        cases hz
        obtain ⟨h, eh, h7⟩ := tr_home ht p
        unfold wipeD wipeD wipeD
        walk_at "de"
        rw [eh] at hJ ⊢
        refine ⟨s, h, _, rfl, hs, by rw [steady_len hl1]; have := hs.1; omega, by omega, ?_⟩
        walk_at "de"
        exact ⟨ha, hJ⟩
      · rw [List.length_map, List.length_range]
        walk_at "de"
        exact hq
/-! clashes -/
/-! groups of positions -/
noncomputable def cellAt (l : List (Int × Int)) (s : Sc) (p : Nat) : PyData := cellD s (cyc l p).1 (steadyAt l s p)
noncomputable def dcells (l : List (Int × Int)) (s : Sc) : List PyData := match s.w with
  | .folded => (metL ((List.range l.length).map fun p => ((foldN (steadyAt l s p) s.b (cyc l p).1.toNat : Nat) : Int))).map PyData.int
  | .shared => (metL ((List.range l.length).map fun p => bs (steadyAt l s p))).map PyData.str
  | _ => (metL ((List.range l.length).map fun p => ((cyc l p).1, bs (steadyAt l s p)))).map cpd
theorem dcells_dist (l : List (Int × Int)) (s : Sc) : DistOf (steadyD l s) (dcells l s) := by
  unfold dcells
  obtain ⟨w, L, b⟩ := s
  cases w with
  | folded => exact .inr (.inl ⟨_, by unfold steadyD; rw [List.map_map]; rfl, rfl⟩)
  | shared => exact .inl ⟨_, by unfold steadyD; rw [List.map_map]; rfl, rfl⟩
  | own => exact .inr (.inr ⟨_, by unfold steadyD; rw [List.map_map]; rfl, rfl⟩)
  | split => exact .inr (.inr ⟨_, by unfold steadyD; rw [List.map_map]; rfl, rfl⟩)
theorem metL_len {κ : Type} [DecidableEq κ] [Inhabited κ] (ks : List κ) : (metL ks).length ≤ ks.length := metK_le _ _
theorem dcells_len (l : List (Int × Int)) (s : Sc) : (dcells l s).length ≤ l.length := by
  unfold dcells
  split
  all_goals rw [List.length_map]
  all_goals refine Nat.le_trans (metL_len _) ?_
  all_goals rw [List.length_map, List.length_range]
  all_goals exact Nat.le_refl _
theorem eqv_cell (s : Sc) (h h' : Int) (x x' : List Bool) : PyData.eqv (cellD s h x) (cellD s h' x') = ceq s h x h' x' := by
  rw [Bool.eq_iff_iff, ceq_iff]
  obtain ⟨w, L, b⟩ := s
  cases w with
  | folded => simp [cellD, PyData.eqv]
  | shared => simp [cellD, PyData.eqv]
  | own => rw [show cellD ⟨.own, L, b⟩ h x = .tuple [.int h, .str (bs x)] from rfl, show cellD ⟨.own, L, b⟩ h' x' = .tuple [.int h', .str (bs x')] from rfl, eqv_pair]; exact ⟨fun e => by rw [e.1, e.2], fun e => by simp at e; exact ⟨e.1, bs_inj e.2⟩⟩
  | split => rw [show cellD ⟨.split, L, b⟩ h x = .tuple [.int h, .str (bs x)] from rfl, show cellD ⟨.split, L, b⟩ h' x' = .tuple [.int h', .str (bs x')] from rfl, eqv_pair]; exact ⟨fun e => by rw [e.1, e.2], fun e => by simp at e; exact ⟨e.1, bs_inj e.2⟩⟩
theorem metL_in {κ : Type} [DecidableEq κ] [Inhabited κ] {v : Nat → κ} {n : Nat} {x : κ} (h : x ∈ metL ((List.range n).map v)) : ∃ p, p < n ∧ x = v p := by
  have key : ∀ {f : Nat → κ} {i : Nat}, x ∈ metK f i → ∃ j, j < i ∧ x = f j := by
    intro f i
    induction i with
    | zero => intro h; cases h
    | succ i ih =>
      intro h
      unfold metK at h
      split at h
      · obtain ⟨j, a, b⟩ := ih h
        exact ⟨j, by omega, b⟩
      · rcases List.mem_append.mp h with q | q
        · obtain ⟨j, a, b⟩ := ih q
          exact ⟨j, by omega, b⟩
        · exact ⟨i, by omega, List.mem_singleton.mp q⟩
  obtain ⟨j, hj, e⟩ := key h
  rw [List.length_map, List.length_range] at hj
  refine ⟨j, hj, e.trans ?_⟩
  rw [List.getD_eq_getElem?_getD, List.getElem?_map, List.getElem?_range hj]
  rfl
theorem dcells_in {l : List (Int × Int)} {s : Sc} {z : PyData} (h : z ∈ sortD (dcells l s)) : ∃ p, p < l.length ∧ z = cellAt l s p := by
  have h : z ∈ dcells l s := by
    unfold sortD at h
    exact List.mem_mergeSort.mp h
  obtain ⟨w, L, b⟩ := s
  cases w with
  | folded =>
    obtain ⟨k, hk, rfl⟩ := List.mem_map.mp (show z ∈ List.map PyData.int _ from h)
    obtain ⟨p, hp, rfl⟩ := metL_in hk
    exact ⟨p, hp, rfl⟩
  | shared =>
    obtain ⟨k, hk, rfl⟩ := List.mem_map.mp (show z ∈ List.map PyData.str _ from h)
    obtain ⟨p, hp, rfl⟩ := metL_in hk
    exact ⟨p, hp, rfl⟩
  | own =>
    obtain ⟨k, hk, rfl⟩ := List.mem_map.mp (show z ∈ List.map cpd _ from h)
    obtain ⟨p, hp, rfl⟩ := metL_in hk
    exact ⟨p, hp, rfl⟩
  | split =>
    obtain ⟨k, hk, rfl⟩ := List.mem_map.mp (show z ∈ List.map cpd _ from h)
    obtain ⟨p, hp, rfl⟩ := metL_in hk
    exact ⟨p, hp, rfl⟩
noncomputable def posOf (l : List (Int × Int)) (s : Sc) (d : PyData) : List Nat := (List.range l.length).filter fun i => PyData.eqv (cellAt l s i) d
noncomputable def grpD (l : List (Int × Int)) (s : Sc) (d : PyData) : PyData := PyData.tuple [d, PyData.tuple (List.map (fun i : Nat => PyData.int (i : Int)) (posOf l s d))]
noncomputable def groupsD (l : List (Int × Int)) (s : Sc) : List PyData := (sortD (dcells l s)).map (grpD l s)
noncomputable def spGroups : DSp := fun rs n Q => ∃ (l : List (Int × Int)) (s : Sc), rs = [.d (TP l), .d s.data] ∧ Tr l ∧ l.length ≤ 64 ∧ SOk s ∧ Q (.d (.tuple (groupsD l s))) n
noncomputable def cellK (l : List (Int × Int)) (s : Sc) (p : Nat) : CK := match s.w with
  | .folded => .inl (.inl ((foldN (steadyAt l s p) s.b (cyc l p).1.toNat : Nat) : Int))
  | .shared => .inl (.inr (bs (steadyAt l s p)))
  | _ => .inr ((cyc l p).1, bs (steadyAt l s p))
theorem cellK_D (l : List (Int × Int)) (s : Sc) (p : Nat) : ckD (cellK l s p) = cellAt l s p := by
  obtain ⟨w, L, b⟩ := s
  cases w <;> rfl
noncomputable def isPair (s : Sc) : Bool := match s.w with
  | .folded => false
  | .shared => false
  | _ => true
theorem cellK_ok (l : List (Int × Int)) (s : Sc) (p : Nat) : ckOk (isPair s) (cellK l s p) := by
  obtain ⟨w, L, b⟩ := s
  cases w <;> exact True.intro
theorem metK_ext {κ : Type} [DecidableEq κ] {u v : Nat → κ} : ∀ {n : Nat}, (∀ i < n, u i = v i) → metK u n = metK v n
  | 0, _ => rfl
  | n + 1, h => by
    rw [metK, metK, metK_ext (n := n) fun i hi => h i (by omega), h n (by omega)]
theorem metL_range {κ : Type} [DecidableEq κ] [Inhabited κ] (u : Nat → κ) (n : Nat) : metL ((List.range n).map u) = metK u n := by
  unfold metL
  rw [List.length_map, List.length_range]
  refine metK_ext fun i hi => ?_
  rw [List.getD_eq_getElem?_getD, List.getElem?_map, List.getElem?_range hi]
  rfl
theorem cellK_met (l : List (Int × Int)) (s : Sc) : (metK (cellK l s) l.length).map ckD = dcells l s := by
  obtain ⟨w, L, b⟩ := s
  cases w with
  | folded =>
    show List.map ckD (metK (fun p => Sum.inl (Sum.inl _)) _) = List.map PyData.int _
    rw [metL_range, metK_fmap (fun i : Int => (Sum.inl (Sum.inl i) : CK)) (fun a b e => Sum.inl.inj (Sum.inl.inj e)), List.map_map]
    rfl
  | shared =>
    show List.map ckD (metK (fun p => Sum.inl (Sum.inr _)) _) = List.map PyData.str _
    rw [metL_range, metK_fmap (fun i : Str => (Sum.inl (Sum.inr i) : CK)) (fun a b e => Sum.inr.inj (Sum.inl.inj e)), List.map_map]
    rfl
  | own =>
    show List.map ckD (metK (fun p => Sum.inr _) _) = List.map cpd _
    rw [metL_range, metK_fmap (fun i : Int × Str => (Sum.inr i : CK)) (fun a b e => Sum.inr.inj e), List.map_map]
    rfl
  | split =>
    show List.map ckD (metK (fun p => Sum.inr _) _) = List.map cpd _
    rw [metL_range, metK_fmap (fun i : Int × Str => (Sum.inr i : CK)) (fun a b e => Sum.inr.inj e), List.map_map]
    rfl
theorem cellK_eq (l : List (Int × Int)) (s : Sc) (i j : Nat) : PyData.eqv (cellAt l s i) (cellAt l s j) = decide (cellK l s i = cellK l s j) := by
  rw [Bool.eq_iff_iff, decide_eq_true_iff]
  obtain ⟨w, L, b⟩ := s
  cases w with
  | folded => simp [cellAt, cellK, cellD, PyData.eqv]
  | shared => simp [cellAt, cellK, cellD, PyData.eqv]
  | own =>
    rw [show cellAt l ⟨.own, L, b⟩ i = .tuple [.int (cyc l i).1, .str (bs (steadyAt l ⟨.own, L, b⟩ i))] from rfl, show cellAt l ⟨.own, L, b⟩ j = .tuple [.int (cyc l j).1, .str (bs (steadyAt l ⟨.own, L, b⟩ j))] from rfl, eqv_pair]
    exact ⟨fun e => by show Sum.inr _ = Sum.inr _; rw [e.1, e.2], fun e => by have := Prod.mk.inj (Sum.inr.inj e); exact ⟨this.1, bs_inj this.2⟩⟩
  | split =>
    rw [show cellAt l ⟨.split, L, b⟩ i = .tuple [.int (cyc l i).1, .str (bs (steadyAt l ⟨.split, L, b⟩ i))] from rfl, show cellAt l ⟨.split, L, b⟩ j = .tuple [.int (cyc l j).1, .str (bs (steadyAt l ⟨.split, L, b⟩ j))] from rfl, eqv_pair]
    exact ⟨fun e => by show Sum.inr _ = Sum.inr _; rw [e.1, e.2], fun e => by have := Prod.mk.inj (Sum.inr.inj e); exact ⟨this.1, bs_inj this.2⟩⟩
theorem pos_cell (l : List (Int × Int)) (s : Sc) (p : Nat) : posK (cellK l s) l.length (cellK l s p) = posOf l s (cellAt l s p) := by
  unfold posK posOf
  refine List.filter_congr fun i _ => ?_
  rw [cellK_eq]
theorem range_map_get2 {α β : Type} (f : α → β) (d : α) (l : List α) : (List.range l.length).map (fun i => f (l.getD i d)) = l.map f := by
  apply List.ext_getElem?
  intro i
  rw [List.getElem?_map, List.getElem?_map]
  rcases Nat.lt_or_ge i l.length with q | q
  · rw [List.getElem?_range q, List.getElem?_eq_getElem q]
    show some (f (l.getD i d)) = _
    rw [List.getD_eq_getElem?_getD, List.getElem?_eq_getElem q]
    rfl
  · rw [List.getElem?_eq_none (by rw [List.length_range]; exact q), List.getElem?_eq_none q]
    rfl
theorem enum_map (f : Nat → PyData) (n : Nat) : enumFrom 0 ((List.range n).map f) = (List.range n).map fun (t : Nat) => .tuple [.int (t : Int), f t] := by
  apply List.ext_getElem?
  intro i
  rw [List.getElem?_map]
  rcases Nat.lt_or_ge i n with q | q
  · have hl : i < (enumFrom 0 ((List.range n).map f)).length := by rw [enum_len, List.length_map, List.length_range]; exact q
    have e := List.getElem?_eq_getElem hl
    obtain ⟨x, e1, e2⟩ := enum_get _ _ _ _ e
    rw [List.getElem?_map, List.getElem?_range q] at e1
    cases e1
    rw [e, e2, List.getElem?_range q, Nat.zero_add]
    rfl
  · rw [List.getElem?_eq_none (by rw [enum_len, List.length_map, List.length_range]; exact q), List.getElem?_eq_none (by rw [List.length_range]; exact q)]
    rfl
theorem ok_groups {f : Addr} {fd : FuncData} (F : Fun K "groups" "groups" s_groups f fd) (hm : mg "groups" = some (.ref f)) (hb : Binds K fd ["trace", "scheme"] []) (m_enumerate : mg "enumerate" = none) (m_tuple : mg "tuple" = none) (m_sorted : mg "sorted" = none) (D_steady_cells : Def P w K mg base 3 "steady_cells" ["trace", "scheme"] spCells) : Def P w K mg base 4 "groups" ["trace", "scheme"] spGroups := by
  refine def_mk (k := 3) F sc_groups hm hb ?hlen (fun cdv A outer s H E hr => (lss_grp (P := P) (w := w) (i := 2) (j := 3) (k := 4) rfl rfl (by decide) (by decide) (by decide) PassesOwn.never rfl (ps_set (i := 2) sc_groups.nd rfl (by first | exact Or.inl rfl | exact Or.inr rfl) pe_dnewO) (li_enum (by rfl) m_enumerate (la_cons (le_def D_steady_cells (hr.mono (by decide)) (by rfl) (la_cons (le_var 0) (la_cons (le_var 1) la_nil))) la_nil)) (lg_tup (n := 2) rfl (lgs_cons (lg_name (i := 3) sc_groups.nd rfl (by first | exact Or.inl rfl | exact Or.inr rfl)) (lgs_cons (lg_name (i := 4) sc_groups.nd rfl (by first | exact Or.inl rfl | exact Or.inr rfl)) lgs_nil))) (pss_one (ps_expr (pe_bm PySem.F.plainAttrs_list PySem.F.slot_list_append PySem.F.type_list_append mt_append (pe_setd (un9 (un65 hr.room)) (pv 2) (pv 4) (pe_lst pa_nil) ⟨rfl, rfl, rfl, rfl⟩) (pa_cons (pv 3) pa_nil))))
  (lss_one (ls_ret (le_callTy lc_tuple (by rfl) m_tuple (by decide +kernel) (la_cons (le_lc rfl sc_groups.nd (own := [("cell", 4)]) (li_seq (le_sortO P w 2 rfl (un65 hr.room) (by rfl) m_sorted)) (by walk_at "lc") (fun _ _ _ _ _ => (lg_name (i := 4) sc_groups.nd rfl (by first | exact Or.inl rfl | exact Or.inr rfl))) (fun _ _ _ _ _ => lts_nil) (fun _ _ _ _ _ => (le_tup (la_cons (le_var 4) (la_cons (le_callTy lc_tuple (by rfl) m_tuple (by decide +kernel) (la_cons (le_dix P w 2 (un9 (un65 hr.room)) (le_var 4)) la_nil)) la_nil))))) la_nil)))))) ?hd
  case hlen =>
    rintro rs n Q ⟨l, s, rfl, _⟩
    rfl
  case hd =>
    rintro rs n Qd _ ⟨l, s, rfl, ht, h64, hs, hq⟩
    walk_at "de"
    refine ⟨by decide, isPair s, l, s, rfl, ht, hs, ?_⟩
    walk_at "de"
    refine ⟨l.length, cellK l s, ?_, fun t _ => cellK_ok l s t, by rw [sizeLine_eq]; omega, ?_⟩
    · unfold steadyD
      rw [enum_map]
      refine List.map_congr_left fun t _ => ?_
      rw [cellK_D]
      rfl
    refine lc_def _ _ _ _ _ _ _ _ (fun F hF => ?_)
    walk_at "de"
    have lD : (sortD (dcells l s)).length ≤ 64 := by
      unfold sortD
      rw [List.length_mergeSort]
      exact Nat.le_trans (dcells_len l s) h64
    refine ⟨_, _, rfl, ?_⟩
    rw [cellK_met]
    refine ⟨(dcells_dist l s).kind, hF _ _ ?_⟩
    refine lc_map (fun i => grpD l s ((sortD (dcells l s)).getD i .none)) ?hl (fun i z J acc hz ha hJ => ?_) ?_
    case hl => omega
    · have ez : (sortD (dcells l s)).getD i .none = z := by rw [List.getD_eq_getElem?_getD, hz]; rfl
      rw [ez] at hJ
      obtain ⟨p, hp, rfl⟩ := dcells_in (List.mem_of_getElem? hz)
      unfold wipeD wipeD
      walk_at "de"
      refine ⟨_, _, rfl, p, hp, by rw [cellK_D], ?_⟩
      rw [pos_cell]
      exact ⟨by decide, ha, hJ⟩
    walk_at "de"
    rw [range_map_get2 (grpD l s) PyData.none _]
    exact hq
theorem ok__law_folded {f : Addr} {fd : FuncData} (F : Fun K "_law_folded" "_law_folded" s__law_folded f fd) (hm : mg "_law_folded" = some (.ref f)) (hb : Binds K fd ["_law_past_here", "_law_width", "_law_home"] []) (m_int : mg "int" = none) : Def P w K mg base 1 "_law_folded" ["_law_past_here", "_law_width", "_law_home"] spFold := by
  refine def_mk (k := 0) F sc__law_folded hm hb ?hlen (fun cdv A outer s H E hr => (lss_cons (ls_par2 3 4 sc__law_folded.nd (la_cons (le_var 2) (la_cons le_int la_nil)) rfl)
  (lss_cons (ls_for PassesOwn.never rfl (li_seq (le_var 0)) (lg_name (i := 5) sc__law_folded.nd rfl (by first | exact Or.inl rfl | exact Or.inr rfl)) (lss_one (ls_set 4 sc__law_folded.nd (le_op lo_add (le_op lo_mulA le_int (le_var 4)) (le_callTy lc_int (by rfl) m_int (by decide +kernel) (la_cons (le_cmp (lo_eq hr.room.units) (le_var 5) le_str (nomark _)) la_nil))))))
  (lss_cons (ls_while PassesOwn.never (lt_w (lw_and (lt_cmp lo_gt (le_var 4) le_int (nomark _)) (lw_and1 (lt_cmp lo_gt (le_var 1) le_int (nomark _))))) (lss_cons (ls_set 3 sc__law_folded.nd (le_op lo_xor (le_var 3) (le_op lo_mod (le_var 4) (le_op lo_shl le_int (le_var 1)))))
  (lss_one (ls_set 4 sc__law_folded.nd (le_op lo_shr (le_var 4) (le_var 1))))))
  (lss_one (ls_ret (le_op lo_mod (le_var 3) (le_op lo_shl le_int (le_var 1))))))))) ?hd
  case hlen =>
    rintro rs n Q ⟨l, w, h, rfl, _⟩
    rfl
  case hd =>
    rintro rs n Qd _ ⟨l, w, h, rfl, hl, hw, hh, hq⟩
    refine seq_def _ _ _ _ _ (fun R hR => ?_)
    walk_at "de"
    refine Eq.mpr (hR _ _) ?_; clear hR
    obtain ⟨Iv, hI⟩ := inv3 (fun (i : Nat) (ρ : DEnv) (m : Nat) => m = n ∧ ∃ u, ρ = [some (.d (.str (bs l))), some (.d (.int (w : Int))), some (.d (.int (h : Int))), some (.d (.int (h : Int))), some (.d (.int ((numv (l.take i) : Nat) : Int))), u])
    refine seq_def _ _ _ _ _ (fun R hR => ?_)
    refine for_def _ _ _ _ _ _ (fun F hF => ?_)
    walk_at "de"
    rw [bs_items]
    refine hF _ _ ⟨Iv, (hI _ _ _).mpr ⟨rfl, _, rfl⟩, fun i ρ m z hv hz => ?_, fun ρ m hv => ?_⟩
    · obtain ⟨rfl, u, rfl⟩ := (hI _ _ _).mp hv
      rw [List.getElem?_map] at hz
      obtain ⟨b, e1, e2⟩ := Option.map_eq_some_iff.mp hz
      subst e2
      have hi := (List.getElem?_eq_some_iff.mp e1).1
      have et : l.take (i + 1) = l.take i ++ [b] := by
        rw [List.take_succ, e1]
        rfl
      have hlt := numv_lt (l.take i)
      have hlt2 : numv (l.take i) < 2 ^ 1000 := Nat.lt_of_lt_of_le hlt (Nat.pow_le_pow_right (by decide) (by rw [List.length_take]; omega))
      clear hF hv hz
      walk_at "de"
      rw [bs_is1]
      have en : (2 : Int) * ((numv (l.take i) : Nat) : Int) + (if b = true then 1 else 0) = ((numv (l.take (i + 1)) : Nat) : Int) := by
        rw [et, numv_app]
        cases b <;> simp
      refine ⟨mulOk 2 1000 (by decide) (by rw [Int.natAbs_natCast]; exact hlt2), ?_⟩
      rw [en]
      exact (hI _ _ _).mpr ⟨rfl, _, rfl⟩
    · obtain ⟨rfl, u, rfl⟩ := (hI _ _ _).mp hv
      rw [List.length_map, List.take_length]
      clear hF hv hI Iv
      refine Eq.mpr (hR _ _) ?_; clear hR
      obtain ⟨Iv, hI⟩ := inv3 (fun (d : Nat) (ρ : DEnv) (m' : Nat) => m' = m ∧ ∃ (k f : Nat), FoldAt l w h k f ∧ d = numv l / 2 ^ (w * k) ∧ ρ = [some (.d (.str (bs l))), some (.d (.int (w : Int))), some (.d (.int (h : Int))), some (.d (.int (f : Int))), some (.d (.int ((numv l / 2 ^ (w * k) : Nat) : Int))), u])
      refine seq_def _ _ _ _ _ (fun R hR => ?_)
      refine ⟨Iv, ⟨numv l, (hI _ _ _).mpr ⟨rfl, 0, h, foldAt_zero l w h, by rw [Nat.mul_zero, Nat.pow_zero, Nat.div_one], by rw [Nat.mul_zero, Nat.pow_zero, Nat.div_one]⟩⟩, fun d ρ m' hv => ?_⟩
      obtain ⟨rfl, k, f, hf, hd, rfl⟩ := (hI _ _ _).mp hv
      clear hv
      have fin : w = 0 ∨ numv l / 2 ^ (w * k) = 0 → R [some (.d (.str (bs l))), some (.d (.int (w : Int))), some (.d (.int (h : Int))), some (.d (.int (f : Int))), some (.d (.int ((numv l / 2 ^ (w * k) : Nat) : Int))), u] m' := by
        intro he
        refine Eq.mpr (hR _ _) ?_; clear hR
        walk_at "de"
        have ep : (1 : Int) * 2 ^ ((w : Int)).toNat = ((2 ^ w : Nat) : Int) := by
          rw [Int.toNat_natCast, Int.one_mul, Int.natCast_pow]
          rfl
        have hp : 0 < 2 ^ w := Nat.two_pow_pos w
        rw [ep, ← Int.natCast_emod, foldAt_end hf he]
        exact ⟨⟨by omega, by omega, by decide⟩, by omega, hq⟩
      have step : 0 < numv l / 2 ^ (w * k) → 0 < w → ∃ d', d' < d ∧ Iv d' [some (.d (.str (bs l))), some (.d (.int (w : Int))), some (.d (.int (h : Int))), some (.d (.int ((f ^^^ (numv l / 2 ^ (w * k)) % 2 ^ w : Nat) : Int))), some (.d (.int ((numv l / 2 ^ (w * k) / 2 ^ w : Nat) : Int))), u] m' := by
        intro h1 h2
        have e : numv l / 2 ^ (w * k) / 2 ^ w = numv l / 2 ^ (w * (k + 1)) := by
          rw [Nat.div_div_eq_div_mul, ← Nat.pow_add, Nat.mul_add, Nat.mul_one]
        have h3 : 2 ≤ 2 ^ w := by
          have := Nat.pow_le_pow_right (show 0 < 2 by decide) h2
          exact this
        refine ⟨numv l / 2 ^ (w * k) / 2 ^ w, ?_, (hI _ _ _).mpr ⟨rfl, k + 1, _, foldAt_next hf, e, by rw [e]⟩⟩
        rw [hd]
        exact Nat.div_lt_self h1 h3
      generalize numv l / 2 ^ (w * k) = D at *
      walk_at "de"
      refine if_bool (fun h1 => if_bool (fun h2 => ?_) (fun h2 => ?_)) (fun h1 => ?_)
      · have d1 : 0 < D := by
          have := of_decide_eq_true h1
          omega
        have d2 : 0 < w := by
          have := of_decide_eq_true h2
          omega
        have st := step d1 d2
        clear step fin
        refine seq_def _ _ _ _ _ (fun R hR => ?_)
        walk_at "de"
        have ep : (1 : Int) * 2 ^ ((w : Int)).toNat = ((2 ^ w : Nat) : Int) := by
          rw [Int.toNat_natCast, Int.one_mul, Int.natCast_pow]
          rfl
        have hp : 0 < 2 ^ w := Nat.two_pow_pos w
        rw [ep, ← Int.natCast_emod, Bits.bitXor_pp (by omega) (by omega), Int.toNat_natCast, Int.toNat_natCast]
        refine ⟨⟨by omega, by omega, by decide⟩, by omega, ?_⟩
        refine Eq.mpr (hR _ _) ?_; clear hR
        walk_at "de"
        have ed : (D : Int) / 2 ^ ((w : Int)).toNat = ((D / 2 ^ w : Nat) : Int) := by
          rw [Int.toNat_natCast, Int.natCast_ediv, Int.natCast_pow]
          rfl
        rw [ed]
        exact ⟨by omega, st⟩
      · exact fin (.inl (by have := of_decide_eq_false h2; omega))
      · exact fin (.inr (by have := of_decide_eq_false h1; omega))
theorem ok__law_cell {f : Addr} {fd : FuncData} (F : Fun K "_law_cell" "_law_cell" s__law_cell f fd) (hm : mg "_law_cell" = some (.ref f)) (hb : Binds K fd ["_law_plan_here", "_law_home", "_law_past_here"] []) (D__law_folded : Def P w K mg base 1 "_law_folded" ["_law_past_here", "_law_width", "_law_home"] spFold) : Def P w K mg base 2 "_law_cell" ["_law_plan_here", "_law_home", "_law_past_here"] spCell := by
  refine def_mk (k := 1) F sc__law_cell hm hb ?hlen (fun cdv A outer s H E hr => (lss_cons (ls_if (lt_cmp (lo_eq hr.room.units) (le_ix (le_var 0) le_int) le_str (nomark _)) (lss_one (ls_ret (le_def D__law_folded (hr.mono (by decide)) (by rfl) (la_cons (le_var 2) (la_cons (le_ix (le_var 0) le_int) (la_cons (le_var 1) la_nil)))))) lss_nil)
  (lss_one (ls_ret (le_if (lt_cmp (lo_eq hr.room.units) (le_ix (le_var 0) le_int) le_str (nomark _)) (le_var 2) (le_tup (la_cons (le_var 1) (la_cons (le_var 2) la_nil)))))))) ?hd
  case hlen =>
    rintro rs n Q ⟨s, h, x, rfl, _⟩
    rfl
  case hd =>
    rintro rs n Qd _ ⟨s, h, x, rfl, hs, hx, hh, hq⟩
    refine seq_def _ _ _ _ _ (fun R hR => ?_)
    walk_at "de"
    refine ⟨_, sc_0 s, ?_⟩
    walk_at "de"
    rw [wd_folded]
    unfold cellD at hq
    obtain ⟨w, L, b⟩ := s
    cases w with
    | folded =>
      rw [if_pos (by rfl)]
      refine ⟨_, sc_2 _ rfl, ?_⟩
      walk_at "de"
      refine ⟨x, b, h, rfl, hx, by have := hs.2; simp at this; omega, hh, ?_⟩
      walk_at "de"
      rw [Int.toNat_natCast] at hq
      exact hq
    | own =>
      refine Eq.mpr (if_neg fun h => nomatch of_decide_eq_true h) ?_
      refine Eq.mpr (hR _ _) ?_; clear hR
      walk_at "de"
      refine ⟨_, sc_0 _, ?_⟩
      walk_at "de"
      rw [wd_shared]
      exact ⟨by decide, hq⟩
    | split =>
      refine Eq.mpr (if_neg fun h => nomatch of_decide_eq_true h) ?_
      refine Eq.mpr (hR _ _) ?_; clear hR
      walk_at "de"
      refine ⟨_, sc_0 _, ?_⟩
      walk_at "de"
      rw [wd_shared]
      exact ⟨by decide, hq⟩
    | shared =>
      refine Eq.mpr (if_neg fun h => nomatch of_decide_eq_true h) ?_
      refine Eq.mpr (hR _ _) ?_; clear hR
      walk_at "de"
      refine ⟨_, sc_0 _, ?_⟩
      walk_at "de"
      rw [wd_shared]
      exact hq
noncomputable def spPast : DSp := fun rs n Q => ∃ (l : List (Int × Int)) (s : Sc) (t : Nat), rs = [.d (TP l), .d s.data, .d (.int (t : Int))] ∧ Tr l ∧ SOk s ∧ Q (.d (.str (bs (pastAt l s t)))) n
theorem cyc_at {l : List (Int × Int)} (h : 1 ≤ l.length) (i : Nat) : atI (dP l) ((i : Int) % (l.length : Int)) = some (Pr (cyc l i)) := by
  rw [← Int.natCast_emod]
  refine atI_of (Int.natCast_nonneg _) ?_
  rw [Int.toNat_natCast, List.getElem?_map, cyc_get h]
  rfl
theorem ok__law_past {f : Addr} {fd : FuncData} (F : Fun K "_law_past" "_law_past" s__law_past f fd) (hm : mg "_law_past" = some (.ref f)) (hb : Binds K fd ["_law_loop_here", "_law_plan_here", "_law_time"] []) (m_len : mg "len" = none) (m_str : mg "str" = none) : Def P w K mg base 1 "_law_past" ["_law_loop_here", "_law_plan_here", "_law_time"] spPast := by
  refine def_mk (k := 0) F sc__law_past hm hb ?hlen (fun cdv A outer s H E hr => (lss_cons (ls_par2 3 4 sc__law_past.nd (la_cons le_str (la_cons (le_op lo_sub (le_var 2) le_int) la_nil)) rfl)
  (lss_cons (ls_while PassesOwn.never (lt_w (lw_and (lt_cmp lo_lt (le_callB lc_len (by rfl) m_len (by decide +kernel) (la_cons (le_var 3) la_nil)) (le_ix (le_var 1) le_int) (nomark _)) (lw_and1 (lt_cmp lo_ge (le_var 4) le_int (nomark _))))) (lss_cons (ls_unp (le_ix (le_var 0) (le_op lo_mod (le_var 4) (le_callB lc_len (by rfl) m_len (by decide +kernel) (la_cons (le_var 0) la_nil)))) (lg_tup (n := 2) rfl (lgs_cons (lg_name (i := 5) sc__law_past.nd rfl (by first | exact Or.inl rfl | exact Or.inr rfl)) (lgs_cons (lg_name (i := 6) sc__law_past.nd rfl (by first | exact Or.inl rfl | exact Or.inr rfl)) lgs_nil))))
  (lss_cons (ls_if (lt_w (lw_or (lt_cmp (lo_ne hr.room.units) (le_ix (le_var 1) le_int) le_str (nomark _)) (lw_or1 (lt_cmp (lo_eq hr.room.units) (le_var 5) (le_ix (le_ix (le_var 0) (le_op lo_mod (le_var 2) (le_callB lc_len (by rfl) m_len (by decide +kernel) (la_cons (le_var 0) la_nil)))) le_int) (nomark _))))) (lss_one (ls_set 3 sc__law_past.nd (le_op lo_add (le_callTy lc_str (by rfl) m_str (by decide +kernel) (la_cons (le_var 6) la_nil)) (le_var 3)))) lss_nil)
  (lss_one (ls_set 4 sc__law_past.nd (le_op lo_sub (le_var 4) le_int))))))
  (lss_one (ls_ret (le_op lo_add (le_op lo_mulA le_str (le_op lo_sub (le_ix (le_var 1) le_int) (le_callB lc_len (by rfl) m_len (by decide +kernel) (la_cons (le_var 3) la_nil)))) (le_var 3))))))) ?hd
  case hlen =>
    rintro rs n Q ⟨l, s, t, rfl, _⟩
    rfl
  case hd =>
    rintro rs n Qd _ ⟨l, s, t, rfl, ht, hs, hq⟩
    obtain ⟨hl1, hl2, hh⟩ := ht
    have hs1 := hs.1
    refine seq_def _ _ _ _ _ (fun R hR => ?_)
    walk_at "de"
    refine Eq.mpr (hR _ _) ?_; clear hR
    obtain ⟨Iv, hI⟩ := inv3 (fun (m : Nat) (ρ : DEnv) (n' : Nat) => n' = n ∧ m ≤ t ∧ (evs l s (cyc l t).1 m (t - m)).length ≤ s.L ∧ ∃ u v, ρ = [some (.d (TP l)), some (.d s.data), some (.d (.int (t : Int))), some (.d (.str (bs (evs l s (cyc l t).1 m (t - m))))), some (.d (.int ((m : Int) - 1))), u, v])
    refine seq_def _ _ _ _ _ (fun R hR => ?_)
    refine ⟨Iv, ⟨t, (hI _ _ _).mpr ⟨rfl, Nat.le_refl _, by rw [Nat.sub_self, evs_zero]; exact Nat.zero_le _, _, _, by rw [Nat.sub_self, evs_zero, bs_nil]⟩⟩, fun m ρ n' hv => ?_⟩
    obtain ⟨rfl, hm, hlen, u, v, rfl⟩ := (hI _ _ _).mp hv
    clear hv
    have hsum : evs l s (cyc l t).1 0 t = evs l s (cyc l t).1 0 m ++ evs l s (cyc l t).1 m (t - m) := by
      have := evs_add l s (cyc l t).1 0 m (t - m)
      rw [Nat.zero_add, show m + (t - m) = t by omega] at this
      exact this
    have fin : (evs l s (cyc l t).1 m (t - m)).length = s.L ∨ m = 0 → R [some (.d (TP l)), some (.d s.data), some (.d (.int (t : Int))), some (.d (.str (bs (evs l s (cyc l t).1 m (t - m))))), some (.d (.int ((m : Int) - 1))), u, v] n' := by
      intro he
      have ep : pastAt l s t = List.replicate (s.L - (evs l s (cyc l t).1 m (t - m)).length) false ++ evs l s (cyc l t).1 m (t - m) := by
        unfold pastAt
        rcases he with e | e
        · rw [hsum, ← List.append_assoc, lastN_app _ (by omega), e, Nat.sub_self]
          conv => lhs; rw [← e]
          rw [lastN_self]
          rfl
        · subst e
          rw [hsum, evs_zero, List.nil_append, lastN_pad hlen]
      rw [ep] at hq
      refine Eq.mpr (hR _ _) ?_; clear hR
      walk_at "de"
      refine ⟨_, sc_1 s, ?_⟩
      walk_at "de"
      rw [← bs_zero, bs_len, bs_len, bs_rep, bs_app]
      generalize (evs l s (cyc l t).1 m (t - m)) = ev at *
      have e1 : ((s.L : Int) - (ev.length : Int)).toNat = s.L - ev.length := by omega
      rw [e1]
      have e2 : (List.replicate (s.L - ev.length) [false]).flatten = List.replicate (s.L - ev.length) false := by
        generalize s.L - ev.length = k
        induction k with
        | zero => rfl
        | succ k ih => rw [List.replicate_succ, List.flatten_cons, ih, List.replicate_succ]; rfl
      rw [e2]
      have e3 : [false].length = 1 := rfl
      rw [e3, bs_len, List.length_replicate]
      exact ⟨size_ok (by omega), ⟨by omega, by omega, by decide, size_ok (by omega)⟩, size_ok (by omega), hq⟩
    walk_at "de"
    rw [bs_len]
    refine ⟨size_ok (by omega), _, sc_1 s, ?_⟩
    walk_at "de"
    refine if_bool (fun h1 => if_bool (fun h2 => ?_) (fun h2 => ?_)) (fun h1 => ?_)
    · have h1' : (evs l s (cyc l t).1 m (t - m)).length < s.L := by
        have := of_decide_eq_true h1
        omega
      have h2' : 1 ≤ m := by
        have := of_decide_eq_true h2
        omega
      have ecast : (m : Int) - 1 = ((m - 1 : Nat) : Int) := by omega
      have esplit : evs l s (cyc l t).1 (m - 1) (t - (m - 1)) = evs l s (cyc l t).1 (m - 1) 1 ++ evs l s (cyc l t).1 m (t - m) := by
        have := evs_add l s (cyc l t).1 (m - 1) 1 (t - m)
        rw [show m - 1 + 1 = m by omega, show 1 + (t - m) = t - (m - 1) by omega] at this
        exact this
      clear fin
      refine seq_def _ _ _ _ _ (fun R hR => ?_)
      walk_at "de"
      rw [List.length_map, ecast]
      refine ⟨by omega, _, cyc_at hl1 (m - 1), ?_⟩
      walk_at "de"
      refine Eq.mpr (hR _ _) ?_; clear hR
      have next : ∀ ev' : List Bool, evs l s (cyc l t).1 (m - 1) (t - (m - 1)) = ev' → ev'.length ≤ s.L → ∃ m', m' < m ∧ Iv m' [some (.d (TP l)), some (.d s.data), some (.d (.int (t : Int))), some (.d (.str (bs ev'))), some (.d (.int (((m - 1 : Nat) : Int) - 1))), some (.d (.int (cyc l (m - 1)).1)), some (.d (.int (cyc l (m - 1)).2))] n' := by
        intro ev' e1 e2
        subst e1
        exact ⟨m - 1, by omega, (hI _ _ _).mpr ⟨rfl, by omega, e2, _, _, rfl⟩⟩
      refine seq_def _ _ _ _ _ (fun R hR => ?_)
      have go : ∀ ev' : List Bool, evs l s (cyc l t).1 (m - 1) (t - (m - 1)) = ev' → ev'.length ≤ s.L → R [some (.d (TP l)), some (.d s.data), some (.d (.int (t : Int))), some (.d (.str (bs ev'))), some (.d (.int ((m - 1 : Nat) : Int))), some (.d (.int (cyc l (m - 1)).1)), some (.d (.int (cyc l (m - 1)).2))] n' := by
        intro ev' e1 e2
        refine Eq.mpr (hR _ _) ?_
        walk_at "de"
        exact next ev' e1 e2
      rw [evs_one] at esplit
      have hb := hom_bit hh (cyc_mem hl1 (m - 1))
      walk_at "de"
      refine ⟨_, sc_0 s, ?_⟩
      walk_at "de"
      rw [wd_own, List.length_map]
      have hyes : cnts s (cyc l t).1 (cyc l (m - 1)) = true → (cyc l (m - 1)).2.natAbs.log2 < 1920 ∧ (Str.ofString (toString (cyc l (m - 1)).2)).length + (bs (evs l s (cyc l t).1 m (t - m))).length ≤ sizeLine ∧ R [some (.d (TP l)), some (.d s.data), some (.d (.int (t : Int))), some (.d (.str (Str.ofString (toString (cyc l (m - 1)).2) ++ bs (evs l s (cyc l t).1 m (t - m))))), some (.d (.int ((m - 1 : Nat) : Int))), some (.d (.int (cyc l (m - 1)).1)), some (.d (.int (cyc l (m - 1)).2))] n' := by
        intro hc
        have g := go _ esplit
        rw [if_pos hc] at g
        have eb : Str.ofString (toString (cyc l (m - 1)).2) = bs [bitOf (cyc l (m - 1))] := by
          rw [hb, bs_str]
        rw [eb, bs_app, bs_len, bs_len]
        refine ⟨?_, size_ok (by show 1 + _ ≤ _; omega), g ?_⟩
        · rw [hb]
          split <;> decide
        · rw [List.length_append]
          show 1 + _ ≤ _
          omega
      have hno : cnts s (cyc l t).1 (cyc l (m - 1)) = false → R [some (.d (TP l)), some (.d s.data), some (.d (.int (t : Int))), some (.d (.str (bs (evs l s (cyc l t).1 m (t - m))))), some (.d (.int ((m - 1 : Nat) : Int))), some (.d (.int (cyc l (m - 1)).1)), some (.d (.int (cyc l (m - 1)).2))] n' := by
        intro hc
        have g := go _ esplit
        rw [hc] at g
        exact g hlen
      refine if_bool (fun k1 => hyes ?_) (fun k1 => ?_)
      · unfold cnts
        rw [k1, Bool.true_or]
      refine ⟨by omega, _, cyc_at hl1 t, ?_⟩
      walk_at "de"
      refine ⟨_, rfl, ?_⟩
      walk_at "de"
      refine if_bool (fun k2 => hyes ?_) (fun k2 => hno ?_)
      · unfold cnts
        rw [k2, Bool.or_true]
      · unfold cnts
        rw [k1, k2]
        rfl
    · exact fin (.inr (by have := of_decide_eq_false h2; omega))
    · exact fin (.inl (by have := of_decide_eq_false h1; omega))
noncomputable def spLawSteady : DSp := fun rs n Q => ∃ (l : List (Int × Int)) (s : Sc), rs = [.d (TP l), .d s.data] ∧ Tr l ∧ SOk s ∧ Q (.new (steadyD l s)) n
theorem ok__law_steady {f : Addr} {fd : FuncData} (F : Fun K "_law_steady" "_law_steady" s__law_steady f fd) (hm : mg "_law_steady" = some (.ref f)) (hb : Binds K fd ["_law_loop_here", "_law_plan_here"] []) (m_len : mg "len" = none) (m_enumerate : mg "enumerate" = none) (D__law_cell : Def P w K mg base 2 "_law_cell" ["_law_plan_here", "_law_home", "_law_past_here"] spCell) (D__law_past : Def P w K mg base 1 "_law_past" ["_law_loop_here", "_law_plan_here", "_law_time"] spPast) : Def P w K mg base 3 "_law_steady" ["_law_loop_here", "_law_plan_here"] spLawSteady := by
  refine def_mk (k := 2) F sc__law_steady hm hb ?hlen (fun cdv A outer s H E hr => (lss_cons (ls_set 2 sc__law_steady.nd (le_op lo_mulA (le_callB lc_len (by rfl) m_len (by decide +kernel) (la_cons (le_var 0) la_nil)) (le_op lo_add (le_ix (le_var 1) le_int) le_int)))
  (lss_one (ls_ret (le_lc rfl sc__law_steady.nd (own := [("_law_at", 3), ("_law_home", 4), ("_law_deed", 5)]) (li_enum (by rfl) m_enumerate (la_cons (le_var 0) la_nil)) (by walk_at "lc") (fun _ _ _ _ _ => (lg_tup (n := 2) rfl (lgs_cons (lg_name (i := 3) sc__law_steady.nd rfl (by first | exact Or.inl rfl | exact Or.inr rfl)) (lgs_cons (lg_tup (n := 2) rfl (lgs_cons (lg_name (i := 4) sc__law_steady.nd rfl (by first | exact Or.inl rfl | exact Or.inr rfl)) (lgs_cons (lg_name (i := 5) sc__law_steady.nd rfl (by first | exact Or.inl rfl | exact Or.inr rfl)) lgs_nil))) lgs_nil)))) (fun _ _ _ _ _ => lts_nil) (fun _ _ _ _ _ => (le_def D__law_cell (hr.mono (by decide)) (by rfl) (la_cons (le_var 1) (la_cons (le_var 4) (la_cons (le_def D__law_past (hr.mono (by decide)) (by rfl) (la_cons (le_var 0) (la_cons (le_var 1) (la_cons (le_op lo_add (le_var 2) (le_var 3)) la_nil)))) la_nil)))))))))) ?hd
  case hlen =>
    rintro rs n Q ⟨l, s, rfl, _⟩
    rfl
  case hd =>
    rintro rs n Qd _ ⟨l, s, rfl, ht, hs, hq⟩
    have hl1 := ht.1
    have hl2 := ht.2.1
    have hs1 := hs.1
    refine seq_def _ _ _ _ _ (fun R hR => ?_)
    walk_at "de"
    refine ⟨_, sc_1 s, ?_⟩
    walk_at "de"
    rw [List.length_map]
    refine ⟨mulOk 10 10 (by show _ < 1024; omega) (by show _ < 1024; omega), ?_⟩
    refine Eq.mpr (hR _ _) ?_; clear hR
    walk_at "de"
    refine lc_def _ _ _ _ _ _ _ _ (fun F hF => ?_)
    walk_at "de"
    refine hF _ _ ?_
    refine lc_map (fun p => cellD s (cyc l p).1 (steadyAt l s p)) ?hl (fun p z J acc hz ha hJ => ?_) ?_
    case hl => rw [enum_len, List.length_map]; omega
    · obtain ⟨x, e1, rfl⟩ := enum_get _ _ _ _ hz
      have hp' : p < l.length := by
        have := (List.getElem?_eq_some_iff.mp e1).1
        rw [List.length_map] at this
        exact this
      rw [List.getElem?_map, cyc_lt hp'] at e1
      cases e1
      rw [Nat.zero_add]
      obtain ⟨h, eh, h7⟩ := tr_home ht p
      have elate : (l.length : Int) * ((s.L : Int) + 1) + (p : Int) = ((p + l.length * (s.L + 1) : Nat) : Int) := by
        rw [Int.natCast_add, Int.natCast_mul, Int.natCast_add, Int.add_comm]
        rfl
      unfold wipeD wipeD wipeD wipeD
      walk_at "de"
      refine ⟨l, s, p + l.length * (s.L + 1), by rw [elate], ht, hs, ?_⟩
      walk_at "de"
      rw [past_late hl1 (Nat.le_succ _)]
      refine ⟨s, h, _, by rw [eh], hs, by rw [steady_len hl1]; omega, by omega, ?_⟩
      walk_at "de"
      rw [eh] at hJ
      exact ⟨ha, hJ⟩
    · rw [enum_len, List.length_map]
      walk_at "de"
      exact hq
/-- the cells of a scheme, ascending -/
noncomputable def csD (l : List (Int × Int)) (s : Sc) : List PyData := sortD (dcells l s)
theorem csD_perm {l : List (Int × Int)} {s : Sc} : (csD l s).Perm ((metK (cellK l s) l.length).map ckD) := by
  rw [cellK_met]
  exact List.mergeSort_perm _ _
theorem metK_has {κ : Type} [DecidableEq κ] (f : Nat → κ) (n j : Nat) (hj : j < n) : f j ∈ metK f n := by
  induction n with
  | zero => omega
  | succ n ih =>
    unfold metK
    rcases Nat.lt_or_ge j n with q | q
    · have := ih q
      split
      · exact this
      · exact List.mem_append_left _ this
    · obtain rfl : j = n := by omega
      split
      · rename_i h
        exact h
      · exact List.mem_append_right _ (.head _)
theorem metK_got {κ : Type} [DecidableEq κ] (f : Nat → κ) (n : Nat) (x : κ) (h : x ∈ metK f n) : ∃ j, j < n ∧ x = f j := by
  induction n with
  | zero => unfold metK at h; cases h
  | succ n ih =>
    unfold metK at h
    split at h
    · obtain ⟨j, h1, h2⟩ := ih h
      exact ⟨j, by omega, h2⟩
    · rcases List.mem_append.mp h with h | h
      · obtain ⟨j, h1, h2⟩ := ih h
        exact ⟨j, by omega, h2⟩
      · exact ⟨n, by omega, List.mem_singleton.mp h⟩
noncomputable def pickD (l : List (Int × Int)) (ps : List Nat) (o : Int) : List PyData := (ps.filter fun p => decide ((cyc l p).2 = o)).map fun (p : Nat) => PyData.int (p : Int)
noncomputable def sidesD (l : List (Int × Int)) (ps : List Nat) : List PyData := [.list (pickD l ps 0), .list (pickD l ps 1)]
noncomputable def spSides : DSp := fun rs n Q => ∃ (l : List (Int × Int)) (ps : List Nat), rs = [.d (TP l), .d (.tuple (ps.map fun (p : Nat) => PyData.int (p : Int)))] ∧ Tr l ∧ (∀ p ∈ ps, p < l.length) ∧ ps.length ≤ 100 ∧ Q (.d (.tuple (sidesD l ps))) n
theorem ok_sides {f : Addr} {fd : FuncData} (F : Fun K "sides" "sides" s_sides f fd) (hm : mg "sides" = some (.ref f)) (hb : Binds K fd ["trace", "positions"] []) (m_tuple : mg "tuple" = none) : Def P w K mg base 1 "sides" ["trace", "positions"] spSides := by
  refine def_mk (k := 0) F sc_sides hm hb ?hlen (fun cdv A outer s H E hr => (lss_one (ls_ret (le_callTy lc_tuple (by rfl) m_tuple (by decide +kernel) (la_cons (le_lc rfl sc_sides.nd (own := [("outcome", 2)]) (li_seq (le_tup (la_cons le_int (la_cons le_int la_nil)))) (by walk_at "lc") (fun _ _ _ _ _ => (lg_name (i := 2) sc_sides.nd rfl (by first | exact Or.inl rfl | exact Or.inr rfl))) (fun _ _ _ _ _ => lts_nil) (fun _ _ _ _ _ => (le_lc rfl sc_sides.nd (own := [("at", 3)]) (li_seq (le_var 1)) (by walk_at "lc") (fun _ _ _ _ _ => (lg_name (i := 3) sc_sides.nd rfl (by first | exact Or.inl rfl | exact Or.inr rfl))) (fun _ _ _ _ _ => (lts_one (lt_cmp (lo_eq hr.room.units) (le_ix (le_ix (le_var 0) (le_var 3)) le_int) (le_var 2) (nomark _)))) (fun _ _ _ _ _ => (le_var 3))))) la_nil))))) ?hd
  case hlen =>
    rintro rs n Q ⟨l, ps, rfl, _⟩
    rfl
  case hd =>
    rintro rs n Qd _ ⟨l, ps, rfl, ht, hps, hpl, hq⟩
    walk_at "de"
    refine lc_def _ _ _ _ _ _ _ _ (fun F hF => ?_)
    walk_at "de"
    refine ⟨by decide, hF _ _ ?_⟩
    refine lc_map (fun i => .list (pickD l ps (i : Int))) ?hl (fun i z J acc hz ha hJ => ?_) ?_
    case hl => decide
    · have hz2 : z = .int (i : Int) := by
        match i, hz with
        | 0, hz => exact (Option.some.inj hz).symm
        | 1, hz => exact (Option.some.inj hz).symm
      subst hz2
      unfold wipeD wipeD
      walk_at "de"
      refine lc_def _ _ _ _ _ _ _ _ (fun F hF => ?_)
      walk_at "de"
      refine hF _ _ ?_
      refine lc_filter (fun j => decide ((cyc l (ps.getD j 0)).2 = (i : Int))) (fun j => .int ((ps.getD j 0 : Nat) : Int)) ?hl2 (fun j z J2 acc2 hz hacc hJ1 hJ2 => ?_) ?_
      case hl2 => rw [List.length_map]; omega
      · rw [List.getElem?_map] at hz
        obtain ⟨p, e1, rfl⟩ := Option.map_eq_some_iff.mp hz
        have hp := hps p (List.mem_of_getElem? e1)
        have eg : ps.getD j 0 = p := by rw [List.getD_eq_getElem?_getD, e1]; rfl
        rw [eg] at hJ1 hJ2
        unfold wipeD wipeD
        walk_at "de"
        refine ⟨_, dP_at hp, ?_⟩
        unfold Pr
        walk_at "de"
        refine ⟨_, rfl, ?_⟩
        walk_at "de"
        exact if_bool (fun h => ⟨hacc, hJ1 h⟩) (fun h => hJ2 h)
      · rw [List.length_map]
        walk_at "de"
        rw [range_filter_map (fun p : Nat => PyData.int (p : Int)) (fun p => decide ((cyc l p).2 = (i : Int))) 0 ps]
        exact ⟨ha, hJ⟩
    · walk_at "de"
      exact hq
noncomputable def rowFw (l : List (Int × Int)) (s : Sc) (d : PyData) : PyData := .tuple (d :: sidesD l (posOf l s d))
noncomputable def spSidesOf : DSp := fun rs n Q => ∃ (l : List (Int × Int)) (s : Sc), rs = [.d (TP l), .d s.data] ∧ Tr l ∧ l.length ≤ 64 ∧ SOk s ∧ Q (.new ((csD l s).map (rowFw l s))) n
theorem ok_sides_of {f : Addr} {fd : FuncData} (F : Fun K "sides_of" "sides_of" s_sides_of f fd) (hm : mg "sides_of" = some (.ref f)) (hb : Binds K fd ["trace", "scheme"] []) (D_groups : Def P w K mg base 4 "groups" ["trace", "scheme"] spGroups) (D_sides : Def P w K mg base 1 "sides" ["trace", "positions"] spSides) : Def P w K mg base 5 "sides_of" ["trace", "scheme"] spSidesOf := by
  refine def_mk (k := 4) F sc_sides_of hm hb ?hlen (fun cdv A outer s H E hr => (lss_one (ls_ret (le_lc rfl sc_sides_of.nd (own := [("cell", 2), ("positions", 3)]) (li_seq (le_def D_groups (hr.mono (by decide)) (by rfl) (la_cons (le_var 0) (la_cons (le_var 1) la_nil)))) (by walk_at "lc") (fun _ _ _ _ _ => (lg_tup (n := 2) rfl (lgs_cons (lg_name (i := 2) sc_sides_of.nd rfl (by first | exact Or.inl rfl | exact Or.inr rfl)) (lgs_cons (lg_name (i := 3) sc_sides_of.nd rfl (by first | exact Or.inl rfl | exact Or.inr rfl)) lgs_nil)))) (fun _ _ _ _ _ => lts_nil) (fun _ _ _ _ _ => (le_tup (la_cons (le_var 2) (la_star (le_def D_sides (hr.mono (by decide)) (by rfl) (la_cons (le_var 0) (la_cons (le_var 3) la_nil))) la_nil)))))))) ?hd
  case hlen =>
    rintro rs n Q ⟨l, s, rfl, _⟩
    rfl
  case hd =>
    rintro rs n Qd _ ⟨l, s, rfl, ht, h64, hs, hq⟩
    walk_at "de"
    refine lc_def _ _ _ _ _ _ _ _ (fun F hF => ?_)
    walk_at "de"
    refine ⟨l, s, rfl, ht, h64, hs, ?_⟩
    walk_at "de"
    refine hF _ _ ?_
    have hcl : (csD l s).length ≤ l.length := by
      unfold csD sortD
      rw [List.length_mergeSort]
      exact dcells_len l s
    refine lc_map (fun i => rowFw l s ((csD l s).getD i .none)) ?hl (fun i z J acc hz ha hJ => ?_) ?_
    case hl => unfold groupsD; rw [List.length_map]; show (csD l s).length ≤ _; omega
    · unfold groupsD at hz
      rw [List.getElem?_map] at hz
      obtain ⟨d, e1, rfl⟩ := Option.map_eq_some_iff.mp hz
      have e1 : (csD l s)[i]? = some d := e1
      have eg : (csD l s).getD i .none = d := by rw [List.getD_eq_getElem?_getD, e1]; rfl
      rw [eg] at hJ
      have hpos : ∀ p ∈ posOf l s d, p < l.length := fun p hp => List.mem_range.mp (List.mem_filter.mp hp).1
      have hpl : (posOf l s d).length ≤ l.length := by
        have := List.length_filter_le (fun i => PyData.eqv (cellAt l s i) d) (List.range l.length)
        rw [List.length_range] at this
        exact this
      unfold wipeD wipeD wipeD
      unfold grpD
      walk_at "de"
      refine ⟨l, posOf l s d, rfl, ht, hpos, by have := ht.2.1; omega, ?_⟩
      walk_at "de"
      exact ⟨by show 3 ≤ sizeLine; decide, ha, hJ⟩
    · rw [show (groupsD l s).length = (csD l s).length from by unfold groupsD; rw [List.length_map]; rfl, range_map_get2 (rowFw l s) .none (csD l s)]
      walk_at "de"
      exact hq
noncomputable def fewD (l : List (Int × Int)) (s : Sc) (d : PyData) : Int := if ((pickD l (posOf l s d) 1).length : Int) < ((pickD l (posOf l s d) 0).length : Int) then ((pickD l (posOf l s d) 1).length : Int) else ((pickD l (posOf l s d) 0).length : Int)
noncomputable def fewN (l : List (Int × Int)) (s : Sc) : Int := ((csD l s).map (fewD l s)).sum
noncomputable def spFew : DSp := fun rs n Q => ∃ (l : List (Int × Int)) (s : Sc), rs = [.d (TP l), .d s.data] ∧ Tr l ∧ l.length ≤ 64 ∧ SOk s ∧ Q (.d (.int (fewN l s))) n
theorem ok_fewest_errors {f : Addr} {fd : FuncData} (F : Fun K "fewest_errors" "fewest_errors" s_fewest_errors f fd) (hm : mg "fewest_errors" = some (.ref f)) (hb : Binds K fd ["trace", "scheme"] []) (m_sum : mg "sum" = none) (m_min : mg "min" = none) (m_len : mg "len" = none) (D_sides_of : Def P w K mg base 5 "sides_of" ["trace", "scheme"] spSidesOf) : Def P w K mg base 6 "fewest_errors" ["trace", "scheme"] spFew := by
  refine def_mk (k := 5) F sc_fewest_errors hm hb ?hlen (fun cdv A outer s H E hr => (lss_one (ls_ret (le_callB (lc_sum rfl) (by rfl) m_sum (by decide +kernel) (la_cons (le_lc rfl sc_fewest_errors.nd (own := [("cell", 2), ("zeros", 3), ("ones", 4)]) (li_seq (le_def D_sides_of (hr.mono (by decide)) (by rfl) (la_cons (le_var 0) (la_cons (le_var 1) la_nil)))) (by walk_at "lc") (fun _ _ _ _ _ => (lg_tup (n := 3) rfl (lgs_cons (lg_name (i := 2) sc_fewest_errors.nd rfl (by first | exact Or.inl rfl | exact Or.inr rfl)) (lgs_cons (lg_name (i := 3) sc_fewest_errors.nd rfl (by first | exact Or.inl rfl | exact Or.inr rfl)) (lgs_cons (lg_name (i := 4) sc_fewest_errors.nd rfl (by first | exact Or.inl rfl | exact Or.inr rfl)) lgs_nil))))) (fun _ _ _ _ _ => lts_nil) (fun _ _ _ _ _ => (le_callB (lc_min rfl) (by rfl) m_min (by decide +kernel) (la_cons (le_callB lc_len (by rfl) m_len (by decide +kernel) (la_cons (le_var 3) la_nil)) (la_cons (le_callB lc_len (by rfl) m_len (by decide +kernel) (la_cons (le_var 4) la_nil)) la_nil))))) la_nil))))) ?hd
  case hlen =>
    rintro rs n Q ⟨l, s, rfl, _⟩
    rfl
  case hd =>
    rintro rs n Qd _ ⟨l, s, rfl, ht, h64, hs, hq⟩
    walk_at "de"
    refine lc_def _ _ _ _ _ _ _ _ (fun F hF => ?_)
    walk_at "de"
    refine ⟨l, s, rfl, ht, h64, hs, ?_⟩
    walk_at "de"
    refine hF _ _ ?_
    have hcl : (csD l s).length ≤ l.length := by
      unfold csD sortD
      rw [List.length_mergeSort]
      exact dcells_len l s
    refine lc_map (fun i => .int (fewD l s ((csD l s).getD i .none))) ?hl (fun i z J acc hz ha hJ => ?_) ?_
    case hl => rw [List.length_map]; omega
    · rw [List.getElem?_map] at hz
      obtain ⟨d, e1, rfl⟩ := Option.map_eq_some_iff.mp hz
      have eg : (csD l s).getD i .none = d := by rw [List.getD_eq_getElem?_getD, e1]; rfl
      rw [eg] at hJ
      unfold wipeD wipeD wipeD wipeD
      unfold rowFw sidesD
      walk_at "de"
      exact ⟨ha, hJ⟩
    · rw [List.length_map, range_map_get2 (fun d => PyData.int (fewD l s d)) .none (csD l s)]
      walk_at "de"
      refine ⟨(csD l s).map (fewD l s), by rw [List.map_map]; rfl, ?_⟩
      exact hq
/-! how many positions of each cell have which outcome; the rarer ones -/
/-! the best table -/
noncomputable def bestV (l : List (Int × Int)) (s : Sc) (d : PyData) : Int := if decide (((pickD l (posOf l s d) 0).length : Int) < ((pickD l (posOf l s d) 1).length : Int)) = true then 1 else 0
noncomputable def bestR (l : List (Int × Int)) (s : Sc) (d : PyData) : PyData := .tuple [d, .int (bestV l s d)]
noncomputable def spBest : DSpM := fun rs ms n Q => ∃ (l : List (Int × Int)) (s : Sc), rs = [.d (TP l), .d s.data] ∧ ms = [] ∧ Tr l ∧ l.length ≤ 64 ∧ SOk s ∧ ∀ a, Q (.obj a) [tupF a ((csD l s).map (bestR l s))] n
theorem ok_best_table {f : Addr} {fd : FuncData} (F : Fun K "best_table" "best_table" s_best_table f fd) (hm : mg "best_table" = some (.ref f)) (hb : Binds K fd ["trace", "scheme"] []) (m_tuple : mg "tuple" = none) (m_int : mg "int" = none) (m_len : mg "len" = none) (D_sides_of : Def P w K mg base 5 "sides_of" ["trace", "scheme"] spSidesOf) : DefM P w K mg base 6 "best_table" ["trace", "scheme"] spBest := by
  refine defm_mk (k := 5) F sc_best_table hm hb ?hlen (fun cdv A outer s H E hr => (lssm_one (lsm_ret (lem_tupX (by rfl) m_tuple (by decide +kernel) (lam_cons (lem_of (le_lc rfl sc_best_table.nd (own := [("cell", 2), ("zeros", 3), ("ones", 4)]) (li_seq (le_def D_sides_of (hr.mono (by decide)) (by rfl) (la_cons (le_var 0) (la_cons (le_var 1) la_nil)))) (by walk_at "lc") (fun _ _ _ _ _ => (lg_tup (n := 3) rfl (lgs_cons (lg_name (i := 2) sc_best_table.nd rfl (by first | exact Or.inl rfl | exact Or.inr rfl)) (lgs_cons (lg_name (i := 3) sc_best_table.nd rfl (by first | exact Or.inl rfl | exact Or.inr rfl)) (lgs_cons (lg_name (i := 4) sc_best_table.nd rfl (by first | exact Or.inl rfl | exact Or.inr rfl)) lgs_nil))))) (fun _ _ _ _ _ => lts_nil) (fun _ _ _ _ _ => (le_tup (la_cons (le_var 2) (la_cons (le_callTy lc_int (by rfl) m_int (by decide +kernel) (la_cons (le_cmp lo_gt (le_callB lc_len (by rfl) m_len (by decide +kernel) (la_cons (le_var 4) la_nil)) (le_callB lc_len (by rfl) m_len (by decide +kernel) (la_cons (le_var 3) la_nil)) (nomark _)) la_nil)) la_nil)))))) lam_nil))))) ?hd
  case hlen =>
    rintro rs ms n Q ⟨l, s, rfl, _⟩
    rfl
  case hd =>
    rintro rs ms n Qd _ ⟨l, s, rfl, rfl, ht, h64, hs, hq⟩
    walk_at "dm"
    refine lc_def _ _ _ _ _ _ _ _ (fun F hF => ?_)
    walk_at "de"
    refine ⟨l, s, rfl, ht, h64, hs, ?_⟩
    walk_at "de"
    refine hF _ _ ?_
    have hcl : (csD l s).length ≤ l.length := by
      unfold csD sortD
      rw [List.length_mergeSort]
      exact dcells_len l s
    refine lc_map (fun i => bestR l s ((csD l s).getD i .none)) ?hl (fun i z J acc hz ha hJ => ?_) ?_
    case hl => rw [List.length_map]; omega
    · rw [List.getElem?_map] at hz
      obtain ⟨d, e1, rfl⟩ := Option.map_eq_some_iff.mp hz
      have eg : (csD l s).getD i .none = d := by rw [List.getD_eq_getElem?_getD, e1]; rfl
      rw [eg] at hJ
      unfold wipeD wipeD wipeD wipeD
      unfold rowFw sidesD
      walk_at "de"
      exact ⟨by decide, ha, hJ⟩
    · rw [List.length_map, range_map_get2 (bestR l s) .none (csD l s)]
      exact hq
/-! the errors of a fixed table -/
theorem lookA_put (al : AL) (k j : CK) (z : PyData) : lookA (putA al k z) j = if j = k then some z else lookA al j := by
  have nf : ∀ (al : AL), lookA al k = none → ∀ p ∈ al, p.1 ≠ k := fun al h p hp e => by
    unfold lookA at h
    rw [Option.map_eq_none_iff, List.find?_eq_none] at h
    exact h p hp (decide_eq_true e)
  unfold putA
  split
  · rename_i hs
    have key : ∀ al : AL, (lookA al k).isSome → lookA (al.map fun p => if p.1 = k then (p.1, z) else p) j = if j = k then some z else lookA al j := by
      intro al
      induction al with
      | nil => intro h; cases h
      | cons p al ih =>
        intro h
        by_cases e : p.1 = k
        · by_cases ej : j = k
          · subst ej
            unfold lookA
            rw [List.map_cons, if_pos e, List.find?_cons, decide_eq_true e, if_pos rfl]
            rfl
          · rw [if_neg ej]
            have rest : lookA (al.map fun p => if p.1 = k then (p.1, z) else p) j = lookA al j := by
              clear ih h
              induction al with
              | nil => rfl
              | cons q al ih2 =>
                unfold lookA at ih2 ⊢
                rw [List.map_cons, List.find?_cons, List.find?_cons]
                by_cases eq : q.1 = k
                · have n2 : ¬ q.1 = j := fun z => ej (z.symm.trans eq)
                  rw [if_pos eq, decide_eq_false n2]
                  exact ih2
                · rw [if_neg eq]
                  by_cases eqj : q.1 = j
                  · rw [decide_eq_true eqj]
                  · rw [decide_eq_false eqj]
                    exact ih2
            have n1 : ¬ p.1 = j := fun z => ej (z.symm.trans e)
            unfold lookA at rest ⊢
            rw [List.map_cons, if_pos e, List.find?_cons, List.find?_cons]
            dsimp only
            rw [decide_eq_false n1]
            exact rest
        · have h2 : (lookA al k).isSome := by
            unfold lookA at h ⊢
            rw [List.find?_cons, decide_eq_false e] at h
            exact h
          have ih := ih h2
          unfold lookA at ih ⊢
          rw [List.map_cons, if_neg e, List.find?_cons, List.find?_cons]
          by_cases ej : p.1 = j
          · have : ¬ j = k := fun z => e (ej.trans z)
            rw [decide_eq_true ej, if_neg this]
          · rw [decide_eq_false ej]
            exact ih
    exact key al hs
  · rename_i hs
    have hn : lookA al k = none := by
      cases h : lookA al k with
      | none => rfl
      | some x => rw [h] at hs; exact absurd rfl hs
    have nk := nf al hn
    unfold lookA
    rw [List.find?_append]
    by_cases ej : j = k
    · subst ej
      rw [if_pos rfl, List.find?_eq_none.mpr (fun p hp => by rw [decide_eq_false (nk p hp)]; exact Bool.false_ne_true)]
      rw [Option.none_or, List.find?_cons, decide_eq_true rfl]
      rfl
    · rw [if_neg ej, List.find?_cons, decide_eq_false (fun z : k = j => ej z.symm), List.find?_nil, Option.or_none]
noncomputable def tabA (ps : List (CK × Int)) : AL := foldA (ps.map fun p => (p.1, .int p.2))
noncomputable def tabI (ps : List (CK × Int)) (c : CK) : Int := ((ps.filter fun p => decide (p.1 = c)).getLast?.map (·.2)).getD 0
noncomputable def tabD (ps : List (CK × Int)) : List PyData := (ps.map fun p => (p.1, PyData.int p.2)).map Dl.pairD
theorem look_fold (c : CK) : ∀ (qs acc : AL), lookA (qs.foldl (fun a p => putA a p.1 p.2) acc) c = ((qs.filter fun p => decide (p.1 = c)).getLast?.map (·.2)).or (lookA acc c)
  | [], acc => rfl
  | q :: qs, acc => by
    rw [List.foldl_cons, look_fold c qs, lookA_put, List.filter_cons]
    by_cases e : q.1 = c
    · rw [if_pos (decide_eq_true e), if_pos e.symm, List.getLast?_cons]
      cases (qs.filter fun p => decide (p.1 = c)).getLast? <;> rfl
    · rw [show decide (q.1 = c) = false from decide_eq_false e, if_neg (show ¬ c = q.1 from fun z => e z.symm), if_neg Bool.false_ne_true]
theorem tab_look (ps : List (CK × Int)) (c : CK) : (lookA (tabA ps) c).getD (.int 0) = .int (tabI ps c) := by
  unfold tabA foldA tabI
  rw [look_fold, List.filter_map, List.getLast?_map]
  show Option.getD ((Option.map _ (Option.map _ ((ps.filter fun p => decide (p.1 = c)).getLast?))).or none) _ = _
  cases (ps.filter fun p => decide (p.1 = c)).getLast? <;> rfl
noncomputable def wrongB (l : List (Int × Int)) (s : Sc) (ps : List (CK × Int)) (p : Nat) : Bool := !decide ((cyc l p).2 = tabI ps (cellK l s p))
noncomputable def terD (l : List (Int × Int)) (s : Sc) (ps : List (CK × Int)) (d : PyData) : Nat := ((posOf l s d).filter (wrongB l s ps)).length
noncomputable def terN (l : List (Int × Int)) (s : Sc) (ps : List (CK × Int)) : Nat := ((csD l s).map (terD l s ps)).sum
theorem cs_pos {l : List (Int × Int)} {s : Sc} {d : PyData} (hd : d ∈ csD l s) {p : Nat} (hp : p ∈ posOf l s d) : d = ckD (cellK l s p) := by
  obtain ⟨c, hc, rfl⟩ := List.mem_map.mp (csD_perm.mem_iff.mp hd)
  obtain ⟨q, _, rfl⟩ := metK_got _ _ _ hc
  have h := (List.mem_filter.mp hp).2
  rw [cellK_D, cellK_eq] at h
  rw [of_decide_eq_true h]
noncomputable def spTE (P : Program) (w : World) : DSpM := fun rs ms n Q => ∃ (l : List (Int × Int)) (s : Sc) (a : Addr) (ps : List (CK × Int)), rs = [.d (TP l), .d s.data, .obj a] ∧ ms = [tupF a (tabD ps)] ∧ Tr l ∧ l.length ≤ 64 ∧ SOk s ∧ ps.length ≤ 1000 ∧ (∀ q ∈ ps, ckOk (isPair s) q.1) ∧ ∀ o : OwnM, Q (.d (.int (terN l s ps : Nat))) [o, tupF a (tabD ps)] n
theorem ok_table_errors {f : Addr} {fd : FuncData} (F : Fun K "table_errors" "table_errors" s_table_errors f fd) (hm : mg "table_errors" = some (.ref f)) (hb : Binds K fd ["trace", "scheme", "table"] []) (m_len : mg "len" = none) (m_dict : mg "dict" = none) (D_groups : Def P w K mg base 4 "groups" ["trace", "scheme"] spGroups) : DefM P w K mg base 5 "table_errors" ["trace", "scheme", "table"] (spTE P w) := by
  refine defm_mk (k := 4) F sc_table_errors hm hb ?hlen (fun cdv A outer s H E hr => (lssm_cons (lsm_set 3 sc_table_errors.nd (lem_dictT P w 2 (un65 hr.room) (by rfl) m_dict (by decide +kernel) (le_var 2)))
  (lssm_cons (lsm_of fun _ => (ls_set 4 sc_table_errors.nd le_int))
  (lssm_cons (lsm_for PassesOwn.never rfl (li_seq (le_def D_groups (hr.mono (by decide)) (by rfl) (la_cons (le_var 0) (la_cons (le_var 1) la_nil)))) (lg_tup (n := 2) rfl (lgs_cons (lg_name (i := 5) sc_table_errors.nd rfl (by first | exact Or.inl rfl | exact Or.inr rfl)) (lgs_cons (lg_name (i := 6) sc_table_errors.nd rfl (by first | exact Or.inl rfl | exact Or.inr rfl)) lgs_nil))) (lssm_one (lsm_aug 4 sc_table_errors.nd ip_add (lem_callB lc_len (by rfl) m_len (by decide +kernel) (lam_cons (lem_lc (own := [("at", 7)]) rfl sc_table_errors.nd (li_seq (le_var 6)) (by walk_at "lc") (fun _ _ _ _ _ => (lg_name (i := 7) sc_table_errors.nd rfl (by first | exact Or.inl rfl | exact Or.inr rfl))) (fun _ _ _ _ _ _ => (ltsm_one (ltm_cmp (lo_ne hr.room.units) (lem_of (le_ix (le_ix (le_var 0) (le_var 7)) le_int)) (lem_getD P w (un9 (un65 hr.room)) (lem_of (le_var 3)) (lem_of (le_var 5)) (lem_of le_int)) (nomark _)))) (fun _ _ _ _ _ _ => (lem_of (le_var 7)))) lam_nil)))))
  (lssm_one (lsm_of fun _ => (ls_ret (le_var 4)))))))) ?hd
  case hlen =>
    rintro rs ms n Q ⟨l, s, a, ps, rfl, _⟩
    rfl
  case hd =>
    rintro rs ms n Qd _ ⟨l, s, a, ps, rfl, rfl, ht, h64, hs, hpl, hok, hq⟩
    refine seqM_def _ _ _ _ _ _ (fun R hR => ?_)
    walk_at "dm"
    refine ⟨a, isPair s, ps.map fun p => (p.1, PyData.int p.2), rfl, List.mem_singleton.mpr rfl, fun q hq => ?_, by rw [List.length_map]; exact size_ok (by omega), fun b => ?_⟩
    · obtain ⟨p, hp, rfl⟩ := List.mem_map.mp hq
      exact hok p hp
    walk_at "dm"
    refine Eq.mpr (hR _ _ _) ?_; clear hR
    refine seqM_def _ _ _ _ _ _ (fun R hR => ?_)
    walk_at "dm"
    refine Eq.mpr (hR _ _ _) ?_; clear hR
    refine seqM_def _ _ _ _ _ _ (fun R hR => ?_)
    refine forM_def _ _ _ _ _ _ _ (fun F hF => ?_)
    walk_at "de"
    refine ⟨l, s, rfl, ht, h64, hs, ?_⟩
    walk_at "de"
    refine hF _ _ ?_
    clear hF
    have hcl : (csD l s).length ≤ l.length := by
      unfold csD sortD
      rw [List.length_mergeSort]
      exact dcells_len l s
    obtain ⟨Iv, hI⟩ := inv4M (fun (i : Nat) (ρ : DEnv) (ms : MS) (m : Nat) => m = n ∧ ∃ (u1 u2 : Option RV), ρ = [some (.d (TP l)), some (.d s.data), some (.obj a), some (.obj b), some (.d (.int ((((csD l s).take i).map (terD l s ps)).sum : Nat))), u1, u2, none] ∧ ms = [ownM b (dictL P w (isPair s) (tabA ps)), tupF a (tabD ps)])
    refine ⟨Iv, (hI _ _ _ _).mpr ⟨rfl, _, _, rfl, rfl⟩, fun i ρ ms m z hv hz => ?_, fun ρ ms m hv => ?_⟩
    · obtain ⟨rfl, u1, u2, rfl, rfl⟩ := (hI _ _ _ _).mp hv
      unfold groupsD at hz
      rw [List.getElem?_map] at hz
      obtain ⟨d, e1, rfl⟩ := Option.map_eq_some_iff.mp hz
      have e1 : (csD l s)[i]? = some d := e1
      clear hv hz hR
      unfold grpD
      walk_at "de"
      have hpos : ∀ p ∈ posOf l s d, p < l.length := fun p hp => List.mem_range.mp (List.mem_filter.mp hp).1
      have hpl : (posOf l s d).length ≤ l.length := by
        have := List.length_filter_le (fun i => PyData.eqv (cellAt l s i) d) (List.range l.length)
        rw [List.length_range] at this
        exact this
      unfold dAugM dCBM dConsM dNilM
      walk_at "dm"
      refine lcM_def _ _ _ _ _ _ _ _ _ (fun F hF => ?_)
      walk_at "de"
      refine hF _ _ ⟨rfl, ?_⟩
      clear hF
      obtain ⟨Jv, hJ⟩ := inv4L (fun (j : Nat) (acc : List PyData) (ms : MS) (m' : Nat) => m' = m ∧ ms = [ownM b (dictL P w (isPair s) (tabA ps)), tupF a (tabD ps)] ∧ acc = (((posOf l s d).take j).filter (wrongB l s ps)).map fun (p : Nat) => PyData.int (p : Int))
      refine ⟨Jv, (hJ _ _ _ _).mpr ⟨rfl, rfl, rfl⟩, fun j acc ms m' z hv hz => ?_, fun acc ms m' hv => ?_⟩
      · obtain ⟨rfl, rfl, rfl⟩ := (hJ _ _ _ _).mp hv
        rw [List.getElem?_map] at hz
        obtain ⟨p, e2, rfl⟩ := Option.map_eq_some_iff.mp hz
        have hp := hpos p (List.mem_of_getElem? e2)
        clear hv hz
        have hdp := cs_pos (List.mem_of_getElem? e1) (List.mem_of_getElem? e2)
        have ej : (posOf l s d).take (j + 1) = (posOf l s d).take j ++ [p] := by rw [List.take_succ, e2]; rfl
        have el : (((posOf l s d).take j).filter (wrongB l s ps)).length ≤ 64 := by
          have h1 := List.length_filter_le (wrongB l s ps) ((posOf l s d).take j)
          have h2 : ((posOf l s d).take j).length ≤ (posOf l s d).length := by rw [List.length_take]; exact Nat.min_le_right _ _
          omega
        walk_at "dm"
        refine ⟨rfl, _, dP_at hp, ?_⟩
        unfold Pr
        walk_at "dm"
        refine ⟨_, rfl, isPair s, tabA ps, List.mem_cons_self, cellK l s p, hdp, cellK_ok l s p, List.mem_cons_self, ?_⟩
        rw [tab_look]
        walk_at "dm"
        have ew : (!decide ((cyc l p).2 = tabI ps (cellK l s p))) = wrongB l s ps p := rfl
        rw [ew]
        refine if_bool (fun h => ?_) (fun h => ?_)
        · refine ⟨by rw [List.length_map]; exact size_lt (by omega), (hJ _ _ _ _).mpr ⟨rfl, rfl, ?_⟩⟩
          rw [ej, List.filter_append, List.filter_cons, if_pos h, List.filter_nil, List.map_append]
          rfl
        · refine (hJ _ _ _ _).mpr ⟨rfl, rfl, ?_⟩
          rw [ej, List.filter_append, List.filter_cons, if_neg (by rw [h]; exact Bool.false_ne_true), List.filter_nil, List.append_nil]
      · obtain ⟨rfl, rfl, rfl⟩ := (hJ _ _ _ _).mp hv
        walk_at "dm"
        rw [List.length_map, List.length_map, List.take_length]
        refine (hI _ _ _ _).mpr ⟨rfl, some (.d d), some (.d (.tuple ((posOf l s d).map fun (i : Nat) => PyData.int (i : Int)))), ?_, rfl⟩
        rw [List.take_succ, e1, Option.toList_some, List.map_append, List.sum_append, Int.natCast_add]
        rfl
    · obtain ⟨rfl, u1, u2, rfl, rfl⟩ := (hI _ _ _ _).mp hv
      refine Eq.mpr (hR _ _ _) ?_; clear hR
      walk_at "dm"
      have e : (groupsD l s).length = (csD l s).length := by unfold groupsD; rw [List.length_map]; rfl
      rw [e, List.take_length]
      exact hq _
/-! the cells as keys; counts by cells -/
noncomputable def ckBack : PyData → Option CK
  | .int i => some (.inl (.inl i))
  | .str x => some (.inl (.inr x))
  | .tuple [.int i, .str x] => some (.inr (i, x))
  | _ => none
theorem ckOf_ck (c : CK) : ckBack (ckD c) = some c := by
  rcases c with (i | x) | ⟨i, x⟩ <;> rfl
theorem ckOf_all (ks : List CK) : (ks.map ckD).filterMap ckBack = ks := by
  rw [List.filterMap_map, show ckBack ∘ ckD = some from funext ckOf_ck, List.filterMap_some]
theorem perm_keys {l : List (Int × Int)} {s : Sc} : ∃ ks : List CK, csD l s = ks.map ckD ∧ ks.Perm (metK (cellK l s) l.length) := by
  have key : ∀ (ds : List PyData), (∀ d ∈ ds, ∃ c, d = ckD c) → ∃ ks : List CK, ds = ks.map ckD := fun ds => by
    induction ds with
    | nil => intro _; exact ⟨[], rfl⟩
    | cons d ds ih =>
      intro h
      obtain ⟨c, rfl⟩ := h d (.head _)
      obtain ⟨ks, rfl⟩ := ih fun x hx => h x (.tail _ hx)
      exact ⟨c :: ks, rfl⟩
  obtain ⟨ks, e⟩ := key (csD l s) fun d hd => by
    obtain ⟨c, _, rfl⟩ := List.mem_map.mp (csD_perm.mem_iff.mp hd)
    exact ⟨c, rfl⟩
  refine ⟨ks, e, ?_⟩
  have hp := csD_perm (l := l) (s := s)
  rw [e] at hp
  have hq := hp.filterMap ckBack
  rw [ckOf_all, ckOf_all] at hq
  exact hq
theorem sum_ones {α : Type} [DecidableEq α] (b : Bool) (c : α) : ∀ {cs : List α}, cs.Nodup → c ∈ cs → (cs.map fun k => if (decide (c = k) && b) = true then 1 else 0).sum = if b = true then 1 else 0
  | [], _, h => by cases h
  | k :: ks, nd, h => by
    obtain ⟨n1, n2⟩ := List.nodup_cons.mp nd
    rw [List.map_cons, List.sum_cons]
    rcases List.mem_cons.mp h with rfl | h
    · rw [decide_eq_true rfl, Bool.true_and]
      have z : (ks.map fun k => if (decide (c = k) && b) = true then 1 else 0).sum = 0 := by
        have : ∀ l : List α, c ∉ l → (l.map fun k => if (decide (c = k) && b) = true then 1 else 0).sum = 0 := fun l => by
          induction l with
          | nil => intro _; rfl
          | cons x l ih =>
            intro hx
            have hk : ¬ c = x := fun z => hx (by rw [z]; exact .head _)
            rw [List.map_cons, List.sum_cons, ih fun z => hx (.tail _ z), decide_eq_false hk, Bool.false_and, if_neg Bool.false_ne_true]
        exact this ks n1
      rw [z, Nat.add_zero]
    · have hk : c ≠ k := fun z => n1 (z ▸ h)
      rw [decide_eq_false hk, Bool.false_and, if_neg Bool.false_ne_true, Nat.zero_add]
      exact sum_ones b c n2 h
theorem sum_add (f g : α → Nat) : ∀ l : List α, (l.map fun x => f x + g x).sum = (l.map f).sum + (l.map g).sum
  | [] => rfl
  | x :: l => by
    rw [List.map_cons, List.map_cons, List.map_cons, List.sum_cons, List.sum_cons, List.sum_cons, sum_add f g l]
    omega
theorem part_count {α : Type} [DecidableEq α] (f : Nat → α) (P : Nat → Bool) {cs : List α} (nd : cs.Nodup) : ∀ n : Nat, (∀ p, p < n → f p ∈ cs) → (cs.map fun c => ((List.range n).filter fun p => decide (f p = c) && P p).length).sum = ((List.range n).filter P).length
  | 0, _ => by
    have : ∀ l : List α, (l.map fun _ => 0).sum = 0 := fun l => by
      induction l with
      | nil => rfl
      | cons x l ih => rw [List.map_cons, List.sum_cons, ih]
    exact this cs
  | n + 1, h => by
    have ih := part_count f P nd n fun p hp => h p (by omega)
    have e : ∀ Q : Nat → Bool, ((List.range (n + 1)).filter Q).length = ((List.range n).filter Q).length + if Q n = true then 1 else 0 := fun Q => by
      rw [List.range_succ, List.filter_append, List.length_append, List.filter_cons, List.filter_nil]
      congr 1
      split <;> rfl
    rw [e P, ← ih]
    have : (cs.map fun c => ((List.range (n + 1)).filter fun p => decide (f p = c) && P p).length) = cs.map fun c => ((List.range n).filter fun p => decide (f p = c) && P p).length + if (decide (f n = c) && P n) = true then 1 else 0 := List.map_congr_left fun c _ => e _
    rw [this, sum_add, sum_ones (P n) (f n) nd (h n (by omega))]

/-! the best table: its keys, its errors -/
noncomputable def bestP (l : List (Int × Int)) (s : Sc) (ks : List CK) : List (CK × Int) := ks.map fun c => (c, bestV l s (ckD c))
theorem best_tab {l : List (Int × Int)} {s : Sc} {ks : List CK} (e : csD l s = ks.map ckD) : (csD l s).map (bestR l s) = tabD (bestP l s ks) := by
  unfold tabD bestP
  rw [e, List.map_map, List.map_map, List.map_map]
  rfl
theorem last_one {α : Type} (f : α → Int) (p : α → Bool) (c : α) : ∀ {ks : List α}, ks.Nodup → c ∈ ks → (∀ k ∈ ks, p k = true ↔ k = c) → (ks.filter p) = [c]
  | [], _, h, _ => by cases h
  | k :: ks, nd, h, hp => by
    obtain ⟨n1, n2⟩ := List.nodup_cons.mp nd
    rw [List.filter_cons]
    rcases List.mem_cons.mp h with rfl | h
    · rw [if_pos ((hp c (.head _)).mpr rfl)]
      congr 1
      rw [List.filter_eq_nil_iff]
      intro x hx z
      have := (hp x (.tail _ hx)).mp z
      exact n1 (this ▸ hx)
    · have hk : k ≠ c := fun z => n1 (z ▸ h)
      rw [if_neg fun z => hk ((hp k (.head _)).mp z)]
      exact last_one f p c n2 h fun x hx => hp x (.tail _ hx)
theorem best_look {l : List (Int × Int)} {s : Sc} {ks : List CK} {c : CK} (nd : ks.Nodup) (h : c ∈ ks) : tabI (bestP l s ks) c = bestV l s (ckD c) := by
  unfold tabI bestP
  rw [List.filter_map, List.getLast?_map, last_one (fun _ => 0) _ c nd h fun k _ => by
    show decide (k = c) = true ↔ _
    exact decide_eq_true_iff]
  rfl
theorem ter_count {l : List (Int × Int)} {s : Sc} (ps : List (CK × Int)) : terN l s ps = ((List.range l.length).filter (wrongB l s ps)).length := by
  obtain ⟨ks, e, pm⟩ := perm_keys (l := l) (s := s)
  rw [← part_count (cellK l s) (wrongB l s ps) (cs := ks) (pm.nodup_iff.mpr (metK_nd _ _)) l.length fun p hp => pm.mem_iff.mpr (metK_has _ _ _ hp)]
  unfold terN
  rw [e, List.map_map]
  refine congrArg List.sum (List.map_congr_left fun c hc => ?_)
  show ((posOf l s (ckD c)).filter _).length = _
  obtain ⟨q, _, rfl⟩ := metK_got _ _ _ (pm.mem_iff.mp hc)
  unfold posOf
  rw [List.filter_filter]
  refine congrArg List.length (List.filter_congr fun p _ => ?_)
  rw [cellK_D, cellK_eq]
  exact Bool.and_comm _ _
theorem best_wrong {l : List (Int × Int)} {s : Sc} {ks : List CK} (ht : Tr l) (e : csD l s = ks.map ckD) (pm : ks.Perm (metK (cellK l s) l.length)) : ((terN l s (bestP l s ks) : Nat) : Int) = fewN l s := by
  have nd := pm.nodup_iff.mpr (metK_nd (cellK l s) l.length)
  have key : ∀ d ∈ csD l s, ((terD l s (bestP l s ks) d : Nat) : Int) = fewD l s d := fun d hd => by
    have hb : ∀ p ∈ posOf l s d, wrongB l s (bestP l s ks) p = !decide ((cyc l p).2 = bestV l s d) := fun p hp => by
      have h1 := cs_pos hd hp
      have h2 : cellK l s p ∈ ks := pm.mem_iff.mpr (metK_has _ _ _ (List.mem_range.mp (List.mem_filter.mp hp).1))
      unfold wrongB
      rw [best_look nd h2, ← h1]
    have hw : terD l s (bestP l s ks) d = ((posOf l s d).filter fun p => !decide ((cyc l p).2 = bestV l s d)).length := by
      unfold terD
      exact congrArg List.length (List.filter_congr hb)
    rw [hw]
    have h01 : ∀ p, (cyc l p).2 = 0 ∨ (cyc l p).2 = 1 := fun p => (ht.2.2 _ (cyc_mem ht.1 p)).2.2
    have c0 : ((posOf l s d).filter fun p => !decide ((cyc l p).2 = 1)).length = (pickD l (posOf l s d) 0).length := by
      unfold pickD
      rw [List.length_map]
      refine congrArg List.length (List.filter_congr fun p _ => ?_)
      rcases h01 p with z | z <;> rw [z] <;> rfl
    have c1 : ((posOf l s d).filter fun p => !decide ((cyc l p).2 = 0)).length = (pickD l (posOf l s d) 1).length := by
      unfold pickD
      rw [List.length_map]
      refine congrArg List.length (List.filter_congr fun p _ => ?_)
      rcases h01 p with z | z <;> rw [z] <;> rfl
    unfold bestV fewD
    by_cases h : ((pickD l (posOf l s d) 0).length : Int) < ((pickD l (posOf l s d) 1).length : Int)
    · simp only [decide_eq_true h, if_true]
      rw [c0, if_neg (by omega)]
    · simp only [decide_eq_false h, Bool.false_eq_true, if_false]
      rw [c1]
      split <;> omega
  unfold terN fewN
  have cast : ∀ xs : List Nat, ((xs.sum : Nat) : Int) = (xs.map fun (x : Nat) => (x : Int)).sum := fun xs => by
    induction xs with
    | nil => rfl
    | cons x xs ih => rw [List.sum_cons, List.map_cons, List.sum_cons, Int.natCast_add, ih]
  rw [cast, List.map_map]
  exact congrArg List.sum (List.map_congr_left key)

theorem bestV_two (l : List (Int × Int)) (s : Sc) (d : PyData) : bestV l s d = 0 ∨ bestV l s d = 1 := by
  unfold bestV
  split
  · exact .inr rfl
  · exact .inl rfl
/-! forced errors: as many pairs that clash, no position in two of them -/
noncomputable def sideN (l : List (Int × Int)) (s : Sc) (d : PyData) (o : Int) : List Nat := (posOf l s d).filter fun p => decide ((cyc l p).2 = o)
noncomputable def prs (l : List (Int × Int)) (s : Sc) (d : PyData) : List (Int × Int) := ((sideN l s d 0).zip (sideN l s d 1)).map fun q => (((min q.1 q.2 : Nat) : Int), ((max q.1 q.2 : Nat) : Int))
noncomputable def forcP (l : List (Int × Int)) (s : Sc) : List (Int × Int) := (csD l s).flatMap (prs l s)
noncomputable def spForced : DSp := fun rs n Q => ∃ (l : List (Int × Int)) (s : Sc), rs = [.d (TP l), .d s.data] ∧ Tr l ∧ l.length ≤ 64 ∧ SOk s ∧ Q (.d (.tuple (sortD ((forcP l s).map ip)))) n
theorem prs_len (l : List (Int × Int)) (s : Sc) (d : PyData) : (prs l s d).length ≤ l.length := by
  unfold prs sideN posOf
  rw [List.length_map, List.length_zip]
  have h1 := List.length_filter_le (fun p => decide ((cyc l p).2 = 0)) ((List.range l.length).filter fun i => PyData.eqv (cellAt l s i) d)
  have h2 := List.length_filter_le (fun i => PyData.eqv (cellAt l s i) d) (List.range l.length)
  rw [List.length_range] at h2
  omega
theorem forc_len (l : List (Int × Int)) (s : Sc) (ds : List PyData) : (ds.flatMap (prs l s)).length ≤ ds.length * l.length := by
  induction ds with
  | nil => exact Nat.zero_le _
  | cons d ds ih =>
    rw [List.flatMap_cons, List.length_append, List.length_cons, Nat.succ_mul]
    have := prs_len l s d
    omega
theorem ok_forced {f : Addr} {fd : FuncData} (F : Fun K "forced" "forced" s_forced f fd) (hm : mg "forced" = some (.ref f)) (hb : Binds K fd ["trace", "scheme"] []) (m_zip : mg "zip" = none) (m_max : mg "max" = none) (m_min : mg "min" = none) (m_tuple : mg "tuple" = none) (m_sorted : mg "sorted" = none) (D_sides_of : Def P w K mg base 5 "sides_of" ["trace", "scheme"] spSidesOf) : Def P w K mg base 6 "forced" ["trace", "scheme"] spForced := by
  refine def_mk (k := 5) F sc_forced hm hb ?hlen (fun cdv A outer s H E hr => (lss_cons (ls_own 2 sc_forced.nd (le_lst la_nil))
  (lss_cons (ls_for PassesOwn.never rfl (li_seq (le_def D_sides_of (hr.mono (by decide)) (by rfl) (la_cons (le_var 0) (la_cons (le_var 1) la_nil)))) (lg_tup (n := 3) rfl (lgs_cons (lg_name (i := 3) sc_forced.nd rfl (by first | exact Or.inl rfl | exact Or.inr rfl)) (lgs_cons (lg_name (i := 4) sc_forced.nd rfl (by first | exact Or.inl rfl | exact Or.inr rfl)) (lgs_cons (lg_name (i := 5) sc_forced.nd rfl (by first | exact Or.inl rfl | exact Or.inr rfl)) lgs_nil)))) (lss_one (ls_extend 2 (le_lc rfl sc_forced.nd (own := [("pair", 6)]) (li_zipX (by rfl) m_zip (la_cons (le_var 4) (la_cons (le_var 5) la_nil))) (by walk_at "lc") (fun _ _ _ _ _ => (lg_name (i := 6) sc_forced.nd rfl (by first | exact Or.inl rfl | exact Or.inr rfl))) (fun _ _ _ _ _ => lts_nil) (fun _ _ _ _ _ => (le_tup (la_cons (le_callB (lc_minT rfl (un9 (un65 hr.room))) (by rfl) m_min (by decide +kernel) (la_cons (le_var 6) la_nil)) (la_cons (le_callB (lc_maxT rfl (un9 (un65 hr.room))) (by rfl) m_max (by decide +kernel) (la_cons (le_var 6) la_nil)) la_nil))))))))
  (lss_one (ls_ret (le_callTy lc_tuple (by rfl) m_tuple (by decide +kernel) (la_cons (le_callB (lc_sortL (un65 hr.room)) (by rfl) m_sorted (by decide +kernel) (la_cons (le_var 2) la_nil)) la_nil))))))) ?hd
  case hlen =>
    rintro rs n Q ⟨l, s, rfl, _⟩
    rfl
  case hd =>
    rintro rs n Qd _ ⟨l, s, rfl, ht, h64, hs, hq⟩
    have hcl : (csD l s).length ≤ l.length := by
      unfold csD sortD
      rw [List.length_mergeSort]
      exact dcells_len l s
    refine seq_def _ _ _ _ _ (fun R hR => ?_)
    walk_at "de"
    refine ⟨by decide, ?_⟩
    refine Eq.mpr (hR _ _) ?_; clear hR
    obtain ⟨Iv, hI⟩ := inv3 (fun (i : Nat) (ρ : DEnv) (m : Nat) => m = n ∧ ∃ u1 u2 u3, ρ = [some (.d (TP l)), some (.d s.data), some (.new ((((csD l s).take i).flatMap (prs l s)).map ip)), u1, u2, u3, none])
    refine seq_def _ _ _ _ _ (fun R hR => ?_)
    refine for_def _ _ _ _ _ _ (fun F hF => ?_)
    walk_at "de"
    refine ⟨l, s, rfl, ht, h64, hs, ?_⟩
    walk_at "de"
    refine hF _ _ ⟨Iv, (hI _ _ _).mpr ⟨rfl, _, _, _, rfl⟩, fun i ρ m z hv hz => ?_, fun ρ m hv => ?_⟩
    · obtain ⟨rfl, u1, u2, u3, rfl⟩ := (hI _ _ _).mp hv
      rw [List.getElem?_map] at hz
      obtain ⟨d, e1, rfl⟩ := Option.map_eq_some_iff.mp hz
      clear hF hv hz hR
      unfold rowFw sidesD
      walk_at "de"
      refine lc_def _ _ _ _ _ _ _ _ (fun F hF => ?_)
      walk_at "de"
      refine hF _ _ ?_
      have hpl := prs_len l s d
      have hpe : (zipD (pickD l (posOf l s d) 0) (pickD l (posOf l s d) 1)).length = (prs l s d).length := by
        rw [zip_len]
        unfold pickD prs sideN
        rw [List.length_map, List.length_map, List.length_map, List.length_zip]
      refine lc_map (fun i => ip ((prs l s d).getD i (0, 0))) ?hl (fun i z J acc hz ha hJ => ?_) ?_
      case hl => rw [hpe]; omega
      · obtain ⟨x, y, e1, e2, rfl⟩ := zip_get _ _ _ _ hz
        unfold pickD at e1 e2
        rw [List.getElem?_map] at e1 e2
        obtain ⟨p, p1, rfl⟩ := Option.map_eq_some_iff.mp e1
        obtain ⟨q, q1, rfl⟩ := Option.map_eq_some_iff.mp e2
        have eg : (prs l s d).getD i (0, 0) = (((min p q : Nat) : Int), ((max p q : Nat) : Int)) := by
          have ez : ((sideN l s d 0).zip (sideN l s d 1))[i]? = some (p, q) := List.getElem?_zip_eq_some.mpr ⟨p1, q1⟩
          unfold prs
          rw [List.getD_eq_getElem?_getD, List.getElem?_map, ez]
          rfl
        rw [eg] at hJ
        unfold wipeD wipeD
        walk_at "de"
        refine ⟨[(p : Int), (q : Int)], rfl, Nat.zero_lt_succ _, fun m1 h1 => ⟨[(p : Int), (q : Int)], rfl, Nat.zero_lt_succ _, fun m2 h2 => ?_⟩⟩
        have e1 : m1 = ((min p q : Nat) : Int) := h1.eq ⟨by rcases Nat.le_total p q with z | z; rw [Nat.min_eq_left z]; exact .head _; rw [Nat.min_eq_right z]; exact .tail _ (.head _), fun y hy => by
          simp only [List.mem_cons, List.not_mem_nil, or_false] at hy
          rcases hy with rfl | rfl
          · exact Int.ofNat_le.mpr (Nat.min_le_left _ _)
          · exact Int.ofNat_le.mpr (Nat.min_le_right _ _)⟩
        have e2 : m2 = ((max p q : Nat) : Int) := h2.eq ⟨by rcases Nat.le_total p q with z | z; rw [Nat.max_eq_right z]; exact .tail _ (.head _); rw [Nat.max_eq_left z]; exact .head _, fun y hy => by
          simp only [List.mem_cons, List.not_mem_nil, or_false] at hy
          rcases hy with rfl | rfl
          · exact Int.ofNat_le.mpr (Nat.le_max_left _ _)
          · exact Int.ofNat_le.mpr (Nat.le_max_right _ _)⟩
        rw [e1, e2]
        exact ⟨by decide, ha, hJ⟩
      · rw [hpe]
        walk_at "de"
        have h1 := forc_len l s ((csD l s).take i)
        have h2 : ((csD l s).take i).length ≤ 64 := by rw [List.length_take]; omega
        have h3 : ((csD l s).take i).length * l.length ≤ 64 * 64 := Nat.mul_le_mul h2 h64
        refine ⟨by rw [List.length_map, List.length_map, List.length_range]; exact size_ok (by omega), (hI _ _ _).mpr ⟨rfl, some (.d d), some (.d (.list (pickD l (posOf l s d) 0))), some (.d (.list (pickD l (posOf l s d) 1))), ?_⟩⟩
        rw [range_map_get2 ip (0, 0) (prs l s d), List.take_succ, e1, Option.toList_some, List.flatMap_append, List.map_append, List.flatMap_singleton]
    · obtain ⟨rfl, u1, u2, u3, rfl⟩ := (hI _ _ _).mp hv
      refine Eq.mpr (hR _ _) ?_; clear hR
      walk_at "de"
      refine ⟨forcP l s, ?_, hq⟩
      rw [List.length_map, List.take_length]
      rfl
/-! a tuple of pairs that clash, ascending, no position twice -/
noncomputable def ltN (p q : Nat × Nat) : Bool := ltP ((p.1 : Int), (p.2 : Int)) ((q.1 : Int), (q.2 : Int))
noncomputable def flatQ (qs : List (Nat × Nat)) : List Nat := qs.flatMap fun q => [q.1, q.2]
noncomputable def keyN (qs : List (Nat × Nat)) : List Key := (flatQ qs).map fun (p : Nat) => .inl (p : Int)
theorem keyN_len : ∀ qs : List (Nat × Nat), (keyN qs).length = 2 * qs.length
  | [] => rfl
  | q :: qs => by
    have := keyN_len qs
    unfold keyN flatQ at this ⊢
    rw [List.length_map] at this ⊢
    rw [List.flatMap_cons, List.length_append, this]
    simp only [List.length_cons, List.length_nil]
    omega
structure GoodQ (l : List (Int × Int)) (s : Sc) (qs : List (Nat × Nat)) : Prop where
  cl : ∀ q ∈ qs, q.1 < q.2 ∧ q.2 < l.length ∧ clB l s q.1 q.2 = true
  asc : qs.Pairwise fun p q => ltN p q = true
  nd : (flatQ qs).Nodup
  few : qs.length ≤ 64
/-! what the forced errors are -/
noncomputable def mmN (q : Nat × Nat) : Nat × Nat := (min q.1 q.2, max q.1 q.2)
noncomputable def pN (l : List (Int × Int)) (s : Sc) (d : PyData) : List (Nat × Nat) := ((sideN l s d 0).zip (sideN l s d 1)).map mmN
noncomputable def castP (q : Nat × Nat) : Int × Int := ((q.1 : Int), (q.2 : Int))
noncomputable def forcN (l : List (Int × Int)) (s : Sc) : List (Nat × Nat) := (csD l s).flatMap (pN l s)
theorem forc_dN (l : List (Int × Int)) (s : Sc) : (forcP l s).map ip = (forcN l s).map dN := by
  unfold forcP forcN
  rw [List.map_flatMap, List.map_flatMap]
  congr 1
  funext d
  unfold prs pN
  rw [List.map_map, List.map_map]
  rfl
noncomputable def ofN : PyData → Option (Nat × Nat)
  | .tuple [.int a, .int b] => some (a.toNat, b.toNat)
  | _ => none
theorem ofN_dN (q : Nat × Nat) : ofN (dN q) = some q := rfl
theorem ofN_all (qs : List (Nat × Nat)) : (qs.map dN).filterMap ofN = qs := by
  rw [List.filterMap_map, show ofN ∘ dN = some from funext ofN_dN, List.filterMap_some]
theorem all_dN : ∀ ds : List PyData, (∀ d ∈ ds, ∃ q, d = dN q) → ∃ qs : List (Nat × Nat), ds = qs.map dN := fun ds => by
  induction ds with
  | nil => intro _; exact ⟨[], rfl⟩
  | cons d ds ih =>
    intro h
    obtain ⟨c, rfl⟩ := h d (.head _)
    obtain ⟨ks, rfl⟩ := ih fun x hx => h x (.tail _ hx)
    exact ⟨c :: ks, rfl⟩
theorem nodup_flat {α β : Type} (L : α → List β) : ∀ ds : List α, ds.Nodup → (∀ d ∈ ds, (L d).Nodup) → (∀ d ∈ ds, ∀ e ∈ ds, ∀ x, x ∈ L d → x ∈ L e → d = e) → (ds.flatMap L).Nodup
  | [], _, _, _ => List.nodup_nil
  | d :: ds, nd, h1, h2 => by
    obtain ⟨n1, n2⟩ := List.nodup_cons.mp nd
    rw [List.flatMap_cons]
    refine List.nodup_append.mpr ⟨h1 d (.head _), nodup_flat L ds n2 (fun e he => h1 e (.tail _ he)) (fun e he f hf x => h2 e (.tail _ he) f (.tail _ hf) x), fun x hx y hy e => ?_⟩
    subst e
    obtain ⟨c, hc, hxc⟩ := List.mem_flatMap.mp hy
    have := h2 d (.head _) c (.tail _ hc) x hx hxc
    exact n1 (this ▸ hc)
theorem flat_zip : ∀ A B : List Nat, A.Nodup → B.Nodup → (∀ x ∈ A, x ∉ B) → (flatQ ((A.zip B).map mmN)).Nodup ∧ ∀ x ∈ flatQ ((A.zip B).map mmN), x ∈ A ∨ x ∈ B
  | [], B, _, _, _ => ⟨List.nodup_nil, fun x hx => nomatch hx⟩
  | a :: A, [], _, _, _ => ⟨List.nodup_nil, fun x hx => nomatch hx⟩
  | a :: A, b :: B, hA, hB, hd => by
    obtain ⟨a1, a2⟩ := List.nodup_cons.mp hA
    obtain ⟨b1, b2⟩ := List.nodup_cons.mp hB
    obtain ⟨i1, i2⟩ := flat_zip A B a2 b2 fun x hx z => hd x (.tail _ hx) (.tail _ z)
    have hab : a ≠ b := fun e => hd a (.head _) (e ▸ .head _)
    have na : a ∉ flatQ ((A.zip B).map mmN) := fun z => by
      rcases i2 a z with q | q
      · exact a1 q
      · exact hd a (.head _) (.tail _ q)
    have nb : b ∉ flatQ ((A.zip B).map mmN) := fun z => by
      rcases i2 b z with q | q
      · exact hd b (.tail _ q) (.head _)
      · exact b1 q
    show ((min a b :: max a b :: flatQ ((A.zip B).map mmN)).Nodup) ∧ ∀ x ∈ min a b :: max a b :: flatQ ((A.zip B).map mmN), _
    have two : (min a b = a ∧ max a b = b) ∨ (min a b = b ∧ max a b = a) := by omega
    rcases two with ⟨e1, e2⟩ | ⟨e1, e2⟩
    · rw [e1, e2]
      refine ⟨List.nodup_cons.mpr ⟨fun z => ?_, List.nodup_cons.mpr ⟨nb, i1⟩⟩, fun x hx => ?_⟩
      · rcases List.mem_cons.mp z with q | q
        · exact hab q
        · exact na q
      · rcases List.mem_cons.mp hx with q | q
        · exact .inl (q ▸ .head _)
        · rcases List.mem_cons.mp q with q | q
          · exact .inr (q ▸ .head _)
          · exact (i2 x q).imp (fun z => .tail _ z) fun z => .tail _ z
    · rw [e1, e2]
      refine ⟨List.nodup_cons.mpr ⟨fun z => ?_, List.nodup_cons.mpr ⟨na, i1⟩⟩, fun x hx => ?_⟩
      · rcases List.mem_cons.mp z with q | q
        · exact hab q.symm
        · exact nb q
      · rcases List.mem_cons.mp hx with q | q
        · exact .inr (q ▸ .head _)
        · rcases List.mem_cons.mp q with q | q
          · exact .inl (q ▸ .head _)
          · exact (i2 x q).imp (fun z => .tail _ z) fun z => .tail _ z
theorem side_nd (l : List (Int × Int)) (s : Sc) (d : PyData) (o : Int) : (sideN l s d o).Nodup := (List.nodup_range.filter _).filter _
theorem side_pos {l : List (Int × Int)} {s : Sc} {d : PyData} {o : Int} {p : Nat} (h : p ∈ sideN l s d o) : p ∈ posOf l s d ∧ (cyc l p).2 = o := by
  obtain ⟨h1, h2⟩ := List.mem_filter.mp h
  exact ⟨h1, of_decide_eq_true h2⟩
theorem cs_nd {l : List (Int × Int)} {s : Sc} : (csD l s).Nodup := by
  obtain ⟨ks, e, pm⟩ := perm_keys (l := l) (s := s)
  have nd := pm.nodup_iff.mpr (metK_nd (cellK l s) l.length)
  rw [e]
  unfold List.Nodup at nd ⊢
  rw [List.pairwise_map]
  exact nd.imp fun ne z => ne (Option.some.inj (by rw [← ckOf_ck, ← ckOf_ck, z]))
theorem forc_nd {l : List (Int × Int)} {s : Sc} : (flatQ (forcN l s)).Nodup := by
  unfold flatQ forcN
  rw [List.flatMap_assoc]
  have key : ∀ d, ((pN l s d).flatMap fun q => [q.1, q.2]).Nodup ∧ ∀ x ∈ (pN l s d).flatMap fun q => [q.1, q.2], x ∈ posOf l s d := fun d => by
    obtain ⟨h1, h2⟩ := flat_zip (sideN l s d 0) (sideN l s d 1) (side_nd l s d 0) (side_nd l s d 1) fun x hx z => by
      have e0 := (side_pos hx).2
      rw [(side_pos z).2] at e0
      cases e0
    refine ⟨h1, fun x hx => ?_⟩
    rcases h2 x hx with z | z
    · exact (side_pos z).1
    · exact (side_pos z).1
  refine nodup_flat _ _ cs_nd (fun d _ => (key d).1) fun d hd e he x hx hy => ?_
  rw [cs_pos hd ((key d).2 x hx), cs_pos he ((key e).2 x hy)]
theorem forc_cl {l : List (Int × Int)} {s : Sc} {q : Nat × Nat} (h : q ∈ forcN l s) : q.1 < q.2 ∧ q.2 < l.length ∧ clB l s q.1 q.2 = true := by
  obtain ⟨d, hd, hq⟩ := List.mem_flatMap.mp h
  unfold pN at hq
  obtain ⟨⟨a, b⟩, hz, rfl⟩ := List.mem_map.mp hq
  obtain ⟨ha, hb⟩ := List.of_mem_zip hz
  obtain ⟨pa, oa⟩ := side_pos ha
  obtain ⟨pb, ob⟩ := side_pos hb
  have la : a < l.length := List.mem_range.mp (List.mem_filter.mp pa).1
  have lb : b < l.length := List.mem_range.mp (List.mem_filter.mp pb).1
  have ck : cellK l s a = cellK l s b := by
    have e : ckD (cellK l s a) = ckD (cellK l s b) := by rw [← cs_pos hd pa, ← cs_pos hd pb]
    exact Option.some.inj (by rw [← ckOf_ck, ← ckOf_ck, e])
  have hab : a ≠ b := fun e => by
    rw [e, ob] at oa
    cases oa
  have cl : ∀ i j, cellK l s i = cellK l s j → (cyc l i).2 ≠ (cyc l j).2 → clB l s i j = true := fun i j e1 e2 => by
    unfold clB
    rw [← eqv_cell]
    show (PyData.eqv (cellAt l s i) (cellAt l s j) && _) = true
    rw [cellK_eq, decide_eq_true e1, decide_eq_false e2]
    rfl
  show min a b < max a b ∧ max a b < l.length ∧ clB l s (min a b) (max a b) = true
  refine ⟨by omega, by omega, ?_⟩
  rcases Nat.lt_or_ge a b with z | z
  · rw [Nat.min_eq_left (Nat.le_of_lt z), Nat.max_eq_right (Nat.le_of_lt z)]
    exact cl a b ck (by rw [oa, ob]; decide)
  · rw [Nat.min_eq_right z, Nat.max_eq_left z]
    exact cl b a ck.symm (by rw [oa, ob]; decide)
theorem forc_few {l : List (Int × Int)} {s : Sc} : ((forcN l s).length : Int) = fewN l s := by
  have key : ∀ d, ((pN l s d).length : Int) = fewD l s d := fun d => by
    have e : ∀ o, (pickD l (posOf l s d) o).length = (sideN l s d o).length := fun o => by
      unfold pickD sideN
      rw [List.length_map]
    unfold pN fewD
    rw [e, e, List.length_map, List.length_zip]
    split <;> omega
  unfold forcN fewN
  induction csD l s with
  | nil => rfl
  | cons d ds ih => rw [List.flatMap_cons, List.length_append, List.map_cons, List.sum_cons, Int.natCast_add, key, ih]
theorem forc_len2 {l : List (Int × Int)} {s : Sc} : 2 * (forcN l s).length ≤ l.length := by
  have h1 : (flatQ (forcN l s)).length = 2 * (forcN l s).length := by
    have := keyN_len (forcN l s)
    unfold keyN at this
    rw [List.length_map] at this
    exact this
  rw [← h1]
  have h2 : ∀ x ∈ flatQ (forcN l s), x < l.length := fun x hx => by
    obtain ⟨q, hq, hx⟩ := List.mem_flatMap.mp hx
    obtain ⟨c1, c2, _⟩ := forc_cl hq
    simp only [List.mem_cons, List.not_mem_nil, or_false] at hx
    rcases hx with rfl | rfl <;> omega
  have h3 := nat_nodup_len (flatQ (forcN l s)) (List.range l.length) forc_nd fun x hx => List.mem_range.mpr (h2 x hx)
  rw [List.length_range] at h3
  exact h3
theorem flat_nd : ∀ {qs : List (Nat × Nat)}, (flatQ qs).Nodup → qs.Nodup
  | [], _ => List.nodup_nil
  | q :: qs, h => by
    unfold flatQ at h
    rw [List.flatMap_cons] at h
    obtain ⟨_, h2, h3⟩ := List.nodup_append.mp h
    exact List.nodup_cons.mpr ⟨fun z => h3 q.1 (.head _) q.1 (List.mem_flatMap.mpr ⟨q, z, .head _⟩) rfl, flat_nd h2⟩
theorem lt_total {p q : Nat × Nat} (h : ltN q p = false) (ne : p ≠ q) : ltN p q = true := by
  unfold ltN ltP at h ⊢
  rw [Bool.or_eq_false_iff, Bool.and_eq_false_iff] at h
  have h1 := of_decide_eq_false h.1
  rcases h.2 with z | z
  · have z := of_decide_eq_false z
    rw [decide_eq_true (show (p.1 : Int) < (q.1 : Int) by omega)]
    rfl
  · have z := of_decide_eq_false z
    by_cases e : p.1 = q.1
    · have : p.2 ≠ q.2 := fun e2 => ne (Prod.ext e e2)
      rw [decide_eq_true (show (p.1 : Int) = (q.1 : Int) by omega), decide_eq_true (show (p.2 : Int) < (q.2 : Int) by omega)]
      simp
    · rw [decide_eq_true (show (p.1 : Int) < (q.1 : Int) by omega)]
      rfl
open PySem.W in
theorem forc_got (l : List (Int × Int)) (s : Sc) : ∃ qs : List (Nat × Nat), sortD ((forcP l s).map ip) = qs.map dN ∧ qs.Perm (forcN l s) ∧ (qs.length ≤ 64 → GoodQ l s qs) := by
  rw [forc_dN]
  have pm : (sortD ((forcN l s).map dN)).Perm ((forcN l s).map dN) := List.mergeSort_perm _ _
  obtain ⟨qs, e⟩ := all_dN (sortD ((forcN l s).map dN)) fun d hd => by
    obtain ⟨q, _, rfl⟩ := List.mem_map.mp (pm.mem_iff.mp hd)
    exact ⟨q, rfl⟩
  have pm2 : qs.Perm (forcN l s) := by
    have := pm.filterMap ofN
    rw [e, ofN_all, ofN_all] at this
    exact this
  refine ⟨qs, e, pm2, fun h64 => ?_⟩
  have fl : (flatQ qs).Nodup := (pm2.flatMap_right _).nodup_iff.mpr forc_nd
  · refine ⟨fun q hq => forc_cl (pm2.mem_iff.mp hq), ?_, fl, h64⟩
    have sp := sort_pairwise (le := dataLe false id) (sortLe_total _ _ _) ((forcN l s).map dN)
    rw [show ((forcN l s).map dN).mergeSort (dataLe false id) = qs.map dN from e, List.pairwise_map] at sp
    rw [List.pairwise_iff_getElem] at sp ⊢
    intro i j hi hj hij
    refine lt_total ?_ fun ez => ?_
    · have h := sp i j hi hj hij
      rw [dataLe_eq] at h
      have h : dataLt (dN qs[j]) (dN qs[i]) = false := by simpa using h
      exact (lt_ip (castP qs[j]) (castP qs[i])).symm.trans h
    · exact List.pairwise_iff_getElem.mp (flat_nd fl) i j hi hj hij ez
/-! how many cells -/
noncomputable def cntC (l : List (Int × Int)) (s : Sc) : Nat := match s.w with
  | .folded => distN ((List.range l.length).map fun p => ((foldN (steadyAt l s p) s.b (cyc l p).1.toNat : Nat) : Int))
  | .shared => distN ((List.range l.length).map fun p => bs (steadyAt l s p))
  | _ => distN ((List.range l.length).map fun p => ((cyc l p).1, bs (steadyAt l s p)))
theorem cells_n {l : List (Int × Int)} {s : Sc} {Q : RV → Prop} (h : l.length < 64) (hq : Q (.d (.int (cntC l s : Nat)))) : cellsN (steadyD l s) Q := by
  refine ⟨by unfold steadyD; rw [List.length_map, List.length_range]; exact h, ?_⟩
  unfold cntC at hq
  obtain ⟨w, L, b⟩ := s
  cases w with
  | folded => exact .inr (.inl ⟨_, by unfold steadyD; rw [List.map_map]; rfl, hq⟩)
  | shared => exact .inl ⟨_, by unfold steadyD; rw [List.map_map]; rfl, hq⟩
  | own => exact .inr (.inr ⟨_, by unfold steadyD; rw [List.map_map]; rfl, hq⟩)
  | split => exact .inr (.inr ⟨_, by unfold steadyD; rw [List.map_map]; rfl, hq⟩)
noncomputable def grow (T : List (List (CK × Int))) (c : CK) : List (List (CK × Int)) := T.map (· ++ [(c, 0)]) ++ T.map (· ++ [(c, 1)])
noncomputable def allT (ks : List CK) : List (List (CK × Int)) := ks.foldl grow [[]]
noncomputable def FactL (ms : MS) (as : List Addr) (T : List (List (CK × Int))) : Prop := as.length = T.length ∧ ∀ (k : Nat) (a : Addr) (ps : List (CK × Int)), as[k]? = some a → T[k]? = some ps → tupF a (tabD ps) ∈ ms
theorem fact_sub {ms ms' : MS} {as : List Addr} {T : List (List (CK × Int))} (h : FactL ms as T) (hs : ∀ x ∈ ms, x ∈ ms') : FactL ms' as T := ⟨h.1, fun k a ps h1 h2 => hs _ (h.2 k a ps h1 h2)⟩
theorem fact_cons {ms : MS} {as : List Addr} {T : List (List (CK × Int))} (h : FactL ms as T) (x : OwnM) : FactL (x :: ms) as T := fact_sub h fun _ h => .tail _ h
theorem fact_app {ms : MS} {as bs : List Addr} {T U : List (List (CK × Int))} (h : FactL ms as T) (g : FactL ms bs U) : FactL ms (as ++ bs) (T ++ U) := by
  refine ⟨by rw [List.length_append, List.length_append, h.1, g.1], fun k a ps h1 h2 => ?_⟩
  rcases Nat.lt_or_ge k as.length with c | c
  · rw [List.getElem?_append_left c] at h1
    rw [List.getElem?_append_left (by rw [← h.1]; exact c)] at h2
    exact h.2 k a ps h1 h2
  · rw [List.getElem?_append_right c] at h1
    rw [List.getElem?_append_right (by rw [← h.1]; exact c), ← h.1] at h2
    exact g.2 _ a ps h1 h2
theorem fact_one {ms : MS} {a : Addr} {ps : List (CK × Int)} (hm : tupF a (tabD ps) ∈ ms) : FactL ms [a] [ps] := ⟨rfl, fun k b qs h1 h2 => by
  cases k with
  | zero =>
    cases h1
    cases h2
    exact hm
  | succ k => cases h1⟩
theorem fact_snoc {ms : MS} {as : List Addr} {T : List (List (CK × Int))} {a : Addr} {ps : List (CK × Int)} (h : FactL ms as T) (hm : tupF a (tabD ps) ∈ ms) : FactL ms (as ++ [a]) (T ++ [ps]) := fact_app h (fact_one hm)
noncomputable def tabG (l : List (Int × Int)) (s : Sc) (ps : List (CK × Int)) : Prop := ps.length ≤ 14 ∧ ∀ q ∈ ps, (∃ j, q.1 = cellK l s j) ∧ (q.2 = 0 ∨ q.2 = 1)
theorem grow_len (T : List (List (CK × Int))) (c : CK) : (grow T c).length = T.length + T.length := by
  unfold grow
  rw [List.length_append, List.length_map, List.length_map]
theorem allT_snoc (ks : List CK) (c : CK) : allT (ks ++ [c]) = grow (allT ks) c := by
  unfold allT
  rw [List.foldl_append]
  rfl
theorem allT_len : ∀ ks : List CK, (allT ks).length = 2 ^ ks.length := fun ks => by
  have key : ∀ m, m ≤ ks.length → (allT (ks.take m)).length = 2 ^ m := fun m => by
    induction m with
    | zero => intro _; rfl
    | succ m ih =>
      intro hm
      rw [List.take_succ, List.getElem?_eq_getElem (show m < ks.length by omega), Option.toList_some, allT_snoc, grow_len, ih (by omega), Nat.pow_succ]
      omega
  have := key ks.length (Nat.le_refl _)
  rw [List.take_length] at this
  exact this
theorem allT_got {ks : List CK} : ∀ m, m ≤ ks.length → ∀ ps ∈ allT (ks.take m), ps.length = m ∧ ∀ q ∈ ps, q.1 ∈ ks ∧ (q.2 = 0 ∨ q.2 = 1) := fun m => by
  induction m with
  | zero =>
    intro _ ps hp
    rw [List.mem_singleton.mp hp]
    exact ⟨rfl, fun q hq => absurd hq List.not_mem_nil⟩
  | succ m ih =>
    intro hm ps hp
    have hc : ks[m] ∈ ks := List.getElem_mem _
    rw [List.take_succ, List.getElem?_eq_getElem (show m < ks.length by omega), Option.toList_some, allT_snoc] at hp
    have one : ∀ o : Int, (o = 0 ∨ o = 1) → ∀ ps ∈ (allT (ks.take m)).map (· ++ [(ks[m], o)]), ps.length = m + 1 ∧ ∀ q ∈ ps, q.1 ∈ ks ∧ (q.2 = 0 ∨ q.2 = 1) := fun o ho ps hp => by
      obtain ⟨qs, hq, rfl⟩ := List.mem_map.mp hp
      obtain ⟨h1, h2⟩ := ih (by omega) qs hq
      refine ⟨by rw [List.length_append, h1]; rfl, fun q hq => ?_⟩
      rcases List.mem_append.mp hq with h | h
      · exact h2 q h
      · rw [List.mem_singleton.mp h]
        exact ⟨hc, ho⟩
    unfold grow at hp
    rcases List.mem_append.mp hp with h | h
    · exact one 0 (.inl rfl) ps h
    · exact one 1 (.inr rfl) ps h
theorem allT_best {ks : List CK} (v : CK → Int) (hv : ∀ c, v c = 0 ∨ v c = 1) : ∀ m, m ≤ ks.length → (ks.take m).map (fun c => (c, v c)) ∈ allT (ks.take m) := fun m => by
  induction m with
  | zero => intro _; exact List.mem_singleton.mpr rfl
  | succ m ih =>
    intro hm
    rw [List.take_succ, List.getElem?_eq_getElem (show m < ks.length by omega), Option.toList_some, allT_snoc, List.map_append]
    have h := ih (by omega)
    unfold grow
    rcases hv ks[m] with e | e
    · refine List.mem_append_left _ (List.mem_map.mpr ⟨_, h, ?_⟩)
      show _ ++ [(ks[m], 0)] = _ ++ [(ks[m], v ks[m])]
      rw [e]
    · refine List.mem_append_right _ (List.mem_map.mpr ⟨_, h, ?_⟩)
      show _ ++ [(ks[m], 1)] = _ ++ [(ks[m], v ks[m])]
      rw [e]
theorem lc_grow {r0 r1 r2 : Option RV} {st : Addr} {as : List Addr} {T : List (List (CK × Int))} {c : CK} (o : Int) {ms : MS} {m : Nat} {Q : RV → MS → Nat → Prop} (hst : ownM st (listA as) ∈ ms) (hT : FactL ms as T) (hl : as.length ≤ 64) (hpl : ∀ ps ∈ T, ps.length ≤ 100)
    (h : ∀ (D : Addr) (bs : List Addr) (ms' : MS), (∀ x ∈ ms, x ∈ ms') → FactL ms' bs (T.map (· ++ [(c, o)])) → Q (.obj D) (ownM D (listA bs) :: ms') m) :
    dLcXO 6 (ofE (dVar 3)) dYesM (dCatX (ofE (dVar 6)) (dTupD (dConsM (ofE (dTup (dCons (dVar 4) (dCons (dC (PyData.int o)) dNil)))) dNilM))) [6] [r0, r1, r2, some (.obj st), some (.d (ckD c)), none, none] ms m Q := by
  refine lcXO_def _ _ _ _ _ _ _ _ _ (fun F hF => ?_)
  walk_at "dm"
  obtain ⟨Iv, hI⟩ := inv4A (fun (i : Nat) (bs : List Addr) (ms' : MS) (m' : Nat) => m' = m ∧ (∀ x ∈ ms, x ∈ ms') ∧ FactL ms' bs ((T.take i).map (· ++ [(c, o)])))
  refine hF _ _ _ ⟨st, as, rfl, hst, rfl, Iv, (hI _ _ _ _).mpr ⟨rfl, fun x h => h, ⟨rfl, fun k a ps hk => by cases hk⟩⟩, fun i bs ms' m' a hv hz => ?_, fun bs ms' m' hv => ?_⟩
  · obtain ⟨rfl, hsub, hB⟩ := (hI _ _ _ _).mp hv
    have hi : i < as.length := (List.getElem?_eq_some_iff.mp hz).1
    have hiT : i < T.length := by rw [← hT.1]; exact hi
    have eT : T[i]? = some T[i] := List.getElem?_eq_getElem hiT
    have ha := hT.2 i a T[i] hz eT
    have hl2 : bs.length ≤ 64 := by
      rw [hB.1, List.length_map, List.length_take]
      omega
    have hp2 := hpl T[i] (List.getElem_mem _)
    clear hF hv
    refine ⟨hsub _ hst, rfl, ?_⟩
    walk_at "dm"
    refine ⟨by decide, by decide, fun y => ⟨y, tabD T[i], _, rfl, .tail _ (hsub _ ha), List.mem_cons_self, List.cons_ne_nil _ _, ?_, fun z => ⟨size_lt (by omega), (hI _ _ _ _).mpr ⟨rfl, fun x hx => .tail _ (.tail _ (hsub x hx)), ?_⟩⟩⟩⟩
    · unfold tabD
      rw [List.length_map, List.length_map]
      exact size_ok (show _ + 1 ≤ _ by omega)
    · rw [List.take_succ, eT, Option.toList_some, List.map_append]
      refine fact_snoc (fact_cons (fact_cons hB _) _) ?_
      rw [show tabD (T[i] ++ [(c, o)]) = tabD T[i] ++ [PyData.tuple [ckD c, .int o]] from by unfold tabD; rw [List.map_append, List.map_append]; rfl]
      exact List.mem_cons_self
  · obtain ⟨rfl, hsub, hB⟩ := (hI _ _ _ _).mp hv
    rw [hT.1, List.take_length] at hB
    exact ⟨hsub _ hst, fun D => h D bs ms' hsub hB⟩
noncomputable def spTabs : DSpM := fun rs ms n Q => ∃ (l : List (Int × Int)) (s : Sc), rs = [.box, .d (.list (steadyD l s))] ∧ ms = [] ∧ Tr l ∧ l.length ≤ 14 ∧ SOk s ∧ n < 2 ^ 55 ∧
  ∀ (st : Addr) (as : List Addr) (T : List (List (CK × Int))) (ms' : MS) (n' : Nat), n' ≤ n + 2000 → ownM st (listA as) ∈ ms' → FactL ms' as T → T.length ≤ 128 → T ≠ [] → (∀ ps ∈ T, tabG l s ps) →
    ((csD l s).length ≤ 7 → ∀ ks, csD l s = ks.map ckD → bestP l s ks ∈ T) → Q (.obj st) ms' n'
theorem few_d {l : List (Int × Int)} {s : Sc} (ps : List (CK × Int)) {d : PyData} (hd : d ∈ csD l s) : fewD l s d ≤ ((terD l s ps d : Nat) : Int) := by
  obtain ⟨c, _, rfl⟩ := List.mem_map.mp (csD_perm.mem_iff.mp hd)
  have a : ∀ o : Int, tabI ps c ≠ o → (pickD l (posOf l s (ckD c)) o).length ≤ terD l s ps (ckD c) := fun o ho => by
    unfold pickD terD
    rw [List.length_map, ← List.countP_eq_length_filter, ← List.countP_eq_length_filter]
    refine List.countP_mono_left fun p hp h => ?_
    have ec : cellK l s p = c := by
      have e := cs_pos hd hp
      exact Option.some.inj (by rw [← ckOf_ck, ← ckOf_ck, e])
    have eo := of_decide_eq_true h
    unfold wrongB
    rw [ec, eo, decide_eq_false (fun z => ho z.symm)]
    rfl
  unfold fewD
  by_cases h0 : tabI ps c = 0
  · have := a 1 (by rw [h0]; decide)
    split <;> omega
  · have := a 0 h0
    split <;> omega
theorem few_le {l : List (Int × Int)} {s : Sc} (ps : List (CK × Int)) : fewN l s ≤ ((terN l s ps : Nat) : Int) := by
  unfold fewN terN
  have key : ∀ ds : List PyData, (∀ d ∈ ds, d ∈ csD l s) → (ds.map (fewD l s)).sum ≤ (((ds.map (terD l s ps)).sum : Nat) : Int) := fun ds => by
    induction ds with
    | nil => intro _; exact Int.le_refl _
    | cons d ds ih =>
      intro h
      rw [List.map_cons, List.sum_cons, List.map_cons, List.sum_cons, Int.natCast_add]
      have h1 := ih fun x hx => h x (.tail _ hx)
      have h2 := few_d ps (h d (.head _))
      omega
  exact key _ fun d h => h
theorem wrong_hit {l : List (Int × Int)} {s : Sc} (ps : List (CK × Int)) {i j : Nat} (h : clB l s i j = true) : wrongB l s ps i = true ∨ wrongB l s ps j = true := by
  unfold clB at h
  rw [← eqv_cell] at h
  have h : (PyData.eqv (cellAt l s i) (cellAt l s j) && !decide ((cyc l i).2 = (cyc l j).2)) = true := h
  rw [cellK_eq, Bool.and_eq_true] at h
  have h1 := of_decide_eq_true h.1
  have h2 : ¬ (cyc l i).2 = (cyc l j).2 := by simpa using h.2
  unfold wrongB
  rw [h1]
  by_cases e : (cyc l i).2 = tabI ps (cellK l s j)
  · right
    rw [decide_eq_false (fun z => h2 (e.trans z.symm))]
    rfl
  · left
    rw [decide_eq_false e]
    rfl
theorem best_G {l : List (Int × Int)} {s : Sc} {ks : List CK} (h : ks.length ≤ l.length) (h14 : l.length ≤ 14) (pm : ks.Perm (metK (cellK l s) l.length)) : tabG l s (bestP l s ks) := by
  refine ⟨by unfold bestP; rw [List.length_map]; omega, fun q hq => ?_⟩
  unfold bestP at hq
  obtain ⟨c, hc, rfl⟩ := List.mem_map.mp hq
  obtain ⟨j, _, e⟩ := metK_got _ _ _ (pm.mem_iff.mp hc)
  exact ⟨⟨j, e⟩, bestV_two l s (ckD c)⟩
theorem in_wrong {W : List Nat} {j : Nat} (h : j ∈ W) : ((W.map fun (i : Nat) => PyData.int (i : Int)).any fun z => z.eqv (.int (j : Int))) = true := List.any_eq_true.mpr ⟨_, List.mem_map.mpr ⟨j, h, rfl⟩, Dl.eqv_refl _ rfl⟩
theorem cut1 {xs : List PyData} : Dl.cutD xs (some 1) none = xs.drop 1 := by
  cases xs with
  | nil => rfl
  | cons x xs =>
    unfold Dl.cutD
    have e : HT.sIx (x :: xs).length 0 (some 1) = 1 := by
      show (if (1 : Int) < 0 then ((1 : Int) + ((x :: xs).length : Int)).toNat else min (1 : Int).toNat (x :: xs).length) = 1
      rw [if_neg (by decide)]
      show min 1 (xs.length + 1) = 1
      omega
    rw [e, HT.sIx_none, List.drop_succ_cons, List.drop_zero, List.length_cons, Nat.add_sub_cancel, List.take_length]
theorem cnt_met (l : List (Int × Int)) (s : Sc) : cntC l s = (metK (cellK l s) l.length).length := by
  have e := congrArg List.length (cellK_met l s)
  rw [List.length_map] at e
  rw [e]
  obtain ⟨w, L, b⟩ := s
  cases w <;> exact (List.length_map _).symm
noncomputable def spTR (P : Program) (w : World) : DSpM := fun rs ms n Q => ∃ (l : List (Int × Int)) (s : Sc) (a : Addr) (ps : List (CK × Int)) (qs : List (Nat × Nat)), rs = [.d (TP l), .d s.data, .d (.list (steadyD l s)), .obj a, .d (.tuple (qs.map dN)), .d (.int (fewN l s))] ∧ ms = [tupF a (tabD ps)] ∧ Tr l ∧ l.length ≤ 14 ∧ SOk s ∧ tabG l s ps ∧ GoodQ l s qs ∧
  ∀ o : OwnM, Q (.d (.bool true)) [o, tupF a (tabD ps)] n
noncomputable def spRight : DSp := fun rs n Q => rs = [.box] ∧ n < 2 ^ 50 ∧ ∀ n', n' ≤ n + 3000 → Q (.d (.bool true)) n'
theorem ok__law_tables {f : Addr} {fd : FuncData} (F : Fun K "_law_tables" "_law_tables" s__law_tables f fd) (hm : mg "_law_tables" = some (.ref f)) (hb : Binds K fd ["_law_box_here", "_law_cells"] []) (m_len : mg "len" = none) (m_range : mg "range" = none) (m_tuple : mg "tuple" = none) (m_sorted : mg "sorted" = none) (m_set : mg "set" = none) (D__law_take : Def P w K mg base 1 "_law_take" ["_law_box_here", "_law_many"] spTake) : DefM P w K mg base 2 "_law_tables" ["_law_box_here", "_law_cells"] spTabs := by
  refine defm_mk (k := 1) F sc__law_tables hm hb ?hlen (fun cdv A outer s H E hr => (lssm_cons (lsm_par2c 2 3 sc__law_tables.nd (lem_of (le_sortset rfl (un65 hr.room) (by rfl) m_sorted (by rfl) m_set (la_cons (le_var 1) la_nil))) (lem_lstA (lam_cons (lem_tupD lam_nil) lam_nil)) rfl)
  (lssm_cons (lsm_if (ltm_of (lt_cmp lo_gt (le_callB lc_len (by rfl) m_len (by decide +kernel) (la_cons (le_var 2) la_nil)) le_int (nomark _))) (lssm_one (lsm_ret (lem_lcDO (own := [("_law_turn", 5)]) rfl sc__law_tables.nd (li_range1 (by rfl) m_range (la_cons le_int la_nil)) (by walk_at "lc") (fun _ _ _ _ _ => (lg_name (i := 5) sc__law_tables.nd rfl (by first | exact Or.inl rfl | exact Or.inr rfl))) (fun _ _ _ _ _ _ => ltsm_nil) (fun _ _ _ _ _ _ => (lem_tupX (by rfl) m_tuple (by decide +kernel) (lam_cons (lem_of (le_lc rfl sc__law_tables.nd (own := [("_law_spot", 4)]) (li_seq (le_var 2)) (by walk_at "lc") (fun _ _ _ _ _ => (lg_name (i := 4) sc__law_tables.nd rfl (by first | exact Or.inl rfl | exact Or.inr rfl))) (fun _ _ _ _ _ => lts_nil) (fun _ _ _ _ _ => (le_tup (la_cons (le_var 4) (la_cons (le_def D__law_take (hr.mono (by decide)) (by rfl) (la_cons (le_var 0) (la_cons le_int la_nil))) la_nil)))))) lam_nil)))))) lssm_nil)
  (lssm_cons (lsm_for PassesOwn.never rfl (li_seq (le_var 2)) (lg_name (i := 4) sc__law_tables.nd rfl (by first | exact Or.inl rfl | exact Or.inr rfl)) (lssm_one (lsm_set 3 sc__law_tables.nd (lem_addA (lem_lcXO (own := [("_law_some", 6)]) 6 rfl sc__law_tables.nd (lem_of (le_var 3)) (by walk_at "lc") (fun _ _ _ _ _ => pg_name sc__law_tables.nd rfl (by first | exact Or.inl rfl | exact Or.inr rfl)) (fun _ _ _ _ _ _ => ltsm_nil) (fun _ _ _ _ _ _ => (lem_catX (lem_of (le_var 6)) (lem_tupD (lam_cons (lem_of (le_tup (la_cons (le_var 4) (la_cons le_int la_nil)))) lam_nil))))) (lem_lcXO (own := [("_law_some", 6)]) 6 rfl sc__law_tables.nd (lem_of (le_var 3)) (by walk_at "lc") (fun _ _ _ _ _ => pg_name sc__law_tables.nd rfl (by first | exact Or.inl rfl | exact Or.inr rfl)) (fun _ _ _ _ _ _ => ltsm_nil) (fun _ _ _ _ _ _ => (lem_catX (lem_of (le_var 6)) (lem_tupD (lam_cons (lem_of (le_tup (la_cons (le_var 4) (la_cons le_int la_nil)))) lam_nil)))))))))
  (lssm_one (lsm_ret (lem_of (le_var 3)))))))) ?hd
  case hlen =>
    rintro rs ms n Q ⟨l, s, rfl, _⟩
    rfl
  case hd =>
    rintro rs ms n Qd _ ⟨l, s, rfl, rfl, ht, h14, hs, hn, hq⟩
    obtain ⟨ks, eks, pm⟩ := perm_keys (l := l) (s := s)
    have hkl : ks.length ≤ l.length := by
      rw [pm.length_eq]
      exact metK_le _ _
    refine seqM_def _ _ _ _ _ _ (fun R hR => ?_)
    walk_at "dm"
    refine ⟨by rw [steadyD_len]; omega, _, dcells_dist l s, Nat.zero_le _, fun a0 => ⟨[a0], rfl, (show 1 ≤ sizeLine by decide), fun st => ?_⟩⟩
    rw [show sortD (dcells l s) = ks.map ckD from eks]
    refine Eq.mpr (hR _ _ _) ?_; clear hR
    refine seqM_def _ _ _ _ _ _ (fun R hR => ?_)
    refine ifM_def _ _ _ _ _ _ _ (fun T F hT hF => ?_)
    walk_at "dm"
    refine ite2 (fun h7 => ?_) (fun h7 => ?_)
    · have h7 : 7 < ks.length := by
        have := of_decide_eq_true h7
        rw [List.length_map] at this
        omega
      refine Eq.mpr (hT _ _) ?_; clear hT hF
      refine lcDO_def _ _ _ _ _ _ _ _ _ (fun F hF => ?_)
      walk_at "dm"
      obtain ⟨Iv, hI⟩ := inv4A (fun (i : Nat) (as : List Addr) (ms : MS) (m : Nat) => m ≤ n + 15 * i ∧ ∃ T : List (List (CK × Int)), as.length = i ∧ FactL ms as T ∧ ∀ ps ∈ T, tabG l s ps)
      refine ⟨by decide, hF _ _ ⟨rfl, Iv, (hI _ _ _ _).mpr ⟨by omega, [], rfl, ⟨rfl, fun k a ps hk => by cases hk⟩, fun ps hp => absurd hp List.not_mem_nil⟩, fun i as ms m z hv hz => ?_, fun as ms m hv D => ?_⟩⟩
      · obtain ⟨hm, T, hi, hT, hTg⟩ := (hI _ _ _ _).mp hv
        obtain ⟨hi100, rfl⟩ := range_get hz
        clear hv hz hF
        walk_at "dm"
        refine ⟨rfl, ?_⟩
        refine lc_def _ _ _ _ _ _ _ _ (fun F hF => ?_)
        walk_at "de"
        obtain ⟨Jv, hJ⟩ := inv3 (fun (j : Nat) (acc : List PyData) (m' : Nat) => m' ≤ m + j ∧ ∃ ps : List (CK × Int), acc = tabD ps ∧ ps.length = j ∧ ∀ q ∈ ps, (∃ j, q.1 = cellK l s j) ∧ (q.2 = 0 ∨ q.2 = 1))
        refine hF _ _ ⟨Jv, (hJ _ _ _).mpr ⟨Nat.le_refl _, [], rfl, rfl, fun q hq => absurd hq List.not_mem_nil⟩, fun j acc m' z hv hz => ?_, fun acc m' hv => ?_⟩
        · obtain ⟨hm', ps, rfl, hj, hp⟩ := (hJ _ _ _).mp hv
          rw [List.getElem?_map] at hz
          obtain ⟨c, ec, rfl⟩ := Option.map_eq_some_iff.mp hz
          have hjl : j < ks.length := (List.getElem?_eq_some_iff.mp ec).1
          clear hF hv
          unfold wipeD wipeD
          walk_at "de"
          refine ⟨2, rfl, by decide, by decide, by omega, fun x x0 x1 => ?_⟩
          walk_at "de"
          have hc : ∃ j, c = cellK l s j := by
            obtain ⟨q, _, e⟩ := metK_got _ _ _ (pm.mem_iff.mp (List.mem_of_getElem? ec))
            exact ⟨q, e⟩
          refine ⟨by decide, by unfold tabD; rw [List.length_map, List.length_map]; exact size_lt (by omega), (hJ _ _ _).mpr ⟨by omega, ps ++ [(c, x)], ?_, by rw [List.length_append, hj]; rfl, fun q hq => ?_⟩⟩
          · unfold tabD
            rw [List.map_append, List.map_append]
            rfl
          · rcases List.mem_append.mp hq with hq | hq
            · exact hp q hq
            · rw [List.mem_singleton.mp hq]
              exact ⟨hc, by show x = 0 ∨ x = 1; omega⟩
        · obtain ⟨hm', ps, rfl, hj, hp⟩ := (hJ _ _ _).mp hv
          rw [List.length_map] at hm' hj
          walk_at "dm"
          refine fun a => ⟨by rw [hi]; exact size_lt (by omega), (hI _ _ _ _).mpr ⟨by omega, T ++ [ps], by rw [List.length_append, hi]; rfl, fact_snoc (fact_cons hT _) List.mem_cons_self, fun qs hqs => ?_⟩⟩
          rcases List.mem_append.mp hqs with h | h
          · exact hTg qs h
          · rw [List.mem_singleton.mp h]
            exact ⟨by omega, hp⟩
      · obtain ⟨hm, T, hi, hT, hTg⟩ := (hI _ _ _ _).mp hv
        rw [range_len] at hm hi
        have hT1 : T.length = 100 := hT.1.symm.trans hi
        refine hq _ _ T _ _ (by omega) List.mem_cons_self ⟨hT.1, fun k a ps h1 h2 => .tail _ (hT.2 k a ps h1 h2)⟩ (by omega) (fun e => by rw [e] at hT1; cases hT1) hTg fun h => ?_
        exfalso
        rw [eks, List.length_map] at h
        omega
    · have h7 : ks.length ≤ 7 := by
        have := of_decide_eq_false (by simpa using h7 : decide (7 < ((ks.map ckD).length : Int)) = false)
        rw [List.length_map] at this
        omega
      refine Eq.mpr (hF _ _) ?_; clear hT hF
      refine Eq.mpr (hR _ _ _) ?_; clear hR
      refine seqM_def _ _ _ _ _ _ (fun R hR => ?_)
      refine forM_def _ _ _ _ _ _ _ (fun F hF => ?_)
      walk_at "dm"
      have pre : ∀ i ≤ ks.length, ∀ ps ∈ allT (ks.take i), ps.length = i ∧ ∀ q ∈ ps, q.1 ∈ ks ∧ (q.2 = 0 ∨ q.2 = 1) := fun i hi => allT_got i hi
      obtain ⟨Iv, hI⟩ := inv4M (fun (i : Nat) (ρ : DEnv) (ms : MS) (m : Nat) => m = n ∧ ∃ (st : Addr) (as : List Addr) (u : Option RV), ownM st (listA as) ∈ ms ∧ FactL ms as (allT (ks.take i)) ∧ ρ = [some .box, some (.d (.list (steadyD l s))), some (.d (.list (ks.map ckD))), some (.obj st), u, none, none])
      refine hF _ _ ⟨Iv, (hI _ _ _ _).mpr ⟨rfl, st, [a0], _, List.mem_cons_self, fact_one (.tail _ List.mem_cons_self), rfl⟩, fun i ρ ms m z hv hz => ?_, fun ρ ms m hv => ?_⟩
      · obtain ⟨rfl, st, as, u, hst, hT, rfl⟩ := (hI _ _ _ _).mp hv
        rw [List.getElem?_map] at hz
        obtain ⟨c, ec, rfl⟩ := Option.map_eq_some_iff.mp hz
        have hil : i < ks.length := (List.getElem?_eq_some_iff.mp ec).1
        have hTl := allT_len (ks.take i)
        rw [List.length_take, Nat.min_eq_left (by omega)] at hTl
        have h128 : 2 ^ i ≤ 64 := Nat.pow_le_pow_right (show 1 ≤ 2 by decide) (show i ≤ 6 by omega)
        clear hF hv hz
        walk_at "dm"
        have p100 : ∀ ps ∈ allT (ks.take i), ps.length ≤ 100 := fun ps hp => by
          have := (pre i (by omega) ps hp).1
          omega
        have has : as.length ≤ 64 := by
          rw [hT.1, hTl]
          exact h128
        refine lc_grow 0 hst hT has p100 fun D1 b1 ms1 hs1 hT1 => ⟨D1, rfl, ?_⟩
        refine lc_grow 1 (.tail _ (hs1 _ hst)) (fact_cons (fact_sub hT hs1) _) has p100 fun D2 b2 ms2 hs2 hT2 => ⟨D2, b1, b2, rfl, .tail _ (hs2 _ List.mem_cons_self), List.mem_cons_self, ?_, fun z => (hI _ _ _ _).mpr ⟨rfl, z, b1 ++ b2, _, List.mem_cons_self, ?_, rfl⟩⟩
        · have e1 := hT1.1
          have e2 := hT2.1
          rw [List.length_map, hTl] at e1 e2
          exact size_ok (by omega)
        · rw [List.take_succ, ec, Option.toList_some, allT_snoc]
          unfold grow
          exact fact_cons (fact_app (fact_cons (fact_sub (fact_cons hT1 _) hs2) _) (fact_cons hT2 _)) _
      · obtain ⟨rfl, st, as, u, hst, hT, rfl⟩ := (hI _ _ _ _).mp hv
        rw [List.length_map, List.take_length] at hT
        refine Eq.mpr (hR _ _ _) ?_; clear hR
        walk_at "dm"
        have hTl := allT_len ks
        have h128 : 2 ^ ks.length ≤ 128 := Nat.pow_le_pow_right (show 1 ≤ 2 by decide) h7
        have hpo : 0 < 2 ^ ks.length := Nat.two_pow_pos _
        refine hq _ _ _ _ _ (by omega) hst hT (by omega) (fun e => by rw [e] at hTl; rw [← hTl] at hpo; exact absurd hpo (by decide)) (fun ps hp => ?_) fun _ ks' e => ?_
        · have hg := pre ks.length (Nat.le_refl _) ps (by rw [List.take_length]; exact hp)
          refine ⟨by omega, fun q hq => ⟨?_, (hg.2 q hq).2⟩⟩
          obtain ⟨j, _, e⟩ := metK_got _ _ _ (pm.mem_iff.mp (hg.2 q hq).1)
          exact ⟨j, e⟩
        · have ek : ks' = ks := by rw [← ckOf_all ks', ← e, eks, ckOf_all]
          rw [ek]
          have := allT_best (ks := ks) (fun c => bestV l s (ckD c)) (fun c => bestV_two l s (ckD c)) ks.length (Nat.le_refl _)
          rw [List.take_length] at this
          exact this
theorem ok__law_table_right {f : Addr} {fd : FuncData} (F : Fun K "_law_table_right" "_law_table_right" s__law_table_right f fd) (hm : mg "_law_table_right" = some (.ref f)) (hb : Binds K fd ["_law_loop_here", "_law_plan_here", "_law_cells", "_law_some", "_law_pairs", "_law_least"] []) (m_all : mg "all" = none) (m_len : mg "len" = none) (m_enumerate : mg "enumerate" = none) (m_dict : mg "dict" = none) (m_list : mg "list" = none) (D_table_errors : DefM P w K mg base 5 "table_errors" ["trace", "scheme", "table"] (spTE P w)) : DefM P w K mg base 6 "_law_table_right" ["_law_loop_here", "_law_plan_here", "_law_cells", "_law_some", "_law_pairs", "_law_least"] (spTR P w) := by
  refine defm_mk (k := 5) F sc__law_table_right hm hb ?hlen (fun cdv A outer s H E hr => (lssm_cons (lsm_setAsT 3 6 sc__law_table_right.nd (le_callTy (lc_dict P w (un65 hr.room)) (by rfl) m_dict (by decide +kernel) (la_cons (le_callTy lc_list (by rfl) m_list (by decide +kernel) (la_cons (le_var 3) la_nil)) la_nil)))
  (lssm_cons (lsm_of fun _ => (ls_set 7 sc__law_table_right.nd (le_lc rfl sc__law_table_right.nd (own := [("_law_at", 8), ("_law_home", 9), ("_law_deed", 10)]) (li_enum (by rfl) m_enumerate (la_cons (le_var 0) la_nil)) (by walk_at "lc") (fun _ _ _ _ _ => (lg_tup (n := 2) rfl (lgs_cons (lg_name (i := 8) sc__law_table_right.nd rfl (by first | exact Or.inl rfl | exact Or.inr rfl)) (lgs_cons (lg_tup (n := 2) rfl (lgs_cons (lg_name (i := 9) sc__law_table_right.nd rfl (by first | exact Or.inl rfl | exact Or.inr rfl)) (lgs_cons (lg_name (i := 10) sc__law_table_right.nd rfl (by first | exact Or.inl rfl | exact Or.inr rfl)) lgs_nil))) lgs_nil)))) (fun _ _ _ _ _ => (lts_one (lt_cmp (lo_ne hr.room.units) (le_lget P w 6 (un9 (un65 hr.room)) (le_ix (le_var 2) (le_var 8)) le_int) (le_var 10) (nomark _)))) (fun _ _ _ _ _ => (le_var 8)))))
  (lssm_cons (lsm_if (ltm_w (lwm_or (ltm_cmp (lo_ne hr.room.units) (lem_call D_table_errors (hr.mono (by decide)) (by rfl) (lam_cons (lem_of (le_var 0)) (lam_cons (lem_of (le_var 1)) (lam_cons (lem_of (le_var 3)) lam_nil)))) (lem_of (le_callB lc_len (by rfl) m_len (by decide +kernel) (la_cons (le_var 7) la_nil))) (nomark _)) (lwm_or1 (ltm_of (lt_cmp lo_lt (le_callB lc_len (by rfl) m_len (by decide +kernel) (la_cons (le_var 7) la_nil)) (le_var 5) (nomark _)))))) (lssm_one (lsm_of fun _ => (ls_ret le_bl))) lssm_nil)
  (lssm_one (lsm_of fun _ => (ls_ret (le_callB (lc_all rfl) (by rfl) m_all (by decide +kernel) (la_cons (le_lc rfl sc__law_table_right.nd (own := [("_law_at", 8), ("_law_to", 11)]) (li_seq (le_var 4)) (by walk_at "lc") (fun _ _ _ _ _ => (lg_tup (n := 2) rfl (lgs_cons (lg_name (i := 8) sc__law_table_right.nd rfl (by first | exact Or.inl rfl | exact Or.inr rfl)) (lgs_cons (lg_name (i := 11) sc__law_table_right.nd rfl (by first | exact Or.inl rfl | exact Or.inr rfl)) lgs_nil)))) (fun _ _ _ _ _ => lts_nil) (fun _ _ _ _ _ => (le_or (le_cmp (lo_in (un65 hr.room)) (le_var 8) (le_var 7) (by rfl)) (le_one (le_cmp (lo_in (un65 hr.room)) (le_var 11) (le_var 7) (by rfl)))))) la_nil))))))))) ?hd
  case hlen =>
    rintro rs ms n Q ⟨l, s, a, ps, qs, rfl, _⟩
    rfl
  case hd =>
    rintro rs ms n Qd _ ⟨l, s, a, ps, qs, rfl, rfl, ht, h14, hs, hg, hqs, hq⟩
    refine seqM_def _ _ _ _ _ _ (fun R hR => ?_)
    walk_at "dm"
    have hck : ∀ q ∈ ps, ckOk (isPair s) q.1 := fun q hq => by
      obtain ⟨⟨j, e⟩, _⟩ := hg.2 q hq
      rw [e]
      exact cellK_ok l s j
    refine ⟨a, _, rfl, List.mem_singleton.mpr rfl, isPair s, ps.map fun p => (p.1, PyData.int p.2), by unfold tabD; rfl, fun q hq => ?_, by rw [List.length_map]; exact size_ok (by have := hg.1; omega), trivial, ?_⟩
    · obtain ⟨p, hp, rfl⟩ := List.mem_map.mp hq
      exact hck p hp
    rw [show foldA (ps.map fun p => (p.1, PyData.int p.2)) = tabA ps from rfl]
    refine Eq.mpr (hR _ _ _) ?_; clear hR
    refine seqM_def _ _ _ _ _ _ (fun R hR => ?_)
    walk_at "dm"
    refine lc_def _ _ _ _ _ _ _ _ (fun F hF => ?_)
    walk_at "de"
    refine hF _ _ ?_
    clear hF
    refine lc_filter (fun i => wrongB l s ps i) (fun i => PyData.int (i : Int)) ?hl3 (fun i z J acc hz ha hJ1 hJ2 => ?_) ?_
    case hl3 => rw [enum_len, List.length_map]; omega
    · obtain ⟨x, e1, rfl⟩ := enum_get _ _ _ _ hz
      have hi : i < l.length := by
        have := (List.getElem?_eq_some_iff.mp e1).1
        rw [List.length_map] at this
        exact this
      rw [List.getElem?_map, cyc_lt hi] at e1
      cases e1
      rw [Nat.zero_add]
      unfold wipeD wipeD wipeD wipeD
      walk_at "de"
      refine ⟨isPair s, tabA ps, rfl, _, sc_at hi, cellK l s i, _, (cellK_D l s i).symm, cellK_ok l s i, rfl, ?_⟩
      rw [tab_look]
      walk_at "de"
      have ew : (!decide (tabI ps (cellK l s i) = (cyc l i).2)) = wrongB l s ps i := by
        unfold wrongB
        congr 1
        exact decide_eq_decide.mpr eq_comm
      rw [ew]
      exact if_bool (fun k1 => ⟨ha, hJ1 k1⟩) (fun k1 => hJ2 k1)
    rw [enum_len, List.length_map]
    walk_at "dm"
    refine Eq.mpr (hR _ _ _) ?_; clear hR
    refine seqM_def _ _ _ _ _ _ (fun R hR => ?_)
    walk_at "dm"
    refine split_all ⟨l, s, a, ps, rfl, rfl, ht, by omega, hs, by have := hg.1; omega, hck, fun o => ?_⟩
    have hfl := few_le (l := l) (s := s) ps
    walk_at "dm"
    rw [List.length_map, ← ter_count, if_neg (by simp), if_neg (fun h => absurd (of_decide_eq_true h) (by omega))]
    refine Eq.mpr (hR _ _ _) ?_; clear hR
    walk_at "dm"
    refine lc_def _ _ _ _ _ _ _ _ (fun F hF => ?_)
    walk_at "de"
    refine hF _ _ ?_
    clear hF
    have hsh : SeqAt.shaped (PyData.list (((List.range l.length).filter (fun i => wrongB l s ps i)).map fun (i : Nat) => PyData.int (i : Int))) = true := by
      refine shaped_list (plainAll_iff.mpr fun x hx => ?_) fun x hx => ?_
      · obtain ⟨j, _, rfl⟩ := List.mem_map.mp hx
        rfl
      · obtain ⟨j, _, rfl⟩ := List.mem_map.mp hx
        exact Nat.zero_le _
    refine lc_map (fun _ => .bool true) ?hl4 (fun i z J acc hz ha hJ => ?_) ?_
    case hl4 => rw [List.length_map]; have := hqs.few; omega
    · rw [List.getElem?_map] at hz
      obtain ⟨q, eq, rfl⟩ := Option.map_eq_some_iff.mp hz
      have hcl := (hqs.cl q (List.mem_of_getElem? eq))
      unfold wipeD wipeD wipeD dN
      walk_at "de"
      refine ⟨rfl, hsh, ?_⟩
      rcases wrong_hit ps hcl.2.2 with h1 | h1
      · rw [if_pos (in_wrong (List.mem_filter.mpr ⟨List.mem_range.mpr (by omega), h1⟩))]
        exact ⟨ha, hJ⟩
      · refine ite2 (fun _ => ⟨ha, hJ⟩) (fun _ => ⟨rfl, hsh, ha, ?_⟩)
        rw [in_wrong (List.mem_filter.mpr ⟨List.mem_range.mpr (by omega), h1⟩)]
        exact hJ
    rw [List.length_map]
    walk_at "de"
    refine ⟨List.replicate qs.length true, ?_, ?_⟩
    · rw [List.map_replicate]
      congr 2
      exact List.eq_replicate_iff.mpr ⟨by rw [List.length_map, List.length_range], fun y hy => by
        obtain ⟨_, _, rfl⟩ := List.mem_map.mp hy
        rfl⟩
    walk_at "dm"
    rw [show (List.replicate qs.length true).all id = true from by rw [List.all_replicate]; split <;> rfl]
    exact hq _
theorem ok__law_right {f : Addr} {fd : FuncData} (F : Fun K "_law_right" "_law_right" s__law_right f fd) (hm : mg "_law_right" = some (.ref f)) (hb : Binds K fd ["_law_box_here"] []) (m_min : mg "min" = none) (m_len : mg "len" = none) (m_set : mg "set" = none) (m_all : mg "all" = none) (D_table_errors : DefM P w K mg base 5 "table_errors" ["trace", "scheme", "table"] (spTE P w)) (D__law_table_right : DefM P w K mg base 6 "_law_table_right" ["_law_loop_here", "_law_plan_here", "_law_cells", "_law_some", "_law_pairs", "_law_least"] (spTR P w)) (D__law_tables : DefM P w K mg base 2 "_law_tables" ["_law_box_here", "_law_cells"] spTabs) (D_best_table : DefM P w K mg base 6 "best_table" ["trace", "scheme"] spBest) (D_forced : Def P w K mg base 6 "forced" ["trace", "scheme"] spForced) (D_fewest_errors : Def P w K mg base 6 "fewest_errors" ["trace", "scheme"] spFew) (D__law_steady : Def P w K mg base 3 "_law_steady" ["_law_loop_here", "_law_plan_here"] spLawSteady) (D__law_plan : Def P w K mg base 3 "_law_plan" ["_law_box_here", "_law_most"] spPlan) (D__law_loop : Def P w K mg base 3 "_law_loop" ["_law_box_here", "_law_most", "_law_homes"] spLoop) : Def P w K mg base 7 "_law_right" ["_law_box_here"] spRight := by
  refine def_mkM (k := 6) F sc__law_right hm hb ?hlen (fun cdv A outer s H E hr => (lssm_cons (lsm_of fun _ => (ls_unp (le_tup (la_cons (le_def D__law_loop (hr.mono (by decide)) (by rfl) (la_cons (le_var 0) (la_cons le_int (la_cons le_int la_nil)))) (la_cons (le_def D__law_plan (hr.mono (by decide)) (by rfl) (la_cons (le_var 0) (la_cons le_int la_nil))) la_nil))) (lg_tup (n := 2) rfl (lgs_cons (lg_name (i := 1) sc__law_right.nd rfl (by first | exact Or.inl rfl | exact Or.inr rfl)) (lgs_cons (lg_name (i := 2) sc__law_right.nd rfl (by first | exact Or.inl rfl | exact Or.inr rfl)) lgs_nil)))))
  (lssm_cons (lsm_of fun _ => (ls_unp (le_tup (la_cons (le_def D__law_steady (hr.mono (by decide)) (by rfl) (la_cons (le_var 1) (la_cons (le_var 2) la_nil))) (la_cons (le_def D_fewest_errors (hr.mono (by decide)) (by rfl) (la_cons (le_var 1) (la_cons (le_var 2) la_nil))) (la_cons (le_def D_forced (hr.mono (by decide)) (by rfl) (la_cons (le_var 1) (la_cons (le_var 2) la_nil))) la_nil)))) (lg_tup (n := 3) rfl (lgs_cons (lg_name (i := 3) sc__law_right.nd rfl (by first | exact Or.inl rfl | exact Or.inr rfl)) (lgs_cons (lg_name (i := 4) sc__law_right.nd rfl (by first | exact Or.inl rfl | exact Or.inr rfl)) (lgs_cons (lg_name (i := 5) sc__law_right.nd rfl (by first | exact Or.inl rfl | exact Or.inr rfl)) lgs_nil))))))
  (lssm_cons (lsm_par2 6 7 sc__law_right.nd (lem_call D__law_tables (hr.mono (by decide)) (by rfl) (lam_cons (lem_of (le_var 0)) (lam_cons (lem_of (le_var 3)) lam_nil))) (lem_call D_best_table (hr.mono (by decide)) (by rfl) (lam_cons (lem_of (le_var 1)) (lam_cons (lem_of (le_var 2)) lam_nil))) rfl)
  (lssm_cons (lsm_if (ltm_w (lwm_or (ltm_of (lt_cmp (lo_ne hr.room.units) (le_callB lc_len (by rfl) m_len (by decide +kernel) (la_cons (le_var 5) la_nil)) (le_var 4) (nomark _))) (lwm_or1 (ltm_cmp (lo_ne hr.room.units) (lem_call D_table_errors (hr.mono (by decide)) (by rfl) (lam_cons (lem_of (le_var 1)) (lam_cons (lem_of (le_var 2)) (lam_cons (lem_of (le_var 7)) lam_nil)))) (lem_of (le_var 4)) (nomark _))))) (lssm_one (lsm_of fun _ => (ls_ret le_bl))) lssm_nil)
  (lssm_cons (lsm_if (ltm_not (ltm_val (lem_callB (lc_all rfl) (by rfl) m_all (by decide +kernel) (lam_cons (lem_lcXD (own := [("_law_some", 8)]) 8 rfl sc__law_right.nd (lem_addA (lem_of (le_var 6)) (lem_lstA (lam_cons (lem_of (le_var 7)) (lam_cons (lem_slX (lem_of (le_var 7))) (lam_cons (lem_tupD lam_nil) lam_nil))))) (by walk_at "lc") (fun _ _ _ _ _ => pg_name sc__law_right.nd rfl (by first | exact Or.inl rfl | exact Or.inr rfl)) (fun _ _ _ _ _ _ => ltsm_nil) (fun _ _ _ _ _ _ => (lem_call D__law_table_right (hr.mono (by decide)) (by rfl) (lam_cons (lem_of (le_var 1)) (lam_cons (lem_of (le_var 2)) (lam_cons (lem_of (le_var 3)) (lam_cons (lem_of (le_var 8)) (lam_cons (lem_of (le_var 5)) (lam_cons (lem_of (le_var 4)) lam_nil))))))))) lam_nil)))) (lssm_one (lsm_of fun _ => (ls_ret le_bl))) lssm_nil)
  (lssm_cons (lsm_of fun _ => (ls_if (lt_cmp lo_gt (le_lensetC rfl (un65 hr.room) (by rfl) m_len (by rfl) m_set (la_cons (le_var 3) la_nil)) le_int (nomark _)) (lss_one (ls_ret le_bl)) lss_nil))
  (lssm_one (lsm_ret (lem_cmp (lo_eq hr.room.units) (lem_callB (lc_minL rfl) (by rfl) m_min (by decide +kernel) (lam_cons (lem_lcXD (own := [("_law_some", 8)]) 8 rfl sc__law_right.nd (lem_of (le_var 6)) (by walk_at "lc") (fun _ _ _ _ _ => pg_name sc__law_right.nd rfl (by first | exact Or.inl rfl | exact Or.inr rfl)) (fun _ _ _ _ _ _ => ltsm_nil) (fun _ _ _ _ _ _ => (lem_call D_table_errors (hr.mono (by decide)) (by rfl) (lam_cons (lem_of (le_var 1)) (lam_cons (lem_of (le_var 2)) (lam_cons (lem_of (le_var 8)) lam_nil)))))) lam_nil)) (lem_of (le_var 4)) (nomark _))))))))))) ?hd
  case hlen =>
    rintro rs n Q ⟨rfl, _⟩
    rfl
  case hd =>
    rintro rs n Qd _ ⟨rfl, hn, hq⟩
    refine seqM_def _ _ _ _ _ _ (fun R hR => ?_)
    walk_at "dm"
    refine ⟨14, 3, rfl, by decide, by decide, by decide, by decide, by omega, fun l n1 l1 l2 hl ln => ?_⟩
    have ht : Tr l := ⟨l1, by omega, hl⟩
    have h64 : l.length ≤ 64 := by omega
    walk_at "dm"
    refine ⟨3, rfl, by decide, by decide, by omega, fun s n2 hsL hsb sn => ?_⟩
    have hs : SOk s := ⟨by omega, by omega⟩
    obtain ⟨ks, eks, pm⟩ := perm_keys (l := l) (s := s)
    have hkl : ks.length ≤ l.length := by
      rw [pm.length_eq]
      exact metK_le _ _
    obtain ⟨qs, eq, pmq, hgood⟩ := forc_got l s
    walk_at "dm"
    refine ⟨by decide, ?_⟩
    refine Eq.mpr (hR _ _ _) ?_; clear hR
    refine seqM_def _ _ _ _ _ _ (fun R hR => ?_)
    walk_at "dm"
    refine ⟨l, s, rfl, ht, hs, ?_⟩
    walk_at "dm"
    refine ⟨l, s, rfl, ht, h64, hs, ?_⟩
    walk_at "dm"
    refine ⟨l, s, rfl, ht, h64, hs, ?_⟩
    rw [eq]
    walk_at "dm"
    refine ⟨by decide, ?_⟩
    refine Eq.mpr (hR _ _ _) ?_; clear hR
    refine seqM_def _ _ _ _ _ _ (fun R hR => ?_)
    walk_at "dm"
    refine split_none ⟨l, s, rfl, rfl, ht, by omega, hs, by omega, fun st as TB ms n3 hn3 hst hFa hT1 hT0 hTg hTb => ?_⟩
    refine split_none ⟨l, s, rfl, rfl, ht, h64, hs, fun ab => ?_⟩
    rw [best_tab eks]
    walk_at "dm"
    refine Eq.mpr (hR _ _ _) ?_; clear hR
    refine seqM_def _ _ _ _ _ _ (fun R hR => ?_)
    walk_at "dm"
    have hfew := forc_few (l := l) (s := s)
    have hql : qs.length = (forcN l s).length := pmq.length_eq
    have hbw := best_wrong ht eks pm
    have hgd := hgood (by have := forc_len2 (l := l) (s := s); omega)
    have hbG : tabG l s (bestP l s ks) := best_G hkl (by omega) pm
    rw [List.length_map, hql, hfew, if_neg (by simp)]
    refine split_one List.mem_cons_self fun mb hmb => ⟨l, s, ab, _, rfl, rfl, ht, h64, hs, by have := hbG.1; omega, ?_, fun o => ?_⟩
    · intro q hq
      obtain ⟨⟨j, e⟩, _⟩ := hbG.2 q hq
      rw [e]
      exact cellK_ok l s j
    rw [hbw]
    have keep : ∀ x ∈ tupF ab (tabD (bestP l s ks)) :: ms, x ∈ o :: tupF ab (tabD (bestP l s ks)) :: mb := fun x hx => by
      rcases hmb x hx with e | e
      · rw [e]
        exact .tail _ List.mem_cons_self
      · exact .tail _ (.tail _ e)
    clear hmb
    walk_at "dm"
    try rw [if_neg (by simp)]
    refine Eq.mpr (hR _ _ _) ?_; clear hR
    refine seqM_def _ _ _ _ _ _ (fun R hR => ?_)
    refine ifM_def _ _ _ _ _ _ _ (fun T F hT hF => ?_)
    walk_at "dm"
    refine lcXD_def _ _ _ _ _ _ _ _ _ (fun F hF => ?_)
    walk_at "dm"
    have as128 : as.length ≤ 128 := by
      rw [hFa.1]
      exact hT1
    refine ⟨ab, _, rfl, .tail _ List.mem_cons_self, fun a1 => ⟨Nat.zero_le _, fun a2 => ⟨[ab, a1, a2], rfl, (by show 3 ≤ sizeLine; decide), fun p => ⟨p, as, _, rfl, .tail _ (.tail _ (.tail _ (keep _ (.tail _ hst)))), List.mem_cons_self, (by show as.length + 3 ≤ sizeLine; exact size_ok (by omega)), fun z => ?_⟩⟩⟩⟩
    rw [cut1, show (tabD (bestP l s ks)).drop 1 = tabD ((bestP l s ks).drop 1) from by unfold tabD; rw [List.map_drop, List.map_drop]]
    have hms : ∃ MS0, MS0 = ownM z (listA (as ++ [ab, a1, a2])) :: ownM p (listA [ab, a1, a2]) :: tupF a2 [] :: tupF a1 (tabD ((bestP l s ks).drop 1)) :: o :: tupF ab (tabD (bestP l s ks)) :: mb := ⟨_, rfl⟩
    obtain ⟨MS0, eMS⟩ := hms
    rw [← eMS]
    have hz0 : ownM z (listA (as ++ [ab, a1, a2])) ∈ MS0 := by
      rw [eMS]
      exact List.mem_cons_self
    have keep0 : ∀ x ∈ tupF ab (tabD (bestP l s ks)) :: ms, x ∈ MS0 := fun x hx => by
      rw [eMS]
      exact .tail _ (.tail _ (.tail _ (.tail _ (keep x hx))))
    have hst0 := keep0 _ (.tail _ hst)
    have hF0 : FactL MS0 as TB := fact_sub hFa fun x hx => keep0 x (.tail _ hx)
    have hF3 : FactL MS0 (as ++ [ab, a1, a2]) (TB ++ [bestP l s ks, (bestP l s ks).drop 1, []]) := by
      refine fact_app hF0 (fact_app (as := [ab]) (T := [_]) (fact_one (keep0 _ List.mem_cons_self)) (fact_app (as := [a1]) (T := [_]) (fact_one ?_) (fact_one ?_)))
      · rw [eMS]
        exact .tail _ (.tail _ (.tail _ List.mem_cons_self))
      · rw [eMS]
        exact .tail _ (.tail _ List.mem_cons_self)
    have hG3 : ∀ ps ∈ TB ++ [bestP l s ks, (bestP l s ks).drop 1, []], tabG l s ps := fun ps hp => by
      rcases List.mem_append.mp hp with hp | hp
      · exact hTg ps hp
      · simp only [List.mem_cons, List.not_mem_nil, or_false] at hp
        rcases hp with rfl | rfl | rfl
        · exact hbG
        · exact ⟨by rw [List.length_drop]; have := hbG.1; omega, fun q hq => hbG.2 q (List.mem_of_mem_drop hq)⟩
        · exact ⟨Nat.zero_le _, fun q hq => absurd hq List.not_mem_nil⟩
    obtain ⟨Iv, hI⟩ := inv4L (fun (i : Nat) (acc : List PyData) (ms' : MS) (m : Nat) => m = n3 ∧ acc = List.replicate i (.bool true) ∧ ∀ x ∈ MS0, x ∈ ms')
    refine hF _ _ _ ⟨z, _, rfl, hz0, rfl, Iv, (hI _ _ _ _).mpr ⟨rfl, rfl, fun x h => h⟩, fun i acc ms' m a hv hz => ?_, fun acc ms' m hv => ?_⟩
    · obtain ⟨rfl, rfl, hsub⟩ := (hI _ _ _ _).mp hv
      have hi : i < (as ++ [ab, a1, a2]).length := (List.getElem?_eq_some_iff.mp hz).1
      obtain ⟨ps, eT⟩ : ∃ ps, (TB ++ [bestP l s ks, (bestP l s ks).drop 1, []])[i]? = some ps := ⟨_, List.getElem?_eq_getElem (by rw [← hF3.1]; exact hi)⟩
      have hps := hsub _ (hF3.2 i a ps hz eT)
      have hg := hG3 ps (List.mem_of_getElem? eT)
      have hi2 : i < 131 := by
        rw [List.length_append] at hi
        show i < 128 + 3
        exact Nat.lt_of_lt_of_le hi (Nat.add_le_add_right as128 3)
      clear hv hz
      refine ⟨hsub _ hz0, rfl, ?_⟩
      walk_at "dm"
      refine split_one hps fun mb2 hmb2 => ⟨l, s, a, ps, qs, rfl, rfl, ht, by omega, hs, hg, hgd, fun o2 => ⟨by rw [List.length_replicate]; exact size_lt (by omega), (hI _ _ _ _).mpr ⟨rfl, List.replicate_succ'.symm, fun x hx => ?_⟩⟩⟩
      rcases hmb2 x (hsub x hx) with e | e
      · rw [e]
        exact .tail _ List.mem_cons_self
      · exact .tail _ (.tail _ e)
    · obtain ⟨rfl, rfl, hsub⟩ := (hI _ _ _ _).mp hv
      clear hv hF
      refine ⟨hsub _ hz0, List.replicate _ true, by rw [List.map_replicate], ?_⟩
      rw [show (List.replicate (as ++ [ab, a1, a2]).length true).all id = true from by rw [List.all_replicate]; split <;> rfl]
      show (if (!true) = true then _ else _)
      rw [if_neg (by decide)]
      refine Eq.mpr (hF _ _) ?_; clear hT hF
      refine Eq.mpr (hR _ _ _) ?_; clear hR
      refine seqM_def _ _ _ _ _ _ (fun R hR => ?_)
      walk_at "dm"
      refine cells_n (by omega) ?_
      rw [cnt_met, ← pm.length_eq]
      walk_at "dm"
      refine ite2 (fun h7 => hq _ (by omega)) (fun h7 => ?_)
      have h7 : ks.length ≤ 7 := by
        have := of_decide_eq_false (by simpa using h7 : decide (7 < (ks.length : Int)) = false)
        omega
      refine Eq.mpr (hR _ _ _) ?_; clear hR
      walk_at "dm"
      refine lcXD_def _ _ _ _ _ _ _ _ _ (fun F hF => ?_)
      walk_at "dm"
      obtain ⟨Jv, hJ⟩ := inv4L (fun (i : Nat) (acc : List PyData) (ms2 : MS) (m' : Nat) => m' = m ∧ acc = (TB.take i).map (fun ps => PyData.int (terN l s ps : Nat)) ∧ ∀ x ∈ MS0, x ∈ ms2)
      refine hF _ _ _ ⟨st, _, rfl, hsub _ hst0, rfl, Jv, (hJ _ _ _ _).mpr ⟨rfl, rfl, hsub⟩, fun i acc ms2 m' a hv hz => ?_, fun acc ms2 m' hv => ?_⟩
      · obtain ⟨rfl, rfl, hsub2⟩ := (hJ _ _ _ _).mp hv
        have hi : i < as.length := (List.getElem?_eq_some_iff.mp hz).1
        obtain ⟨ps, eT⟩ : ∃ ps, TB[i]? = some ps := ⟨_, List.getElem?_eq_getElem (by rw [← hFa.1]; exact hi)⟩
        have hps := hsub2 _ (hF0.2 i a ps hz eT)
        have hg := hTg ps (List.mem_of_getElem? eT)
        clear hv hz hF
        refine ⟨hsub2 _ hst0, rfl, ?_⟩
        walk_at "dm"
        refine split_one hps fun mb2 hmb2 => ⟨l, s, a, ps, rfl, rfl, ht, h64, hs, by have := hg.1; omega, fun q hq => ?_, fun o2 => ⟨by rw [List.length_map, List.length_take]; exact size_lt (by omega), (hJ _ _ _ _).mpr ⟨rfl, ?_, fun x hx => ?_⟩⟩⟩
        · obtain ⟨⟨j, e⟩, _⟩ := hg.2 q hq
          rw [e]
          exact cellK_ok l s j
        · rw [List.take_succ, eT, Option.toList_some, List.map_append]
          rfl
        · rcases hmb2 x (hsub2 x hx) with e | e
          · rw [e]
            exact .tail _ List.mem_cons_self
          · exact .tail _ (.tail _ e)
      · obtain ⟨rfl, rfl, hsub2⟩ := (hJ _ _ _ _).mp hv
        refine ⟨hsub2 _ hst0, ?_⟩
        rw [hFa.1, List.take_length]
        refine ⟨TB.map fun ps => ((terN l s ps : Nat) : Int), by rw [List.map_map]; rfl, by rw [List.length_map]; exact List.length_pos_iff.mpr hT0, fun k hk => ?_⟩
        have hb := hTb (by rw [eks, List.length_map]; exact h7) ks eks
        have e : k = fewN l s := by
          have h1 := hk.2 _ (List.mem_map.mpr ⟨_, hb, rfl⟩)
          rw [hbw] at h1
          obtain ⟨ps, _, rfl⟩ := List.mem_map.mp hk.1
          exact Int.le_antisymm h1 (few_le ps)
        rw [e, decide_eq_true rfl]
        exact hq _ (by omega)
theorem cellsB (c L : Int) (hc : 1 ≤ c) : (if (if L < c then L else c) > 1 then (if L < c then L else c) else 1) ≤ c ∧ 1 ≤ (if (if L < c then L else c) > 1 then (if L < c then L else c) else 1) := by
  split
  · split <;> omega
  · omega
theorem ok_law {f : Addr} {fd : FuncData} (F : Fun K "law" "law" s_law f fd) (m_range : mg "range" = none) (m_max : mg "max" = none) (m_min : mg "min" = none) (m_len : mg "len" = none) (m_all : mg "all" = none) (D__law_box : Def P w K mg base 1 "_law_box" ["_law_script", "_law_k"] spBox) (D__law_right : Def P w K mg base 7 "_law_right" ["_law_box_here"] spRight) : FnG P w K mg base 8 f fd ["_law_script"] (lift K spLaw) := by
  refine fng_mk (k := 7) F sc_law ?hlen (fun cdv A outer s H E hr => (lss_cons (ls_for PassesOwn.never rfl (li_range1 (by rfl) m_range (la_cons (le_callB (lc_max rfl) (by rfl) m_max (by decide +kernel) (la_cons le_int (la_cons (le_callB (lc_min rfl) (by rfl) m_min (by decide +kernel) (la_cons le_int (la_cons (le_callB lc_len (by rfl) m_len (by decide +kernel) (la_cons (le_var 0) la_nil)) la_nil))) la_nil))) la_nil)) (lg_name (i := 1) sc_law.nd rfl (by first | exact Or.inl rfl | exact Or.inr rfl)) (lss_cons (ls_set 2 sc_law.nd (le_def D__law_box (hr.mono (by decide)) (by rfl) (la_cons (le_var 0) (la_cons (le_var 1) la_nil))))
  (lss_one (ls_if (lt_not (lt_val (le_callB (lc_all rfl) (by rfl) m_all (by decide +kernel) (la_cons (le_lc rfl sc_law.nd (own := [("_law_turn", 3)]) (li_range1 (by rfl) m_range (la_cons le_int la_nil)) (by walk_at "lc") (fun _ _ _ _ _ => (lg_name (i := 3) sc_law.nd rfl (by first | exact Or.inl rfl | exact Or.inr rfl))) (fun _ _ _ _ _ => lts_nil) (fun _ _ _ _ _ => (le_def D__law_right (hr.mono (by decide)) (by rfl) (la_cons (le_var 2) la_nil)))) la_nil)))) (lss_one (ls_ret le_bl)) lss_nil))))
  (lss_one (ls_ret le_bl)))) ?hd
  case hlen =>
    rintro rs n Q ⟨ns, rfl, _⟩
    rfl
  case hd =>
    rintro rs n Qd _ ⟨ns, rfl, h63, hbits, rfl, hq⟩
    obtain ⟨Iv, hI⟩ := inv3 (fun (i : Nat) (ρ : DEnv) (m : Nat) => m ≤ 20000 * i ∧ ∃ u v t, ρ = [some (.d (.list (ns.map PyData.int))), u,v,t])
    refine seq_def _ _ _ _ _ (fun R hR => ?_)
    refine for_def _ _ _ _ _ _ (fun F hF => ?_)
    walk_at "de"
    have hmx := cellsB 2 (((ns.map PyData.int).length : Nat) : Int) (by decide)
    generalize (if (if ((ns.map PyData.int).length : Int) < 2 then ((ns.map PyData.int).length : Int) else 2) > 1 then (if ((ns.map PyData.int).length : Int) < 2 then ((ns.map PyData.int).length : Int) else 2) else 1) = t at *
    refine ⟨by omega, hF _ _ ⟨Iv, (hI _ _ _).mpr ⟨by omega, _, _, _, rfl⟩, fun i ρ m z hv hz => ?_, fun ρ m hv => ?_⟩⟩
    · obtain ⟨hm, u, v, t', rfl⟩ := (hI _ _ _).mp hv
      obtain ⟨hi, rfl⟩ := range_get hz
      clear hF hv hz
      refine seq_def _ _ _ _ _ (fun R hR => ?_)
      walk_at "de"
      refine ⟨ns, _, rfl, h63, hbits, by omega, by omega, ?_⟩
      walk_at "de"
      refine Eq.mpr (hR _ _) ?_; clear hR
      walk_at "de"
      refine lc_def _ _ _ _ _ _ _ _ (fun F hF => ?_)
      walk_at "de"
      refine ⟨by decide, hF _ _ ?_⟩
      refine lc_all_true 3000 ?hl (fun j z J acc m' hz hj hm' ha hJ => ?_) (fun m' hm' => ?_)
      case hl => rw [range_len]; decide
      · have hj' : j < 4 := hj
        unfold wipeD wipeD
        walk_at "de"
        refine ⟨rfl, by omega, fun n' hn' => ?_⟩
        walk_at "de"
        exact ⟨ha, hJ _ (by omega)⟩
      · have hm'' : m' ≤ m + 3000 * 4 := hm'
        walk_at "de"
        refine ⟨List.replicate _ true, by rw [List.map_replicate], ?_⟩
        walk_at "de"
        rw [if_neg (by simp)]
        exact (hI _ _ _).mpr ⟨by omega, _, _, _, rfl⟩
    · obtain ⟨hm, u, v, t', rfl⟩ := (hI _ _ _).mp hv
      refine Eq.mpr (hR _ _) ?_; clear hR
      walk_at "de"
      exact hq _

end
theorem bdn1 {C : List Value → Prop} (h : ∀ a0 : Value, C [a0]) : ∀ us : List Value, us.length = 1 → C us
  | [a0], _ => h a0
theorem bdn2 {C : List Value → Prop} (h : ∀ a0 a1 : Value, C [a0, a1]) : ∀ us : List Value, us.length = 2 → C us
  | [a0, a1], _ => h a0 a1
theorem bdn3 {C : List Value → Prop} (h : ∀ a0 a1 a2 : Value, C [a0, a1, a2]) : ∀ us : List Value, us.length = 3 → C us
  | [a0, a1, a2], _ => h a0 a1 a2
theorem bdn6 {C : List Value → Prop} (h : ∀ a0 a1 a2 a3 a4 a5 : Value, C [a0, a1, a2, a3, a4, a5]) : ∀ us : List Value, us.length = 6 → C us
  | [a0, a1, a2, a3, a4, a5], _ => h a0 a1 a2 a3 a4 a5
theorem all_mk {l : PySem.W.OpenLaw} {w : World} {K : PySem.W.Frag} {h : Heap} {mg : Str → Option Value} {fa : Addr} (X : K.In h) (G : h.Ns mainGlobals mg) (hfa : mg "law" = some (.ref fa))
    {f0 : Addr} {od0 an0 : Option Addr} {sl0 : Array (Option Value)} {oc0 kV0 dc0 pm0 cd0 ct0 : Value} (a0 : PySem.W.nsIn K mainGlobals "_law_take" = some (some (.ref f0))) (l0 : K.lookup f0 = some ⟨oc0, od0, .func (PySem.W.fnOf "_law_take" "_law_take" (defArgs s__law_take) (defBody s__law_take) (defScope s__law_take) .none kV0 dc0 pm0 an0 cd0 ct0), sl0⟩) (c0 : PySem.W.codeIn K cd0 "_law_take" = true) (k0 : PySem.W.keepIn K (.ref f0) = true)
    {f1 : Addr} {od1 an1 : Option Addr} {sl1 : Array (Option Value)} {oc1 kV1 dc1 pm1 cd1 ct1 : Value} (a1 : PySem.W.nsIn K mainGlobals "_law_box" = some (some (.ref f1))) (l1 : K.lookup f1 = some ⟨oc1, od1, .func (PySem.W.fnOf "_law_box" "_law_box" (defArgs s__law_box) (defBody s__law_box) (defScope s__law_box) .none kV1 dc1 pm1 an1 cd1 ct1), sl1⟩) (c1 : PySem.W.codeIn K cd1 "_law_box" = true) (k1 : PySem.W.keepIn K (.ref f1) = true)
    {f2 : Addr} {od2 an2 : Option Addr} {sl2 : Array (Option Value)} {oc2 kV2 dc2 pm2 cd2 ct2 : Value} (a2 : PySem.W.nsIn K mainGlobals "_law_of" = some (some (.ref f2))) (l2 : K.lookup f2 = some ⟨oc2, od2, .func (PySem.W.fnOf "_law_of" "_law_of" (defArgs s__law_of) (defBody s__law_of) (defScope s__law_of) .none kV2 dc2 pm2 an2 cd2 ct2), sl2⟩) (c2 : PySem.W.codeIn K cd2 "_law_of" = true) (k2 : PySem.W.keepIn K (.ref f2) = true)
    {f3 : Addr} {od3 an3 : Option Addr} {sl3 : Array (Option Value)} {oc3 kV3 dc3 pm3 cd3 ct3 : Value} (a3 : PySem.W.nsIn K mainGlobals "_law_row" = some (some (.ref f3))) (l3 : K.lookup f3 = some ⟨oc3, od3, .func (PySem.W.fnOf "_law_row" "_law_row" (defArgs s__law_row) (defBody s__law_row) (defScope s__law_row) .none kV3 dc3 pm3 an3 cd3 ct3), sl3⟩) (c3 : PySem.W.codeIn K cd3 "_law_row" = true) (k3 : PySem.W.keepIn K (.ref f3) = true)
    {f4 : Addr} {od4 an4 : Option Addr} {sl4 : Array (Option Value)} {oc4 kV4 dc4 pm4 cd4 ct4 : Value} (a4 : PySem.W.nsIn K mainGlobals "_law_loop" = some (some (.ref f4))) (l4 : K.lookup f4 = some ⟨oc4, od4, .func (PySem.W.fnOf "_law_loop" "_law_loop" (defArgs s__law_loop) (defBody s__law_loop) (defScope s__law_loop) .none kV4 dc4 pm4 an4 cd4 ct4), sl4⟩) (c4 : PySem.W.codeIn K cd4 "_law_loop" = true) (k4 : PySem.W.keepIn K (.ref f4) = true)
    {f5 : Addr} {od5 an5 : Option Addr} {sl5 : Array (Option Value)} {oc5 kV5 dc5 pm5 cd5 ct5 : Value} (a5 : PySem.W.nsIn K mainGlobals "_law_plan" = some (some (.ref f5))) (l5 : K.lookup f5 = some ⟨oc5, od5, .func (PySem.W.fnOf "_law_plan" "_law_plan" (defArgs s__law_plan) (defBody s__law_plan) (defScope s__law_plan) .none kV5 dc5 pm5 an5 cd5 ct5), sl5⟩) (c5 : PySem.W.codeIn K cd5 "_law_plan" = true) (k5 : PySem.W.keepIn K (.ref f5) = true)
    {f6 : Addr} {od6 an6 : Option Addr} {sl6 : Array (Option Value)} {oc6 kV6 dc6 pm6 cd6 ct6 : Value} (a6 : PySem.W.nsIn K mainGlobals "steady_history" = some (some (.ref f6))) (l6 : K.lookup f6 = some ⟨oc6, od6, .func (PySem.W.fnOf "steady_history" "steady_history" (defArgs s_steady_history) (defBody s_steady_history) (defScope s_steady_history) .none kV6 dc6 pm6 an6 cd6 ct6), sl6⟩) (c6 : PySem.W.codeIn K cd6 "steady_history" = true) (k6 : PySem.W.keepIn K (.ref f6) = true)
    {f7 : Addr} {od7 an7 : Option Addr} {sl7 : Array (Option Value)} {oc7 kV7 dc7 pm7 cd7 ct7 : Value} (a7 : PySem.W.nsIn K mainGlobals "fold" = some (some (.ref f7))) (l7 : K.lookup f7 = some ⟨oc7, od7, .func (PySem.W.fnOf "fold" "fold" (defArgs s_fold) (defBody s_fold) (defScope s_fold) .none kV7 dc7 pm7 an7 cd7 ct7), sl7⟩) (c7 : PySem.W.codeIn K cd7 "fold" = true) (k7 : PySem.W.keepIn K (.ref f7) = true)
    {f8 : Addr} {od8 an8 : Option Addr} {sl8 : Array (Option Value)} {oc8 kV8 dc8 pm8 cd8 ct8 : Value} (a8 : PySem.W.nsIn K mainGlobals "cell_of" = some (some (.ref f8))) (l8 : K.lookup f8 = some ⟨oc8, od8, .func (PySem.W.fnOf "cell_of" "cell_of" (defArgs s_cell_of) (defBody s_cell_of) (defScope s_cell_of) .none kV8 dc8 pm8 an8 cd8 ct8), sl8⟩) (c8 : PySem.W.codeIn K cd8 "cell_of" = true) (k8 : PySem.W.keepIn K (.ref f8) = true)
    {f9 : Addr} {od9 an9 : Option Addr} {sl9 : Array (Option Value)} {oc9 kV9 dc9 pm9 cd9 ct9 : Value} (a9 : PySem.W.nsIn K mainGlobals "steady_cells" = some (some (.ref f9))) (l9 : K.lookup f9 = some ⟨oc9, od9, .func (PySem.W.fnOf "steady_cells" "steady_cells" (defArgs s_steady_cells) (defBody s_steady_cells) (defScope s_steady_cells) .none kV9 dc9 pm9 an9 cd9 ct9), sl9⟩) (c9 : PySem.W.codeIn K cd9 "steady_cells" = true) (k9 : PySem.W.keepIn K (.ref f9) = true)
    {f10 : Addr} {od10 an10 : Option Addr} {sl10 : Array (Option Value)} {oc10 kV10 dc10 pm10 cd10 ct10 : Value} (a10 : PySem.W.nsIn K mainGlobals "groups" = some (some (.ref f10))) (l10 : K.lookup f10 = some ⟨oc10, od10, .func (PySem.W.fnOf "groups" "groups" (defArgs s_groups) (defBody s_groups) (defScope s_groups) .none kV10 dc10 pm10 an10 cd10 ct10), sl10⟩) (c10 : PySem.W.codeIn K cd10 "groups" = true) (k10 : PySem.W.keepIn K (.ref f10) = true)
    {f11 : Addr} {od11 an11 : Option Addr} {sl11 : Array (Option Value)} {oc11 kV11 dc11 pm11 cd11 ct11 : Value} (a11 : PySem.W.nsIn K mainGlobals "_law_folded" = some (some (.ref f11))) (l11 : K.lookup f11 = some ⟨oc11, od11, .func (PySem.W.fnOf "_law_folded" "_law_folded" (defArgs s__law_folded) (defBody s__law_folded) (defScope s__law_folded) .none kV11 dc11 pm11 an11 cd11 ct11), sl11⟩) (c11 : PySem.W.codeIn K cd11 "_law_folded" = true) (k11 : PySem.W.keepIn K (.ref f11) = true)
    {f12 : Addr} {od12 an12 : Option Addr} {sl12 : Array (Option Value)} {oc12 kV12 dc12 pm12 cd12 ct12 : Value} (a12 : PySem.W.nsIn K mainGlobals "_law_cell" = some (some (.ref f12))) (l12 : K.lookup f12 = some ⟨oc12, od12, .func (PySem.W.fnOf "_law_cell" "_law_cell" (defArgs s__law_cell) (defBody s__law_cell) (defScope s__law_cell) .none kV12 dc12 pm12 an12 cd12 ct12), sl12⟩) (c12 : PySem.W.codeIn K cd12 "_law_cell" = true) (k12 : PySem.W.keepIn K (.ref f12) = true)
    {f13 : Addr} {od13 an13 : Option Addr} {sl13 : Array (Option Value)} {oc13 kV13 dc13 pm13 cd13 ct13 : Value} (a13 : PySem.W.nsIn K mainGlobals "_law_past" = some (some (.ref f13))) (l13 : K.lookup f13 = some ⟨oc13, od13, .func (PySem.W.fnOf "_law_past" "_law_past" (defArgs s__law_past) (defBody s__law_past) (defScope s__law_past) .none kV13 dc13 pm13 an13 cd13 ct13), sl13⟩) (c13 : PySem.W.codeIn K cd13 "_law_past" = true) (k13 : PySem.W.keepIn K (.ref f13) = true)
    {f14 : Addr} {od14 an14 : Option Addr} {sl14 : Array (Option Value)} {oc14 kV14 dc14 pm14 cd14 ct14 : Value} (a14 : PySem.W.nsIn K mainGlobals "_law_steady" = some (some (.ref f14))) (l14 : K.lookup f14 = some ⟨oc14, od14, .func (PySem.W.fnOf "_law_steady" "_law_steady" (defArgs s__law_steady) (defBody s__law_steady) (defScope s__law_steady) .none kV14 dc14 pm14 an14 cd14 ct14), sl14⟩) (c14 : PySem.W.codeIn K cd14 "_law_steady" = true) (k14 : PySem.W.keepIn K (.ref f14) = true)
    {f15 : Addr} {od15 an15 : Option Addr} {sl15 : Array (Option Value)} {oc15 kV15 dc15 pm15 cd15 ct15 : Value} (a15 : PySem.W.nsIn K mainGlobals "sides" = some (some (.ref f15))) (l15 : K.lookup f15 = some ⟨oc15, od15, .func (PySem.W.fnOf "sides" "sides" (defArgs s_sides) (defBody s_sides) (defScope s_sides) .none kV15 dc15 pm15 an15 cd15 ct15), sl15⟩) (c15 : PySem.W.codeIn K cd15 "sides" = true) (k15 : PySem.W.keepIn K (.ref f15) = true)
    {f16 : Addr} {od16 an16 : Option Addr} {sl16 : Array (Option Value)} {oc16 kV16 dc16 pm16 cd16 ct16 : Value} (a16 : PySem.W.nsIn K mainGlobals "sides_of" = some (some (.ref f16))) (l16 : K.lookup f16 = some ⟨oc16, od16, .func (PySem.W.fnOf "sides_of" "sides_of" (defArgs s_sides_of) (defBody s_sides_of) (defScope s_sides_of) .none kV16 dc16 pm16 an16 cd16 ct16), sl16⟩) (c16 : PySem.W.codeIn K cd16 "sides_of" = true) (k16 : PySem.W.keepIn K (.ref f16) = true)
    {f17 : Addr} {od17 an17 : Option Addr} {sl17 : Array (Option Value)} {oc17 kV17 dc17 pm17 cd17 ct17 : Value} (a17 : PySem.W.nsIn K mainGlobals "fewest_errors" = some (some (.ref f17))) (l17 : K.lookup f17 = some ⟨oc17, od17, .func (PySem.W.fnOf "fewest_errors" "fewest_errors" (defArgs s_fewest_errors) (defBody s_fewest_errors) (defScope s_fewest_errors) .none kV17 dc17 pm17 an17 cd17 ct17), sl17⟩) (c17 : PySem.W.codeIn K cd17 "fewest_errors" = true) (k17 : PySem.W.keepIn K (.ref f17) = true)
    {f18 : Addr} {od18 an18 : Option Addr} {sl18 : Array (Option Value)} {oc18 kV18 dc18 pm18 cd18 ct18 : Value} (a18 : PySem.W.nsIn K mainGlobals "best_table" = some (some (.ref f18))) (l18 : K.lookup f18 = some ⟨oc18, od18, .func (PySem.W.fnOf "best_table" "best_table" (defArgs s_best_table) (defBody s_best_table) (defScope s_best_table) .none kV18 dc18 pm18 an18 cd18 ct18), sl18⟩) (c18 : PySem.W.codeIn K cd18 "best_table" = true) (k18 : PySem.W.keepIn K (.ref f18) = true)
    {f19 : Addr} {od19 an19 : Option Addr} {sl19 : Array (Option Value)} {oc19 kV19 dc19 pm19 cd19 ct19 : Value} (a19 : PySem.W.nsIn K mainGlobals "table_errors" = some (some (.ref f19))) (l19 : K.lookup f19 = some ⟨oc19, od19, .func (PySem.W.fnOf "table_errors" "table_errors" (defArgs s_table_errors) (defBody s_table_errors) (defScope s_table_errors) .none kV19 dc19 pm19 an19 cd19 ct19), sl19⟩) (c19 : PySem.W.codeIn K cd19 "table_errors" = true) (k19 : PySem.W.keepIn K (.ref f19) = true)
    {f20 : Addr} {od20 an20 : Option Addr} {sl20 : Array (Option Value)} {oc20 kV20 dc20 pm20 cd20 ct20 : Value} (a20 : PySem.W.nsIn K mainGlobals "forced" = some (some (.ref f20))) (l20 : K.lookup f20 = some ⟨oc20, od20, .func (PySem.W.fnOf "forced" "forced" (defArgs s_forced) (defBody s_forced) (defScope s_forced) .none kV20 dc20 pm20 an20 cd20 ct20), sl20⟩) (c20 : PySem.W.codeIn K cd20 "forced" = true) (k20 : PySem.W.keepIn K (.ref f20) = true)
    {f21 : Addr} {od21 an21 : Option Addr} {sl21 : Array (Option Value)} {oc21 kV21 dc21 pm21 cd21 ct21 : Value} (a21 : PySem.W.nsIn K mainGlobals "_law_tables" = some (some (.ref f21))) (l21 : K.lookup f21 = some ⟨oc21, od21, .func (PySem.W.fnOf "_law_tables" "_law_tables" (defArgs s__law_tables) (defBody s__law_tables) (defScope s__law_tables) .none kV21 dc21 pm21 an21 cd21 ct21), sl21⟩) (c21 : PySem.W.codeIn K cd21 "_law_tables" = true) (k21 : PySem.W.keepIn K (.ref f21) = true)
    {f22 : Addr} {od22 an22 : Option Addr} {sl22 : Array (Option Value)} {oc22 kV22 dc22 pm22 cd22 ct22 : Value} (a22 : PySem.W.nsIn K mainGlobals "_law_table_right" = some (some (.ref f22))) (l22 : K.lookup f22 = some ⟨oc22, od22, .func (PySem.W.fnOf "_law_table_right" "_law_table_right" (defArgs s__law_table_right) (defBody s__law_table_right) (defScope s__law_table_right) .none kV22 dc22 pm22 an22 cd22 ct22), sl22⟩) (c22 : PySem.W.codeIn K cd22 "_law_table_right" = true) (k22 : PySem.W.keepIn K (.ref f22) = true)
    {f23 : Addr} {od23 an23 : Option Addr} {sl23 : Array (Option Value)} {oc23 kV23 dc23 pm23 cd23 ct23 : Value} (a23 : PySem.W.nsIn K mainGlobals "_law_right" = some (some (.ref f23))) (l23 : K.lookup f23 = some ⟨oc23, od23, .func (PySem.W.fnOf "_law_right" "_law_right" (defArgs s__law_right) (defBody s__law_right) (defScope s__law_right) .none kV23 dc23 pm23 an23 cd23 ct23), sl23⟩) (c23 : PySem.W.codeIn K cd23 "_law_right" = true) (k23 : PySem.W.keepIn K (.ref f23) = true)
    {f24 : Addr} {od24 an24 : Option Addr} {sl24 : Array (Option Value)} {oc24 kV24 dc24 pm24 cd24 ct24 : Value} (a24 : PySem.W.nsIn K mainGlobals "law" = some (some (.ref f24))) (l24 : K.lookup f24 = some ⟨oc24, od24, .func (PySem.W.fnOf "law" "law" (defArgs s_law) (defBody s_law) (defScope s_law) .none kV24 dc24 pm24 an24 cd24 ct24), sl24⟩) (c24 : PySem.W.codeIn K cd24 "law" = true) (k24 : PySem.W.keepIn K (.ref f24) = true) (z_len : PySem.W.nsIn K mainGlobals "len" = some none) (z_abs : PySem.W.nsIn K mainGlobals "abs" = some none) (z_int : PySem.W.nsIn K mainGlobals "int" = some none) (z_range : PySem.W.nsIn K mainGlobals "range" = some none) (z_min : PySem.W.nsIn K mainGlobals "min" = some none) (z_tuple : PySem.W.nsIn K mainGlobals "tuple" = some none) (z_enumerate : PySem.W.nsIn K mainGlobals "enumerate" = some none) {t_OWN : Tok} (z_OWN : PySem.W.nsIn K mainGlobals "OWN" = some (some (.str "own" t_OWN))) (z_str : PySem.W.nsIn K mainGlobals "str" = some none) (z_sum : PySem.W.nsIn K mainGlobals "sum" = some none) {t_ONE : Tok} (z_ONE : PySem.W.nsIn K mainGlobals "ONE" = some (some (.str "1" t_ONE))) {t_FOLDED : Tok} (z_FOLDED : PySem.W.nsIn K mainGlobals "FOLDED" = some (some (.str "folded" t_FOLDED))) {t_SHARED : Tok} (z_SHARED : PySem.W.nsIn K mainGlobals "SHARED" = some (some (.str "shared" t_SHARED))) (z_sorted : PySem.W.nsIn K mainGlobals "sorted" = some none) (z_dict : PySem.W.nsIn K mainGlobals "dict" = some none) (z_zip : PySem.W.nsIn K mainGlobals "zip" = some none) (z_max : PySem.W.nsIn K mainGlobals "max" = some none) (z_set : PySem.W.nsIn K mainGlobals "set" = some none) (z_all : PySem.W.nsIn K mainGlobals "all" = some none) (z_list : PySem.W.nsIn K mainGlobals "list" = some none) :
    ∃ fd : FuncData, (∀ (s : Shared) (v : Value), BindsTo s fd ⟨[v], []⟩ [("_law_script", v)]) ∧ ∀ base : Heap, K.In base → base.Ns mainGlobals mg → Sm base → FnG l.prog w K mg base 8 fa fd ["_law_script"] (lift K spLaw) := by
  have e := hfa.symm.trans (PySem.W.mg_of X G a24)
  cases e
  have m_len := PySem.W.mg_none_of X G z_len
  have m_abs := PySem.W.mg_none_of X G z_abs
  have m_int := PySem.W.mg_none_of X G z_int
  have m_range := PySem.W.mg_none_of X G z_range
  have m_min := PySem.W.mg_none_of X G z_min
  have m_tuple := PySem.W.mg_none_of X G z_tuple
  have m_enumerate := PySem.W.mg_none_of X G z_enumerate
  have c_OWN := PySem.W.mg_of X G z_OWN
  have m_str := PySem.W.mg_none_of X G z_str
  have m_sum := PySem.W.mg_none_of X G z_sum
  have c_ONE := PySem.W.mg_of X G z_ONE
  have c_FOLDED := PySem.W.mg_of X G z_FOLDED
  have c_SHARED := PySem.W.mg_of X G z_SHARED
  have m_sorted := PySem.W.mg_none_of X G z_sorted
  have m_dict := PySem.W.mg_none_of X G z_dict
  have m_zip := PySem.W.mg_none_of X G z_zip
  have m_max := PySem.W.mg_none_of X G z_max
  have m_set := PySem.W.mg_none_of X G z_set
  have m_all := PySem.W.mg_none_of X G z_all
  have m_list := PySem.W.mg_none_of X G z_list
  refine ⟨PySem.W.fnOf "law" "law" (defArgs s_law) (defBody s_law) (defScope s_law) .none kV24 dc24 pm24 an24 cd24 ct24, fun s v => .of_eq rfl, fun base _ _ hsm => ?_⟩
  have F0 := fun_mk (st := s__law_take) l0 c0 k0
  have b0 := F0.binds (ps := ["_law_box_here", "_law_many"]) fun _ _ _ _ _ _ => bdn2 fun _ _ => rfl
  have D__law_take : Def l.prog w K mg base 1 "_law_take" ["_law_box_here", "_law_many"] spTake := ok__law_take F0 (PySem.W.mg_of X G a0) b0 
  have F1 := fun_mk (st := s__law_box) l1 c1 k1
  have b1 := F1.binds (ps := ["_law_script", "_law_k"]) fun _ _ _ _ _ _ => bdn2 fun _ _ => rfl
  have D__law_box : Def l.prog w K mg base 1 "_law_box" ["_law_script", "_law_k"] spBox := ok__law_box F1 (PySem.W.mg_of X G a1) b1 m_len m_abs m_int
  have F2 := fun_mk (st := s__law_of) l2 c2 k2
  have b2 := F2.binds (ps := ["_law_box_here", "_law_some"]) fun _ _ _ _ _ _ => bdn2 fun _ _ => rfl
  have D__law_of : Def l.prog w K mg base 2 "_law_of" ["_law_box_here", "_law_some"] spOf := ok__law_of F2 (PySem.W.mg_of X G a2) b2 m_len D__law_take
  have F3 := fun_mk (st := s__law_row) l3 c3 k3
  have b3 := F3.binds (ps := ["_law_box_here", "_law_most"]) fun _ _ _ _ _ _ => bdn2 fun _ _ => rfl
  have D__law_row : Def l.prog w K mg base 2 "_law_row" ["_law_box_here", "_law_most"] spRow := ok__law_row F3 (PySem.W.mg_of X G a3) b3 m_range m_min m_tuple m_len D__law_take
  have F4 := fun_mk (st := s__law_loop) l4 c4 k4
  have b4 := F4.binds (ps := ["_law_box_here", "_law_most", "_law_homes"]) fun _ _ _ _ _ _ => bdn3 fun _ _ _ => rfl
  have D__law_loop : Def l.prog w K mg base 3 "_law_loop" ["_law_box_here", "_law_most", "_law_homes"] spLoop := ok__law_loop F4 (PySem.W.mg_of X G a4) b4 m_tuple m_enumerate m_len D__law_take D__law_row
  have F5 := fun_mk (st := s__law_plan) l5 c5 k5
  have b5 := F5.binds (ps := ["_law_box_here", "_law_most"]) fun _ _ _ _ _ _ => bdn2 fun _ _ => rfl
  have D__law_plan : Def l.prog w K mg base 3 "_law_plan" ["_law_box_here", "_law_most"] spPlan := ok__law_plan F5 (PySem.W.mg_of X G a5) b5 m_min D__law_of D__law_take
  have F6 := fun_mk (st := s_steady_history) l6 c6 k6
  have b6 := F6.binds (ps := ["trace", "scheme", "position"]) fun _ _ _ _ _ _ => bdn3 fun _ _ _ => rfl
  have D_steady_history : Def l.prog w K mg base 1 "steady_history" ["trace", "scheme", "position"] spSteady := ok_steady_history F6 (PySem.W.mg_of X G a6) b6 c_OWN m_str m_len
  have F7 := fun_mk (st := s_fold) l7 c7 k7
  have b7 := F7.binds (ps := ["history", "bits", "branch"]) fun _ _ _ _ _ _ => bdn3 fun _ _ _ => rfl
  have D_fold : Def l.prog w K mg base 1 "fold" ["history", "bits", "branch"] spFold := ok_fold F7 (PySem.W.mg_of X G a7) b7 m_sum m_range c_ONE
  have F8 := fun_mk (st := s_cell_of) l8 c8 k8
  have b8 := F8.binds (ps := ["scheme", "branch", "history"]) fun _ _ _ _ _ _ => bdn3 fun _ _ _ => rfl
  have D_cell_of : Def l.prog w K mg base 2 "cell_of" ["scheme", "branch", "history"] spCell := ok_cell_of F8 (PySem.W.mg_of X G a8) b8 c_FOLDED c_SHARED D_fold
  have F9 := fun_mk (st := s_steady_cells) l9 c9 k9
  have b9 := F9.binds (ps := ["trace", "scheme"]) fun _ _ _ _ _ _ => bdn2 fun _ _ => rfl
  have D_steady_cells : Def l.prog w K mg base 3 "steady_cells" ["trace", "scheme"] spCells := ok_steady_cells F9 (PySem.W.mg_of X G a9) b9 m_range m_len m_tuple D_steady_history D_cell_of
  have F10 := fun_mk (st := s_groups) l10 c10 k10
  have b10 := F10.binds (ps := ["trace", "scheme"]) fun _ _ _ _ _ _ => bdn2 fun _ _ => rfl
  have D_groups : Def l.prog w K mg base 4 "groups" ["trace", "scheme"] spGroups := ok_groups F10 (PySem.W.mg_of X G a10) b10 m_enumerate m_tuple m_sorted D_steady_cells
  have F11 := fun_mk (st := s__law_folded) l11 c11 k11
  have b11 := F11.binds (ps := ["_law_past_here", "_law_width", "_law_home"]) fun _ _ _ _ _ _ => bdn3 fun _ _ _ => rfl
  have D__law_folded : Def l.prog w K mg base 1 "_law_folded" ["_law_past_here", "_law_width", "_law_home"] spFold := ok__law_folded F11 (PySem.W.mg_of X G a11) b11 m_int
  have F12 := fun_mk (st := s__law_cell) l12 c12 k12
  have b12 := F12.binds (ps := ["_law_plan_here", "_law_home", "_law_past_here"]) fun _ _ _ _ _ _ => bdn3 fun _ _ _ => rfl
  have D__law_cell : Def l.prog w K mg base 2 "_law_cell" ["_law_plan_here", "_law_home", "_law_past_here"] spCell := ok__law_cell F12 (PySem.W.mg_of X G a12) b12 D__law_folded
  have F13 := fun_mk (st := s__law_past) l13 c13 k13
  have b13 := F13.binds (ps := ["_law_loop_here", "_law_plan_here", "_law_time"]) fun _ _ _ _ _ _ => bdn3 fun _ _ _ => rfl
  have D__law_past : Def l.prog w K mg base 1 "_law_past" ["_law_loop_here", "_law_plan_here", "_law_time"] spPast := ok__law_past F13 (PySem.W.mg_of X G a13) b13 m_len m_str
  have F14 := fun_mk (st := s__law_steady) l14 c14 k14
  have b14 := F14.binds (ps := ["_law_loop_here", "_law_plan_here"]) fun _ _ _ _ _ _ => bdn2 fun _ _ => rfl
  have D__law_steady : Def l.prog w K mg base 3 "_law_steady" ["_law_loop_here", "_law_plan_here"] spLawSteady := ok__law_steady F14 (PySem.W.mg_of X G a14) b14 m_len m_enumerate D__law_cell D__law_past
  have F15 := fun_mk (st := s_sides) l15 c15 k15
  have b15 := F15.binds (ps := ["trace", "positions"]) fun _ _ _ _ _ _ => bdn2 fun _ _ => rfl
  have D_sides : Def l.prog w K mg base 1 "sides" ["trace", "positions"] spSides := ok_sides F15 (PySem.W.mg_of X G a15) b15 m_tuple
  have F16 := fun_mk (st := s_sides_of) l16 c16 k16
  have b16 := F16.binds (ps := ["trace", "scheme"]) fun _ _ _ _ _ _ => bdn2 fun _ _ => rfl
  have D_sides_of : Def l.prog w K mg base 5 "sides_of" ["trace", "scheme"] spSidesOf := ok_sides_of F16 (PySem.W.mg_of X G a16) b16 D_groups D_sides
  have F17 := fun_mk (st := s_fewest_errors) l17 c17 k17
  have b17 := F17.binds (ps := ["trace", "scheme"]) fun _ _ _ _ _ _ => bdn2 fun _ _ => rfl
  have D_fewest_errors : Def l.prog w K mg base 6 "fewest_errors" ["trace", "scheme"] spFew := ok_fewest_errors F17 (PySem.W.mg_of X G a17) b17 m_sum m_min m_len D_sides_of
  have F18 := fun_mk (st := s_best_table) l18 c18 k18
  have b18 := F18.binds (ps := ["trace", "scheme"]) fun _ _ _ _ _ _ => bdn2 fun _ _ => rfl
  have D_best_table : DefM l.prog w K mg base 6 "best_table" ["trace", "scheme"] spBest := ok_best_table F18 (PySem.W.mg_of X G a18) b18 m_tuple m_int m_len D_sides_of
  have F19 := fun_mk (st := s_table_errors) l19 c19 k19
  have b19 := F19.binds (ps := ["trace", "scheme", "table"]) fun _ _ _ _ _ _ => bdn3 fun _ _ _ => rfl
  have D_table_errors : DefM l.prog w K mg base 5 "table_errors" ["trace", "scheme", "table"] (spTE l.prog w) := ok_table_errors F19 (PySem.W.mg_of X G a19) b19 m_len m_dict D_groups
  have F20 := fun_mk (st := s_forced) l20 c20 k20
  have b20 := F20.binds (ps := ["trace", "scheme"]) fun _ _ _ _ _ _ => bdn2 fun _ _ => rfl
  have D_forced : Def l.prog w K mg base 6 "forced" ["trace", "scheme"] spForced := ok_forced F20 (PySem.W.mg_of X G a20) b20 m_zip m_max m_min m_tuple m_sorted D_sides_of
  have F21 := fun_mk (st := s__law_tables) l21 c21 k21
  have b21 := F21.binds (ps := ["_law_box_here", "_law_cells"]) fun _ _ _ _ _ _ => bdn2 fun _ _ => rfl
  have D__law_tables : DefM l.prog w K mg base 2 "_law_tables" ["_law_box_here", "_law_cells"] spTabs := ok__law_tables F21 (PySem.W.mg_of X G a21) b21 m_len m_range m_tuple m_sorted m_set D__law_take
  have F22 := fun_mk (st := s__law_table_right) l22 c22 k22
  have b22 := F22.binds (ps := ["_law_loop_here", "_law_plan_here", "_law_cells", "_law_some", "_law_pairs", "_law_least"]) fun _ _ _ _ _ _ => bdn6 fun _ _ _ _ _ _ => rfl
  have D__law_table_right : DefM l.prog w K mg base 6 "_law_table_right" ["_law_loop_here", "_law_plan_here", "_law_cells", "_law_some", "_law_pairs", "_law_least"] (spTR l.prog w) := ok__law_table_right F22 (PySem.W.mg_of X G a22) b22 m_all m_len m_enumerate m_dict m_list D_table_errors
  have F23 := fun_mk (st := s__law_right) l23 c23 k23
  have b23 := F23.binds (ps := ["_law_box_here"]) fun _ _ _ _ _ _ => bdn1 fun _ => rfl
  have D__law_right : Def l.prog w K mg base 7 "_law_right" ["_law_box_here"] spRight := ok__law_right F23 (PySem.W.mg_of X G a23) b23 m_min m_len m_set m_all D_table_errors D__law_table_right D__law_tables D_best_table D_forced D_fewest_errors D__law_steady D__law_plan D__law_loop
  have F24 := fun_mk (st := s_law) l24 c24 k24
  exact ok_law F24 m_range m_max m_min m_len m_all D__law_box D__law_right

end Lw
open PySem PySem.W PyProof.Rows in
set_option maxRecDepth 100000 in
set_option maxHeartbeats 0 in
theorem PySem.Challenge.cw_pastenough_k86_whole_no_fixed_table_is_b_holds : PySem.Challenge.rw_pastenough_k86_whole_no_fixed_table_is_b.Holds := by
  w_on; o_law; k_head; (case hw => w_witness2)
  k_fill
  refine Dl.walk_g (l := PySem.Challenge.rw_pastenough_k86_whole_no_fixed_table_is_b) (k := 8) (x := "_law_script") rfl rfl (by decide +kernel) ⟨rfl, by decide, by decide⟩ (fun w h Y => PySem.W.kIn_of Y) ?F
  case F =>
    intro w mg fa h KX G hmg
    refine' Lw.all_mk KX G hmg ?a0 ?l0 ?c0 ?k0 ?a1 ?l1 ?c1 ?k1 ?a2 ?l2 ?c2 ?k2 ?a3 ?l3 ?c3 ?k3 ?a4 ?l4 ?c4 ?k4 ?a5 ?l5 ?c5 ?k5 ?a6 ?l6 ?c6 ?k6 ?a7 ?l7 ?c7 ?k7 ?a8 ?l8 ?c8 ?k8 ?a9 ?l9 ?c9 ?k9 ?a10 ?l10 ?c10 ?k10 ?a11 ?l11 ?c11 ?k11 ?a12 ?l12 ?c12 ?k12 ?a13 ?l13 ?c13 ?k13 ?a14 ?l14 ?c14 ?k14 ?a15 ?l15 ?c15 ?k15 ?a16 ?l16 ?c16 ?k16 ?a17 ?l17 ?c17 ?k17 ?a18 ?l18 ?c18 ?k18 ?a19 ?l19 ?c19 ?k19 ?a20 ?l20 ?c20 ?k20 ?a21 ?l21 ?c21 ?k21 ?a22 ?l22 ?c22 ?k22 ?a23 ?l23 ?c23 ?k23 ?a24 ?l24 ?c24 ?k24 ?z_len ?z_abs ?z_int ?z_range ?z_min ?z_tuple ?z_enumerate ?z_OWN ?z_str ?z_sum ?z_ONE ?z_FOLDED ?z_SHARED ?z_sorted ?z_dict ?z_zip ?z_max ?z_set ?z_all ?z_list
    (case a0 => k_is)
    (case l0 => k_is)
    (case c0 => k_is)
    (case k0 => k_is)
    (case a1 => k_is)
    (case l1 => k_is)
    (case c1 => k_is)
    (case k1 => k_is)
    (case a2 => k_is)
    (case l2 => k_is)
    (case c2 => k_is)
    (case k2 => k_is)
    (case a3 => k_is)
    (case l3 => k_is)
    (case c3 => k_is)
    (case k3 => k_is)
    (case a4 => k_is)
    (case l4 => k_is)
    (case c4 => k_is)
    (case k4 => k_is)
    (case a5 => k_is)
    (case l5 => k_is)
    (case c5 => k_is)
    (case k5 => k_is)
    (case a6 => k_is)
    (case l6 => k_is)
    (case c6 => k_is)
    (case k6 => k_is)
    (case a7 => k_is)
    (case l7 => k_is)
    (case c7 => k_is)
    (case k7 => k_is)
    (case a8 => k_is)
    (case l8 => k_is)
    (case c8 => k_is)
    (case k8 => k_is)
    (case a9 => k_is)
    (case l9 => k_is)
    (case c9 => k_is)
    (case k9 => k_is)
    (case a10 => k_is)
    (case l10 => k_is)
    (case c10 => k_is)
    (case k10 => k_is)
    (case a11 => k_is)
    (case l11 => k_is)
    (case c11 => k_is)
    (case k11 => k_is)
    (case a12 => k_is)
    (case l12 => k_is)
    (case c12 => k_is)
    (case k12 => k_is)
    (case a13 => k_is)
    (case l13 => k_is)
    (case c13 => k_is)
    (case k13 => k_is)
    (case a14 => k_is)
    (case l14 => k_is)
    (case c14 => k_is)
    (case k14 => k_is)
    (case a15 => k_is)
    (case l15 => k_is)
    (case c15 => k_is)
    (case k15 => k_is)
    (case a16 => k_is)
    (case l16 => k_is)
    (case c16 => k_is)
    (case k16 => k_is)
    (case a17 => k_is)
    (case l17 => k_is)
    (case c17 => k_is)
    (case k17 => k_is)
    (case a18 => k_is)
    (case l18 => k_is)
    (case c18 => k_is)
    (case k18 => k_is)
    (case a19 => k_is)
    (case l19 => k_is)
    (case c19 => k_is)
    (case k19 => k_is)
    (case a20 => k_is)
    (case l20 => k_is)
    (case c20 => k_is)
    (case k20 => k_is)
    (case a21 => k_is)
    (case l21 => k_is)
    (case c21 => k_is)
    (case k21 => k_is)
    (case a22 => k_is)
    (case l22 => k_is)
    (case c22 => k_is)
    (case k22 => k_is)
    (case a23 => k_is)
    (case l23 => k_is)
    (case c23 => k_is)
    (case k23 => k_is)
    (case a24 => k_is)
    (case l24 => k_is)
    (case c24 => k_is)
    (case k24 => k_is)
    (case z_len => k_is)
    (case z_abs => k_is)
    (case z_int => k_is)
    (case z_range => k_is)
    (case z_min => k_is)
    (case z_tuple => k_is)
    (case z_enumerate => k_is)
    (case z_OWN => k_is)
    (case z_str => k_is)
    (case z_sum => k_is)
    (case z_ONE => k_is)
    (case z_FOLDED => k_is)
    (case z_SHARED => k_is)
    (case z_sorted => k_is)
    (case z_dict => k_is)
    (case z_zip => k_is)
    (case z_max => k_is)
    (case z_set => k_is)
    (case z_all => k_is)
    (case z_list => k_is)
#print axioms PySem.Challenge.cw_pastenough_k86_whole_no_fixed_table_is_b_holds
