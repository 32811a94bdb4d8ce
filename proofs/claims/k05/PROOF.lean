import PyProof.Rows.All
import Wide.All
import OpenK.AllK
import Wide.FinOn
import HandS.ForMost
import HandS.EndBits
import HandS.Wide
import HandS.WideBits
import HandS.Flow
import HandS.Strs
import HandS.Style
import HandS.TupLe
import HandS.TupAny
import HandS.TupMul
import HandS.IsInst
import HandS.RaiseMore
import HandS.Zip
import HandS.StrMore
import HandS.Conv
import HandS.Deep
import PyProof.ReprRoads
import KE.GoesMore
import KE.GoesEnum
import PyProof.Rows.StrRev
import KE.KRevSl
import HandS.Text
import PyProof.Rows.RegReprOcc
import HandS.GenList
import HandS.Defaults
import HandS.SetFor
import PyProof.Rows.SetFrom
import PyProof.SetRoads
import KE.KDictCopyH
import HandS.Star
import KE.GoesZip
import PyProof.ListNew
import HandS.TupSets
import KE.KDictKeyed
import KE.SortData
import KE.KDictLaws
import KE.KDictSum
import HandS.ExcValue
import HandS.ExcOwn
import KE.KDictWalk
import KE.KDictPairs
import KE.KUnpackStar
import HandS.SetKeys
import HandS.TryOnly
import HandS.ExcInit
import HandS.ExcField
import HandS.FStr
import PyProof.TupleOfGen
import HandS.DictComp
import HandS.WordsExc
import KE.KExcIs
import KE.DatumOrd
import HandS.TupLen
import HandS.Property
import KE.KSetDisp
import HandS.SetBool
import PySem.Challenge.RW_pastenough_k05_exceptions_made
set_option Elab.async false
set_option linter.all false
set_option maxRecDepth 100000
set_option maxHeartbeats 4000000
/-! Data level over the hand layer: values as data, boxes of draws, owned lists. -/
namespace Dl
open PySem L2

/-! ### data: the kit's, and dicts with texts as keys -/
mutual
inductive Dp (K : PySem.W.Frag) (H : Hp) : V → PyData → Prop
  | non : Dp K H .non .none
  | bl (b : Bool) : Dp K H (.bl b) (.bool b)
  | int (i : Int) : Dp K H (.int i) (.int i)
  | str (x : Str) : Dp K H (.str x) (.str x)
  | lst {a : Addr} {xs : List V} {ds : List PyData} : SqL K H a xs → DpAll K H xs ds → Dp K H (.ref a) (.list ds)
  | tup {a : Addr} {xs : List V} {ds : List PyData} : SqT K H a xs → DpAll K H xs ds → Dp K H (.ref a) (.tuple ds)
  | dic {a : Addr} {kv : List (Str × V)} {kvs : List (PyData × PyData)} : H a = some (.dK (kv.map fun p => (Sum.inr p.1, p.2))) → kvs.map (·.1) = kv.map (fun p => PyData.str p.1) → DpAll K H (kv.map (·.2)) (kvs.map (·.2)) → Dp K H (.ref a) (.dict kvs)
inductive DpAll (K : PySem.W.Frag) (H : Hp) : List V → List PyData → Prop
  | nil : DpAll K H [] []
  | cons {v : V} {vs : List V} {d : PyData} {ds : List PyData} : Dp K H v d → DpAll K H vs ds → DpAll K H (v :: vs) (d :: ds)
end
mutual
/-- without dicts it is the kit's -/
theorem Dp.kit {K : PySem.W.Frag} {H : Hp} : ∀ {x : PyData} {v : V}, x.hasDict = false → Dp K H v x → L2.Dp K H v x
  | .none, _, _, h => by cases h; exact .non
  | .bool b, _, _, h => by cases h; exact .bl b
  | .int i, _, _, h => by cases h; exact .int i
  | .str s, _, _, h => by cases h; exact .str s
  | .list xs, _, d, h => by
    cases h with
    | lst h1 h2 => exact .lst h1 (DpAll.kit (by unfold PyData.hasDict at d; exact d) h2)
  | .tuple xs, _, d, h => by
    cases h with
    | tup h1 h2 => exact .tup h1 (DpAll.kit (by unfold PyData.hasDict at d; exact d) h2)
  | .dict kvs, _, d, h => by unfold PyData.hasDict at d; cases d
theorem DpAll.kit {K : PySem.W.Frag} {H : Hp} : ∀ {xs : List PyData} {vs : List V}, PyData.hasDictAll xs = false → DpAll K H vs xs → L2.DpAll K H vs xs
  | [], _, _, h => by cases h; exact .nil
  | x :: xs, _, d, h => by
    unfold PyData.hasDictAll at d
    rw [Bool.or_eq_false_iff] at d
    cases h with
    | cons h1 h2 => exact .cons (Dp.kit d.1 h1) (DpAll.kit d.2 h2)
end
mutual
theorem shp_nd : ∀ x : PyData, PyData.canLay0 x = true → x.hasDict = false
  | .none, _ => rfl
  | .bool _, _ => rfl
  | .int _, _ => rfl
  | .str _, _ => rfl
  | .list xs, h => by unfold PyData.hasDict; exact shp_ndA xs h
  | .tuple xs, h => by unfold PyData.hasDict; exact shp_ndA xs h
  | .dict kvs, h => by cases h
theorem shp_ndA : ∀ xs : List PyData, PyData.canLayAll0 xs = true → PyData.hasDictAll xs = false
  | [], _ => rfl
  | x :: xs, h => by
    unfold PyData.canLayAll0 at h
    rw [Bool.and_eq_true] at h
    unfold PyData.hasDictAll
    rw [shp_nd x h.1, shp_ndA xs h.2]
    rfl
end
theorem shaped_nd {x : PyData} (h : SeqAt.shaped x = true) : x.hasDict = false := by
  unfold SeqAt.shaped at h
  rw [Bool.and_eq_true] at h
  exact shp_nd x h.1
/-- a thing of one's own that is no list: what stands at its address -/
structure OwnT where
  rel : PySem.W.Frag → Hp → Addr → HO → Prop
  mono : ∀ {K : PySem.W.Frag} {B B' : Hp} {a : Addr} {o : HO}, Same B B' → rel K B a o → rel K B' a o
inductive RV where
  | d (x : PyData)
  | new (xs : List PyData)
  | bor (xs : List PyData)
  | box
  | nbox
  | own (T : OwnT)
  | obj (a : Addr)
/-- a thing of one's own -/
noncomputable def isOwn : RV → Prop
  | .new _ => True
  | .own _ => True
  | _ => False

/-! ### heaps -/
theorem seqT {K : PySem.W.Frag} {H H' : Hp} {a : Addr} {xs : List V} (e : Same H H') (h : SqT K H a xs) : SqT K H' a xs := by
  rcases h with (h | ⟨o, h⟩) | h
  · exact .inl (.inl (e _ _ h))
  · exact .inl (.inr ⟨o, e _ _ h⟩)
  · exact .inr h
mutual
theorem dpS {K : PySem.W.Frag} {B B' : Hp} (e : Same B B') : ∀ {v : V} {x : PyData}, Dp K B v x → Dp K B' v x
  | _, _, .non => .non
  | _, _, .bl b => .bl b
  | _, _, .int i => .int i
  | _, _, .str s => .str s
  | _, _, .lst h1 h2 => .lst (e.seq h1) (dpSA e h2)
  | _, _, .tup h1 h2 => .tup (seqT e h1) (dpSA e h2)
  | _, _, .dic h1 h2 h3 => .dic (e _ _ h1) h2 (dpSA e h3)
theorem dpSA {K : PySem.W.Frag} {B B' : Hp} (e : Same B B') : ∀ {vs : List V} {xs : List PyData}, DpAll K B vs xs → DpAll K B' vs xs
  | _, _, .nil => .nil
  | _, _, .cons h1 h2 => .cons (dpS e h1) (dpSA e h2)
end
theorem dpSame {K : PySem.W.Frag} {B B' : Hp} (e : Same B B') (x : PyData) (v : V) (h : Dp K B v x) : Dp K B' v x := dpS e h
theorem dpSameAll {K : PySem.W.Frag} {B B' : Hp} (e : Same B B') (xs : List PyData) (vs : List V) (h : DpAll K B vs xs) : DpAll K B' vs xs := dpSA e h
theorem dpLen {K : PySem.W.Frag} {B : Hp} : ∀ (xs : List PyData) (vs : List V), DpAll K B vs xs → vs.length = xs.length
  | [], vs, h => by cases h; rfl
  | x :: xs, vs, h => by
    cases h with
    | cons h1 h2 =>
      rw [List.length_cons, List.length_cons, dpLen xs _ h2]
theorem dpGet {K : PySem.W.Frag} {B : Hp} : ∀ (xs : List PyData) (vs : List V) (i : Nat) (x : PyData), DpAll K B vs xs → xs[i]? = some x → ∃ v, vs[i]? = some v ∧ Dp K B v x
  | [], vs, i, x, h, e => by simp at e
  | y :: xs, vs, 0, x, h, e => by
    cases h with
    | cons h1 h2 =>
      have e' : y = x := Option.some.inj e
      subst e'
      exact ⟨_, rfl, h1⟩
  | y :: xs, vs, i + 1, x, h, e => by
    cases h with
    | cons h1 h2 =>
      obtain ⟨v, e1, e2⟩ := dpGet xs _ i x h2 (by simpa using e)
      exact ⟨v, by simpa using e1, e2⟩
theorem dpApp {K : PySem.W.Frag} {B : Hp} : ∀ (xs ys : List PyData) (vs us : List V), DpAll K B vs xs → DpAll K B us ys → DpAll K B (vs ++ us) (xs ++ ys)
  | [], ys, vs, us, h, g => by cases h; exact g
  | x :: xs, ys, vs, us, h, g => by
    cases h with
    | cons h1 h2 => exact .cons h1 (dpApp xs ys _ us h2 g)
theorem dpRep {K : PySem.W.Frag} {B : Hp} {xs : List PyData} {vs : List V} (h : DpAll K B vs xs) : ∀ n : Nat, DpAll K B (List.replicate n vs).flatten (List.replicate n xs).flatten
  | 0 => .nil
  | n + 1 => by
    rw [List.replicate_succ, List.replicate_succ, List.flatten_cons, List.flatten_cons]
    exact dpApp _ _ _ _ h (dpRep h n)
theorem dpInts {K : PySem.W.Frag} {B : Hp} : ∀ ns : List Int, DpAll K B (ns.map V.int) (ns.map PyData.int)
  | [] => .nil
  | n :: ns => .cons (.int n) (dpInts ns)
theorem ofInts {K : PySem.W.Frag} {B : Hp} : ∀ (ns : List Int) (vs : List V), DpAll K B vs (ns.map PyData.int) → vs = ns.map V.int
  | [], vs, h => by cases h; rfl
  | n :: ns, vs, h => by
    cases h with
    | cons h1 h2 =>
      cases h1
      rw [ofInts ns _ h2]
      rfl
theorem ofBools {K : PySem.W.Frag} {B : Hp} : ∀ (ns : List Bool) (vs : List V), DpAll K B vs (ns.map PyData.bool) → vs = ns.map V.bl
  | [], vs, h => by cases h; rfl
  | n :: ns, vs, h => by
    cases h with
    | cons h1 h2 =>
      cases h1
      rw [ofBools ns _ h2]
      rfl
/-! ### boxes -/
noncomputable def BoxAt (H : Hp) (b : Addr) (n : Nat) : Prop :=
  ∃ (o z : Int) (c : Nat), H b = some (.lst [.int o, .int z, .int (c : Int)]) ∧ 0 ≤ o ∧ o < 2 ^ 1000 ∧ 0 ≤ z ∧ z < 2 ^ 62 ∧ c ≤ n
theorem BoxAt.mono {H : Hp} {b : Addr} {n m : Nat} (h : BoxAt H b n) (e : n ≤ m) : BoxAt H b m := by
  obtain ⟨o, z, c, h1, h2, h3, h4, h5, h6⟩ := h
  exact ⟨o, z, c, h1, h2, h3, h4, h5, Nat.le_trans h6 e⟩
theorem BoxAt.ne {H : Hp} {b : Addr} {n : Nat} (h : BoxAt H b n) : H b ≠ none := by
  obtain ⟨o, z, c, h1, _⟩ := h
  rw [h1]
  exact fun q => nomatch q
theorem BoxAt.keep {H H' : Hp} {b : Addr} {n : Nat} (h : BoxAt H b n) (e : ∀ o, H b = some o → H' b = some o) : BoxAt H' b n := by
  obtain ⟨o, z, c, h1, h2⟩ := h
  exact ⟨o, z, c, e _ h1, h2⟩

/-! ### relations -/
noncomputable def ValR (K : PySem.W.Frag) (bxs : List Addr) (n : Nat) (B H : Hp) : RV → V → Prop
  | .d x, v => Dp K B v x
  | .new xs, v => ∃ p vs, v = .ref p ∧ p ∉ bxs ∧ B p = none ∧ H p = some (.lst vs) ∧ DpAll K B vs xs
  | .bor xs, v => ∃ p vs, v = .ref p ∧ p ∉ bxs ∧ B p = none ∧ H p = some (.lst vs) ∧ DpAll K B vs xs
  | .box, v => ∃ b, v = .ref b ∧ b ∈ bxs
  | .nbox, v => ∃ b, v = .ref b ∧ b ∉ bxs ∧ B b = none ∧ BoxAt H b n
  | .own T, v => ∃ p o, v = .ref p ∧ p ∉ bxs ∧ B p = none ∧ H p = some o ∧ T.rel K B p o
  | .obj a, v => v = .ref a
/-- what is new is new -/
noncomputable def FrR (H : Hp) : RV → V → Prop
  | .new _, v => ∃ p, v = .ref p ∧ H p = none
  | .nbox, v => ∃ p, v = .ref p ∧ H p = none
  | .own _, v => ∃ p, v = .ref p ∧ H p = none
  | _, _ => True
structure Good (bxs : List Addr) (n : Nat) (B H : Hp) : Prop where
  sub : Same B H
  box : ∀ b ∈ bxs, B b = none ∧ BoxAt H b n
structure Step (bxs : List Addr) (n n' : Nat) (B H B' H' : Hp) : Prop where
  b1 : Same B B'
  b2 : Same B' H'
  b3 : ∀ a, H a ≠ none → B' a = B a
  h1 : ∀ a o, a ∉ bxs → H a = some o → H' a = some o
  bx : ∀ b ∈ bxs, BoxAt H' b n'
  nn : n ≤ n'
section
variable {K : PySem.W.Frag} {bxs bxs' : List Addr} {n n1 n2 : Nat} {B H B1 H1 B2 H2 : Hp}
theorem Good.refl (g : Good bxs n B H) : Step bxs n n B H B H :=
  ⟨Same.refl _, g.sub, fun _ _ => rfl, fun _ _ _ h => h, fun b hb => (g.box b hb).2, Nat.le_refl _⟩
theorem Good.step (g : Good bxs n B H) (s : Step bxs n n1 B H B1 H1) : Good bxs n1 B1 H1 :=
  ⟨s.b2, fun b hb => ⟨by rw [s.b3 b (g.box b hb).2.ne]; exact (g.box b hb).1, s.bx b hb⟩⟩
theorem ne_none_of {H : Hp} {a : Addr} {o : HO} (h : H a = some o) : H a ≠ none := by
  rw [h]
  exact fun q => nomatch q
theorem Step.dom (s : Step bxs n n1 B H B1 H1) {a : Addr} (h : H a ≠ none) : H1 a ≠ none := by
  cases e : H a with
  | none => exact absurd e h
  | some o =>
    by_cases hb : a ∈ bxs
    · exact (s.bx a hb).ne
    · exact ne_none_of (s.h1 a o hb e)
theorem Step.free (s : Step bxs n n1 B H B1 H1) {a : Addr} (h : H1 a = none) : H a = none := by
  cases e : H a with
  | none => rfl
  | some o => exact absurd h (s.dom (ne_none_of e))
/-- a step of other boxes, that are ours or new, behind a step -/
theorem Step.then (s : Step bxs n n1 B H B1 H1) (t : Step bxs' n1 n2 B1 H1 B2 H2) (hb : ∀ b ∈ bxs', b ∈ bxs ∨ H b = none) (ho : ∀ b ∈ bxs, b ∈ bxs' ∨ ∀ o, H1 b = some o → H2 b = some o) : Step bxs n n2 B H B2 H2 where
  b1 := s.b1.trans t.b1
  b2 := t.b2
  b3 := fun a h => by rw [t.b3 a (s.dom h), s.b3 a h]
  h1 := fun a o ha h => t.h1 a o (fun q => by
    rcases hb a q with q | q
    · exact ha q
    · rw [h] at q; cases q) (s.h1 a o ha h)
  bx := fun b q => by
    rcases ho b q with z | z
    · exact t.bx b z
    · exact ((s.bx b q).keep z).mono t.nn
  nn := Nat.le_trans s.nn t.nn
theorem Step.trans (s : Step bxs n n1 B H B1 H1) (t : Step bxs n1 n2 B1 H1 B2 H2) : Step bxs n n2 B H B2 H2 :=
  s.then t (fun _ h => .inl h) fun _ h => .inl h
theorem ValR.step (s : Step bxs n n1 B H B1 H1) {r : RV} {v : V} (h : ValR K bxs n B H r v) : ValR K bxs n1 B1 H1 r v := by
  cases r with
  | d x => exact dpSame s.b1 x v h
  | new xs =>
    obtain ⟨p, vs, e, h1, h2, h3, h4⟩ := h
    exact ⟨p, vs, e, h1, by rw [s.b3 p (ne_none_of h3)]; exact h2, s.h1 p _ h1 h3, dpSameAll s.b1 xs vs h4⟩
  | bor xs =>
    obtain ⟨p, vs, e, h1, h2, h3, h4⟩ := h
    exact ⟨p, vs, e, h1, by rw [s.b3 p (ne_none_of h3)]; exact h2, s.h1 p _ h1 h3, dpSameAll s.b1 xs vs h4⟩
  | box => exact h
  | obj o0 => exact h
  | nbox =>
    obtain ⟨b, e, h1, h2, h3⟩ := h
    exact ⟨b, e, h1, by rw [s.b3 b h3.ne]; exact h2, (h3.keep fun o q => s.h1 b o h1 q).mono s.nn⟩
  | own T =>
    obtain ⟨p, o, e, h1, h2, h3, h4⟩ := h
    exact ⟨p, o, e, h1, by rw [s.b3 p (ne_none_of h3)]; exact h2, s.h1 p _ h1 h3, T.mono s.b1 h4⟩
/-- a new thing joins the data -/
theorem Step.add (s : Step bxs n n1 B H B1 H1) (g : Good bxs n B H) {p : Addr} {o : HO} (hp : H p = none) (ho : H1 p = some o) (hb : B1 p = none) : Step bxs n n1 B H (upd B1 p o) H1 where
  b1 := fun a u h => by
    by_cases e : a = p
    · subst e
      rw [g.sub a u h] at hp
      cases hp
    · rw [upd_ne e]
      exact s.b1 a u h
  b2 := fun a u h => by
    by_cases e : a = p
    · subst e
      rw [upd_same] at h
      cases h
      exact ho
    · rw [upd_ne e] at h
      exact s.b2 a u h
  b3 := fun a h => by
    have e : a ≠ p := fun q => h (by rw [q]; exact hp)
    rw [upd_ne e]
    exact s.b3 a h
  h1 := s.h1
  bx := s.bx
  nn := s.nn
theorem sub_add {p : Addr} {o : HO} (h : B p = none) : Same B (upd B p o) := fun a u e => by
  rw [upd_ne (ne_of_none e h)]
  exact e
/-- a new object of the heap that is data at once -/
theorem Step.lay (s : Step bxs n n1 B H B1 H1) (g : Good bxs n B H) {p : Addr} {o : HO} (hp : H1 p = none) : Step bxs n n1 B H (upd B1 p o) (upd H1 p o) where
  b1 := fun a u h => by
    have e : a ≠ p := fun q => by
      subst q
      rw [s.b2 a u (s.b1 a u h)] at hp
      cases hp
    rw [upd_ne e]
    exact s.b1 a u h
  b2 := fun a u h => by
    by_cases e : a = p
    · subst e
      rw [upd_same] at h
      rw [upd_same]
      exact h
    · rw [upd_ne e] at h
      rw [upd_ne e]
      exact s.b2 a u h
  b3 := fun a h => by
    have e : a ≠ p := fun q => s.dom h (by rw [q]; exact hp)
    rw [upd_ne e]
    exact s.b3 a h
  h1 := fun a u ha h => by
    have e : a ≠ p := fun q => s.dom (ne_none_of h) (by rw [q]; exact hp)
    rw [upd_ne e]
    exact s.h1 a u ha h
  bx := fun b hb => (s.bx b hb).keep fun u h => by
    rw [upd_ne (ne_of_none h hp)]
    exact h
  nn := s.nn
/-- a new object of the heap that is not data yet -/
theorem Step.lay0 (s : Step bxs n n1 B H B1 H1) {p : Addr} {o : HO} (hp : H1 p = none) : Step bxs n n1 B H B1 (upd H1 p o) where
  b1 := s.b1
  b2 := fun a u h => by
    have q := s.b2 a u h
    rw [upd_ne (ne_of_none q hp)]
    exact q
  b3 := s.b3
  h1 := fun a u ha h => by
    have e : a ≠ p := fun q => s.dom (ne_none_of h) (by rw [q]; exact hp)
    rw [upd_ne e]
    exact s.h1 a u ha h
  bx := fun b hb => (s.bx b hb).keep fun u h => by
    rw [upd_ne (ne_of_none h hp)]
    exact h
  nn := s.nn
end

/-! ### the environment -/
noncomputable abbrev DEnv := List (Option RV)
noncomputable def slotOk : RV → Prop
  | .bor _ => False
  | .nbox => False
  | _ => True
structure EnvR (K : PySem.W.Frag) (bxs : List Addr) (n : Nat) (B H : Hp) (σ : L2.St) (ρ : DEnv) : Prop where
  len : σ.length = ρ.length
  val : ∀ (i : Nat) (r : RV), ρ[i]? = some (some r) → ∃ v, σ[i]? = some (some v) ∧ ValR K bxs n B H r v
  own : ∀ (i j : Nat) (r r' : RV) (p : Addr), ρ[i]? = some (some r) → ρ[j]? = some (some r') → isOwn r → isOwn r' → σ[i]? = some (some (.ref p)) → σ[j]? = some (some (.ref p)) → i = j
  ok : ∀ (i : Nat) (r : RV), ρ[i]? = some (some r) → slotOk r
theorem EnvR.step {K : PySem.W.Frag} {bxs : List Addr} {n n1 : Nat} {B H B1 H1 : Hp} {σ : L2.St} {ρ : DEnv} (e : EnvR K bxs n B H σ ρ) (s : Step bxs n n1 B H B1 H1) : EnvR K bxs n1 B1 H1 σ ρ :=
  ⟨e.len, fun i r h => by
    obtain ⟨v, h1, h2⟩ := e.val i r h
    exact ⟨v, h1, h2.step s⟩, e.own, e.ok⟩

theorem ok_set {ρ : DEnv} {i : Nat} {r' : RV} (h : ∀ (i : Nat) (r : RV), ρ[i]? = some (some r) → slotOk r) (h' : slotOk r') : ∀ (j : Nat) (r : RV), (ρ.set i (some r'))[j]? = some (some r) → slotOk r := fun j r hj => by
  by_cases hij : i = j
  · subst hij
    have hi : i < ρ.length := by
      have := (List.getElem?_eq_some_iff.mp hj).1
      rwa [List.length_set] at this
    rw [List.getElem?_set_self hi] at hj
    cases hj
    exact h'
  · rw [List.getElem?_set_ne hij] at hj
    exact h j r hj
/-! ### readings -/
noncomputable abbrev DE := DEnv → Nat → (RV → Nat → Prop) → Prop
noncomputable abbrev DA := DEnv → Nat → (List RV → Nat → Prop) → Prop
noncomputable abbrev DT := DEnv → Nat → (Bool → Nat → Prop) → Prop
noncomputable abbrev DSp := List RV → Nat → (RV → Nat → Prop) → Prop

noncomputable def up (K : PySem.W.Frag) (w : DE) : TE := fun σ H Q => ∃ (ρ : DEnv) (n : Nat) (B : Hp) (bxs : List Addr) (Qd : RV → Nat → Prop),
  Good bxs n B H ∧ EnvR K bxs n B H σ ρ ∧ w ρ n Qd ∧
    ∀ r n1 v B1 H1, Qd r n1 → Step bxs n n1 B H B1 H1 → ValR K bxs n1 B1 H1 r v → FrR H r v → Q v H1
noncomputable def upT (K : PySem.W.Frag) (w : DT) : TT := fun σ H Q => ∃ (ρ : DEnv) (n : Nat) (B : Hp) (bxs : List Addr) (Qd : Bool → Nat → Prop),
  Good bxs n B H ∧ EnvR K bxs n B H σ ρ ∧ w ρ n Qd ∧
    ∀ b n1 B1 H1, Qd b n1 → Step bxs n n1 B H B1 H1 → Q b H1
/-- arguments: new lists have become data -/
noncomputable def ValsR (K : PySem.W.Frag) (bxs : List Addr) (n : Nat) (B H : Hp) : List RV → List V → Prop
  | [], [] => True
  | r :: rs, v :: vs => ValR K bxs n B H r v ∧ ValsR K bxs n B H rs vs
  | _, _ => False
noncomputable def FrsR (H : Hp) : List RV → List V → Prop
  | r :: rs, v :: vs => FrR H r v ∧ FrsR H rs vs
  | _, _ => True
noncomputable def upA (K : PySem.W.Frag) (w : DA) : TA := fun σ H Q => ∃ (ρ : DEnv) (n : Nat) (B : Hp) (bxs : List Addr) (Qd : List RV → Nat → Prop),
  Good bxs n B H ∧ EnvR K bxs n B H σ ρ ∧ w ρ n Qd ∧
    ∀ rs n1 vs B1 H1, Qd rs n1 → Step bxs n n1 B H B1 H1 → ValsR K bxs n1 B1 H1 rs vs → FrsR H rs vs → Q vs H1
theorem ValsR.step {K : PySem.W.Frag} {bxs : List Addr} {n n1 : Nat} {B H B1 H1 : Hp} (s : Step bxs n n1 B H B1 H1) : ∀ {rs : List RV} {vs : List V}, ValsR K bxs n B H rs vs → ValsR K bxs n1 B1 H1 rs vs
  | [], [], _ => trivial
  | _ :: _, _ :: _, h => ⟨h.1.step s, ValsR.step s h.2⟩
  | [], _ :: _, h => h.elim
  | _ :: _, [], h => h.elim

/-- how a thing looks when it is only read -/
noncomputable def view : RV → Option PyData
  | .d x => some x
  | .new xs => some (.list xs)
  | .bor xs => some (.list xs)
  | .box => none
  | .nbox => none
  | .own _ => none
  | .obj _ => none
/-- read, while a list of one's own may stand outside the data -/
noncomputable def DpV (K : PySem.W.Frag) (B H : Hp) (v : V) (x : PyData) : Prop :=
  Dp K B v x ∨ ∃ p vs xs, v = .ref p ∧ x = .list xs ∧ H p = some (.lst vs) ∧ DpAll K B vs xs
section
variable {K : PySem.W.Frag} {bxs : List Addr} {n : Nat} {B H : Hp} {v : V} {x : PyData}
theorem view_r {r : RV} (h : ValR K bxs n B H r v) (e : view r = some x) : DpV K B H v x := by
  cases r with
  | d y => cases e; exact .inl h
  | new xs =>
    cases e
    obtain ⟨p, vs, e, h1, h2, h3, h4⟩ := h
    exact .inr ⟨p, vs, xs, e, rfl, h3, h4⟩
  | bor xs =>
    cases e
    obtain ⟨p, vs, e, h1, h2, h3, h4⟩ := h
    exact .inr ⟨p, vs, xs, e, rfl, h3, h4⟩
  | box => cases e
  | obj o0 => cases e
  | nbox => cases e
  | own T => cases e
theorem DpV.dp (h : DpV K B H v x) (s : Same B H) : Dp K H v x := by
  rcases h with h | ⟨p, vs, xs, rfl, rfl, h1, h2⟩
  · exact dpSame s x v h
  · exact .lst (.inl (.inl h1)) (dpSameAll s xs vs h2)
theorem DpV.int {i : Int} (h : DpV K B H v (.int i)) : v = .int i := by
  rcases h with h | ⟨p, vs, xs, _, e, _⟩
  · cases h; rfl
  · cases e
theorem DpV.str {i : Str} (h : DpV K B H v (.str i)) : v = .str i := by
  rcases h with h | ⟨p, vs, xs, _, e, _⟩
  · cases h; rfl
  · cases e
theorem DpV.bool {i : Bool} (h : DpV K B H v (.bool i)) : v = .bl i := by
  rcases h with h | ⟨p, vs, xs, _, e, _⟩
  · cases h; rfl
  · cases e
theorem DpV.none (h : DpV K B H v .none) : v = .non := by
  rcases h with h | ⟨p, vs, xs, _, e, _⟩
  · cases h; rfl
  · cases e
theorem DpV.list {xs : List PyData} (h : DpV K B H v (.list xs)) (s : Same B H) : ∃ p vs, v = .ref p ∧ SqL K H p vs ∧ DpAll K B vs xs := by
  rcases h with h | ⟨p, vs, ys, rfl, e, h1, h2⟩
  · cases h with
    | lst h1 h2 => exact ⟨_, _, rfl, s.seq h1, h2⟩
  · cases e
    exact ⟨p, vs, rfl, .inl (.inl h1), h2⟩
theorem DpV.tuple {xs : List PyData} (h : DpV K B H v (.tuple xs)) (s : Same B H) : ∃ p vs, v = .ref p ∧ SqT K H p vs ∧ DpAll K B vs xs := by
  rcases h with h | ⟨p, vs, ys, rfl, e, h1, h2⟩
  · cases h with
    | tup h1 h2 => exact ⟨_, _, rfl, seqT s h1, h2⟩
  · cases e
end
/-- a new list that becomes data -/
noncomputable def fixR : RV → RV
  | .new xs => .d (.list xs)
  | r => r
theorem fix_r {K : PySem.W.Frag} {bxs : List Addr} {n n1 : Nat} {B H B1 H1 : Hp} {r : RV} {v : V} (g : Good bxs n B H) (s : Step bxs n n1 B H B1 H1) (h : ValR K bxs n1 B1 H1 r v) (f : FrR H r v) :
    ∃ B2, Step bxs n n1 B H B2 H1 ∧ ValR K bxs n1 B2 H1 (fixR r) v ∧ Same B1 B2 := by
  cases r with
  | d x => exact ⟨B1, s, h, Same.refl _⟩
  | bor xs => exact ⟨B1, s, h, Same.refl _⟩
  | box => exact ⟨B1, s, h, Same.refl _⟩
  | obj o0 => exact ⟨B1, s, h, Same.refl _⟩
  | nbox => exact ⟨B1, s, h, Same.refl _⟩
  | own T => exact ⟨B1, s, h, Same.refl _⟩
  | new xs =>
    obtain ⟨p, vs, rfl, h1, h2, h3, h4⟩ := h
    obtain ⟨q, e, f⟩ := f
    cases e
    refine ⟨upd B1 p (.lst vs), s.add g f h3 h2, ?_, sub_add h2⟩
    exact .lst (.inl (.inl upd_same)) (dpSameAll (sub_add h2) xs vs h4)
end Dl

namespace Dl
open PySem L2

/-! ### judgements -/
noncomputable abbrev LE (X : Cx) (e : Expr) (w : DE) : Prop := PE X e (up X.K w)
noncomputable abbrev LT (X : Cx) (e : Expr) (w : DT) : Prop := PT X e (upT X.K w)
noncomputable abbrev LA (X : Cx) (es : List Expr) (w : DA) : Prop := PA X es (upA X.K w)
theorem pe_imp {X : Cx} {e : Expr} {t t' : TE} (h : PE X e t) (i : ∀ σ H Q, t' σ H Q → t σ H Q) : PE X e t' := ⟨fun pins s σ H Q I q => h.run pins s σ H Q I (i σ H Q q)⟩
theorem pt_imp {X : Cx} {e : Expr} {t t' : TT} (h : PT X e t) (i : ∀ σ H Q, t' σ H Q → t σ H Q) : PT X e t' := ⟨fun pins s σ H Q I q => h.run pins s σ H Q I (i σ H Q q)⟩
theorem pa_imp {X : Cx} {e : List Expr} {t t' : TA} (h : PA X e t) (i : ∀ σ H Q, t' σ H Q → t σ H Q) : PA X e t' := ⟨fun p pins s σ H Q I q => h.run p pins s σ H Q I (i σ H Q q)⟩

/-! ### names, constants -/
noncomputable def dVar (i : Nat) : DE := fun ρ n Q => match ρ[i]? with
  | some (some (.d x)) => Q (.d x) n
  | some (some (.new xs)) => Q (.bor xs) n
  | some (some .box) => Q .box n
  | some (some (.obj a)) => Q (.obj a) n
  | _ => False
noncomputable def dC (x : PyData) : DE := fun _ n Q => Q (.d x) n
section
variable {X : Cx}
theorem up_var {K : PySem.W.Frag} (i : Nat) (σ : L2.St) (H : Hp) (Q : VK) (h : up K (dVar i) σ H Q) : tVar i σ H Q := by
  obtain ⟨ρ, n, B, bxs, Qd, g, e, w, q⟩ := h
  unfold dVar at w
  cases e1 : ρ[i]? with
  | none =>
    rw [e1] at w
    exact w.elim
  | some o =>
    cases o with
    | none =>
      rw [e1] at w
      exact w.elim
    | some r =>
      obtain ⟨v, h1, h2⟩ := e.val i r e1
      rw [e1] at w
      refine ⟨v, h1, ?_⟩
      cases r with
      | d x => exact q _ _ v B H w g.refl h2 trivial
      | new xs => exact q _ _ v B H w g.refl h2 trivial
      | box => exact q _ _ v B H w g.refl h2 trivial
      | bor xs => exact w.elim
      | obj o0 => exact q _ _ v B H w g.refl h2 trivial
      | nbox => exact w.elim
      | own T => exact w.elim
theorem le_var (i : Nat) {x : Str} {pos : Pos} (hN : X.N[i]? = some x := by rfl) (hv : Vis X.env.scope x := by first | exact Or.inl rfl | exact Or.inr (Or.inl rfl) | exact Or.inr (Or.inr rfl)) (hd : (x == ("__debug__" : Str)) = false := by decide)
    (hcd : (x == ("__classdict__" : Str)) = false := by decide) : LE X (.Name x pos) (dVar i) := pe_imp (pe_var hN hv hd hcd) (up_var i)
theorem up_c {K : PySem.W.Frag} {v : V} {x : PyData} (h : ∀ B, Dp K B v x) (σ : L2.St) (H : Hp) (Q : VK) (hu : up K (dC x) σ H Q) : tC v σ H Q := by
  obtain ⟨ρ, n, B, bxs, Qd, g, e, w, q⟩ := hu
  exact q _ _ v B H w g.refl (h B) trivial
theorem le_int {i : Int} {j} {pos : Pos} : LE X (.Constant (.int i) j pos) (dC (.int i)) := pe_imp pe_int (up_c fun _ => .int i)
theorem le_bl {b : Bool} {j} {pos : Pos} : LE X (.Constant (.bool b) j pos) (dC (.bool b)) := pe_imp pe_bl (up_c fun _ => .bl b)
theorem le_non {j} {pos : Pos} : LE X (.Constant .none j pos) (dC .none) := pe_imp pe_non (up_c fun _ => .non)
theorem le_str {x : Str} {j} {pos : Pos} : LE X (.Constant (.str x) j pos) (dC (.str x)) := pe_imp pe_str (up_c fun _ => .str x)
end

/-! ### operators on two things that are read -/
noncomputable abbrev DOp := PyData → PyData → (RV → Prop) → Prop
noncomputable def LOp (X : Cx) (f : Value → Value → Sem Value) (w : DOp) : Prop := ∃ r : R2, OpR X f r ∧
  ∀ (bxs : List Addr) (n : Nat) (B H : Hp) (x y : PyData) (v u : V) (Qd : RV → Prop) (Q : VK), Good bxs n B H → DpV X.K B H v x → DpV X.K B H u y → w x y Qd →
    (∀ res v' B1 H1, Qd res → Step bxs n n B H B1 H1 → ValR X.K bxs n B1 H1 res v' → FrR H res v' → Q v' H1) → r v u H Q
noncomputable def vw2 (w : DOp) (r1 r2 : RV) (Q : RV → Prop) : Prop := match view r1, view r2 with
  | some x, some y => w x y Q
  | _, _ => False
theorem vw2_ex {w : DOp} {r1 r2 : RV} {Q : RV → Prop} (h : vw2 w r1 r2 Q) : ∃ x y, view r1 = some x ∧ view r2 = some y ∧ w x y Q := by
  unfold vw2 at h
  split at h
  · exact ⟨_, _, by assumption, by assumption, h⟩
  · exact h.elim
noncomputable def dOp (w : DOp) (wa wb : DE) : DE := fun ρ n Q => wa ρ n fun r1 n1 => wb ρ n1 fun r2 n2 => vw2 w r1 r2 fun r => Q r n2
section
variable {X : Cx} {a b : Expr} {wa wb : DE} {pos : Pos}
theorem FrR.back {bxs : List Addr} {n n1 : Nat} {B H B1 H1 : Hp} (s : Step bxs n n1 B H B1 H1) {r : RV} {v : V} (h : FrR H1 r v) : FrR H r v := by
  cases r with
  | new xs =>
    obtain ⟨p, e, q⟩ := h
    exact ⟨p, e, s.free q⟩
  | obj o0 => trivial
  | nbox =>
    obtain ⟨p, e, q⟩ := h
    exact ⟨p, e, s.free q⟩
  | own T =>
    obtain ⟨p, e, q⟩ := h
    exact ⟨p, e, s.free q⟩
  | d x => trivial
  | bor xs => trivial
  | box => trivial
theorem up_op {r : R2} {K : PySem.W.Frag} {w : DOp} (h : ∀ (bxs : List Addr) (n : Nat) (B H : Hp) (x y : PyData) (v u : V) (Qd : RV → Prop) (Q : VK), Good bxs n B H → DpV K B H v x → DpV K B H u y → w x y Qd →
    (∀ res v' B1 H1, Qd res → Step bxs n n B H B1 H1 → ValR K bxs n B1 H1 res v' → FrR H res v' → Q v' H1) → r v u H Q) (σ : L2.St) (H : Hp) (Q : VK) (hu : up K (dOp w wa wb) σ H Q) : tOp r (up K wa) (up K wb) σ H Q := by
  obtain ⟨ρ, n, B, bxs, Qd, g, e, w1, q⟩ := hu
  refine ⟨ρ, n, B, bxs, _, g, e, w1, fun r1 n1 v1 B1 H1 w2 s1 v1r f1 => ?_⟩
  refine ⟨ρ, n1, B1, bxs, _, g.step s1, e.step s1, w2, fun r2 n2 v2 B2 H2 w3 s2 v2r f2 => ?_⟩
  obtain ⟨x, y, ex, ey, w4⟩ := vw2_ex w3
  have s12 := s1.trans s2
  refine h bxs n2 B2 H2 x y v1 v2 _ Q (g.step s12) (view_r (v1r.step s2) ex) (view_r v2r ey) w4 fun res v' B3 H3 w5 s3 r3 f3 => ?_
  exact q _ _ v' B3 H3 w5 (s12.trans s3) r3 (f3.back s12)
theorem le_op {op : Operator} {w : DOp} (ho : LOp X (binaryOp op) w) (ha : LE X a wa) (hb : LE X b wb) : LE X (.BinOp a op b pos) (dOp w wa wb) := by
  obtain ⟨r, h1, h2⟩ := ho
  exact pe_imp (pe_op h1 ha hb) (up_op h2)
theorem le_cmp {op : CmpOp} {w : DOp} (ho : LOp X (compareOp op) w) (ha : LE X a wa) (hb : LE X b wb) (hm : behindInMarks op b = false) : LE X (.Compare a [op] [b] pos) (dOp w wa wb) := by
  obtain ⟨r, h1, h2⟩ := ho
  exact pe_imp (pe_cmpR h1 ha hb hm) (up_op h2)
theorem LOp.or {f : Value → Value → Sem Value} {w w' : DOp} (h : LOp X f w) (h' : LOp X f w') : LOp X f (fun x y Q => w x y Q ∨ w' x y Q) := by
  obtain ⟨r, h1, h2⟩ := h
  obtain ⟨r', h1', h2'⟩ := h'
  refine ⟨_, OpR.or h1 h1', fun bxs n B H x y v u Qd Q g dx dy hw k => ?_⟩
  rcases hw with hw | hw
  · exact .inl (h2 bxs n B H x y v u Qd Q g dx dy hw k)
  · exact .inr (h2' bxs n B H x y v u Qd Q g dx dy hw k)
theorem LOp.imp {f : Value → Value → Sem Value} {w w' : DOp} (h : LOp X f w) (i : ∀ x y Q, w' x y Q → w x y Q) : LOp X f w' := by
  obtain ⟨r, h1, h2⟩ := h
  exact ⟨r, h1, fun bxs n B H x y v u Qd Q g dx dy hw k => h2 bxs n B H x y v u Qd Q g dx dy (i _ _ _ hw) k⟩
/-- ints in, a plain value out -/
theorem lop_I {f : Value → Value → Sem Value} {C : Int → Int → Prop} {gz : Int → Int → V} {gd : Int → Int → PyData} (h : OpR X f (rI C gz)) (hz : ∀ (B : Hp) i j, Dp X.K B (gz i j) (gd i j)) :
    LOp X f (fun x y Q => ∃ i j, x = .int i ∧ y = .int j ∧ C i j ∧ Q (.d (gd i j))) :=
  ⟨_, h, fun bxs n B H x y v u Qd Q g dx dy ⟨i, j, ex, ey, c, w⟩ k => by
    subst ex ey
    exact ⟨i, j, dx.int, dy.int, c, k _ _ B H w g.refl (hz B i j) trivial⟩⟩
theorem lop_I0 {f : Value → Value → Sem Value} {gz : Int → Int → V} {gd : Int → Int → PyData} (h : OpR X f (rI0 gz)) (hz : ∀ (B : Hp) i j, Dp X.K B (gz i j) (gd i j)) :
    LOp X f (fun x y Q => ∃ i j, x = .int i ∧ y = .int j ∧ Q (.d (gd i j))) :=
  ⟨_, h, fun bxs n B H x y v u Qd Q g dx dy ⟨i, j, ex, ey, w⟩ k => by
    subst ex ey
    exact ⟨i, j, dx.int, dy.int, k _ _ B H w g.refl (hz B i j) trivial⟩⟩
theorem lop_S {f : Value → Value → Sem Value} {gz : Str → Str → V} {gd : Str → Str → PyData} (h : OpR X f (fun x y H Q => ∃ i j, x = .str i ∧ y = .str j ∧ Q (gz i j) H)) (hz : ∀ (B : Hp) i j, Dp X.K B (gz i j) (gd i j)) :
    LOp X f (fun x y Q => ∃ i j, x = .str i ∧ y = .str j ∧ Q (.d (gd i j))) :=
  ⟨_, h, fun bxs n B H x y v u Qd Q g dx dy ⟨i, j, ex, ey, w⟩ k => by
    subst ex ey
    exact ⟨i, j, dx.str, dy.str, k _ _ B H w g.refl (hz B i j) trivial⟩⟩

/-! ### + -/
noncomputable def rCatL (K : PySem.W.Frag) : R2 := fun x y H Q => ∃ l b xs zs, x = .ref l ∧ y = .ref b ∧ SqL K H l xs ∧ SqL K H b zs ∧ xs.length + zs.length ≤ sizeLine ∧ ∀ p, H p = none → Q (.ref p) (upd H p (.lst (xs ++ zs)))
theorem op_catL : OpR X (binaryOp .Add) (rCatL X.K) := by
  intro pins s σ H x y v u Q I rx ry h
  obtain ⟨l, b, xs, zs, rfl, rfl, hH, hB, hz, q⟩ := h
  cases rx
  cases ry
  obtain ⟨its, r, ⟨o1, n1, e1, c1, d1, t1⟩, z1⟩ := I.list hH
  obtain ⟨its2, r2, ⟨o2, n2, e2, c2, d2, t2⟩, z2⟩ := I.list hB
  obtain ⟨cls1, dd1, data1, sl1⟩ := o1
  obtain ⟨cls2, dd2, data2, sl2⟩ := o2
  simp only at c1 d1 t1 c2 d2 t2
  subst c1 t1 c2 t2
  have hl := r.length
  have hl2 := r2.length
  have ea : its.toArray ++ its2.toArray = (its ++ its2).toArray := by simp
  refine concat_meets ⟨_, e1, rfl⟩ ⟨_, e2, rfl⟩ noFill_list_add seq_list_add PySem.F.slot_list_add PySem.F.entry_list_add (PySem.F.args_list_add_2 _ _)
    (PyProof.Rows.list_addW l b its.toArray its2.toArray n1 n2 dd1 dd2 sl1 sl2 (by rw [List.size_toArray, List.size_toArray]; omega)) ⟨e1, e2, ?_⟩
  rw [ea]
  exact ⟨.ref _, _, I.lnew (t' := s.toks) (r.append r2) (by rw [List.length_append]; omega), rfl, q _ I.fresh⟩
noncomputable def wAdd : DOp := fun x y Q => match x, y with
  | .int i, .int j => Q (.d (.int (i + j)))
  | .str a, .str b => a.length + b.length ≤ sizeLine ∧ Q (.d (.str (a ++ b)))
  | .tuple xs, .tuple ys => xs.length + ys.length ≤ sizeLine ∧ Q (.d (.tuple (xs ++ ys)))
  | .list xs, .list ys => xs.length + ys.length ≤ sizeLine ∧ Q (.new (xs ++ ys))
  | _, _ => False
theorem lo_add : LOp X (binaryOp .Add) wAdd := by
  refine ⟨_, OpR.or op_add (OpR.or op_add_str (OpR.or op_catA op_catL)), fun bxs n B H x y v u Qd Q g dx dy w k => ?_⟩
  cases x <;> cases y <;> try exact w.elim
  · exact .inl ⟨_, _, dx.int, dy.int, k _ _ B H w g.refl (.int _) trivial⟩
  · exact .inr (.inl ⟨_, _, dx.str, dy.str, w.1, k _ _ B H w.2 g.refl (.str _) trivial⟩)
  · obtain ⟨p, vs, rfl, h1, h2⟩ := dx.list g.sub
    obtain ⟨q, us, rfl, h3, h4⟩ := dy.list g.sub
    refine .inr (.inr (.inr ⟨p, q, vs, us, rfl, rfl, h1, h3, by rw [dpLen _ _ h2, dpLen _ _ h4]; exact w.1, fun z hz => ?_⟩))
    have nb : z ∉ bxs := fun h => (g.box z h).2.ne hz
    have bz : B z = none := by
      cases e : B z with
      | none => rfl
      | some o => rw [g.sub z o e] at hz; cases hz
    exact k _ _ B _ w.2 (g.refl.lay0 hz) ⟨z, _, rfl, nb, bz, upd_same, dpApp _ _ _ _ h2 h4⟩ ⟨z, rfl, hz⟩
  · obtain ⟨p, vs, rfl, h1, h2⟩ := dx.tuple g.sub
    obtain ⟨q, us, rfl, h3, h4⟩ := dy.tuple g.sub
    refine .inr (.inr (.inl ⟨p, q, vs, us, rfl, rfl, h1, h3, by rw [dpLen _ _ h2, dpLen _ _ h4]; exact w.1, fun e => ?_, fun e1 e2 => ?_, fun e1 e2 z hz => ?_⟩))
    · subst e
      cases h2
      refine k _ _ B H w.2 g.refl ?_ trivial
      rcases dy with h | ⟨_, _, _, _, e, _⟩
      · exact h
      · cases e
    · subst e2
      cases h4
      refine k _ _ B H w.2 g.refl ?_ trivial
      rw [List.append_nil]
      rcases dx with h | ⟨_, _, _, _, e, _⟩
      · exact h
      · cases e
    · have bz : B z = none := by
        cases e : B z with
        | none => rfl
        | some o => rw [g.sub z o e] at hz; cases hz
      refine k _ _ _ _ w.2 (g.refl.lay g hz) ?_ trivial
      exact .tup (.inl (.inl upd_same)) (dpSameAll (sub_add bz) _ _ (dpApp _ _ _ _ h2 h4))
/-! ### numbers -/
noncomputable def wI (f : Int → Int → Int) : DOp := fun x y Q => match x, y with
  | .int i, .int j => Q (.d (.int (f i j)))
  | _, _ => False
noncomputable def wIC (C : Int → Int → Prop) (f : Int → Int → Int) : DOp := fun x y Q => match x, y with
  | .int i, .int j => C i j ∧ Q (.d (.int (f i j)))
  | _, _ => False
noncomputable def wB (f : Int → Int → Bool) : DOp := fun x y Q => match x, y with
  | .int i, .int j => Q (.d (.bool (f i j)))
  | _, _ => False
theorem lo_wIC {o : Value → Value → Sem Value} {C : Int → Int → Prop} {f : Int → Int → Int} (h : OpR X o (rI C fun i j => .int (f i j))) : LOp X o (wIC C f) := (lop_I (gd := fun i j => .int (f i j)) h fun B i j => .int _).imp fun x y Q w => by
  cases x <;> cases y <;> first | exact w.elim | exact ⟨_, _, rfl, rfl, w.1, w.2⟩
theorem lo_wB {o : Value → Value → Sem Value} {f : Int → Int → Bool} (h : OpR X o (rI0 fun i j => .bl (f i j))) : LOp X o (wB f) := (lop_I0 (gd := fun i j => .bool (f i j)) h fun B i j => .bl _).imp fun x y Q w => by
  cases x <;> cases y <;> first | exact w.elim | exact ⟨_, _, rfl, rfl, w⟩
theorem lo_mod : LOp X (binaryOp .Mod) (wIC (fun _ j => 0 < j) (· % ·)) := lo_wIC op_mod
noncomputable def wLt : DOp := fun x y Q => match x, y with
  | .int i, .int j => Q (.d (.bool (decide (i < j))))
  | .str i, .str j => Q (.d (.bool (decide (i.cps.toList < j.cps.toList))))
  | _, _ => False
theorem lo_lt : LOp X (compareOp .Lt) wLt := ((lop_I0 (gd := fun i j => .bool (decide (i < j))) op_lt fun B i j => .bl _).or (lop_S (gd := fun i j => .bool (decide (i.cps.toList < j.cps.toList))) op_lt_str fun B i j => .bl _)).imp fun x y Q w => by
  cases x <;> cases y <;> first | exact w.elim | exact .inl ⟨_, _, rfl, rfl, w⟩ | exact .inr ⟨_, _, rfl, rfl, w⟩
theorem lo_ge : LOp X (compareOp .GtE) (wB fun i j => decide (j ≤ i)) := lo_wB op_ge
/-! ### ==, != -/
/-- data compared as Python compares -/
noncomputable def wEq : DOp := fun x y Q => match x, y with
  | .int i, .int j => Q (.d (.bool (decide (i = j))))
  | .str i, .str j => Q (.d (.bool (decide (i = j))))
  | .bool i, .bool j => Q (.d (.bool (decide (i = j))))
  | x, y => SeqAt.shaped x = true ∧ SeqAt.shaped y = true ∧ Q (.d (.bool (PyData.eqv x y)))
noncomputable def wNe : DOp := fun x y Q => match x, y with
  | .int i, .int j => Q (.d (.bool (!decide (i = j))))
  | .str i, .str j => Q (.d (.bool (!decide (i = j))))
  | .bool i, .bool j => Q (.d (.bool (!decide (i = j))))
  | x, y => SeqAt.shaped x = true ∧ SeqAt.shaped y = true ∧ Q (.d (.bool (!PyData.eqv x y)))
theorem decV_int (i j : Int) : decide (V.int i = V.int j) = decide (i = j) := by
  by_cases h : i = j
  · rw [h, decide_eq_true rfl, decide_eq_true rfl]
  · rw [decide_eq_false h, decide_eq_false fun q => h (V.int.inj q)]
theorem decV_str (i j : Str) : decide (V.str i = V.str j) = decide (i = j) := by
  by_cases h : i = j
  · rw [h, decide_eq_true rfl, decide_eq_true rfl]
  · rw [decide_eq_false h, decide_eq_false fun q => h (V.str.inj q)]
theorem decV_bl (i j : Bool) : decide (V.bl i = V.bl j) = decide (i = j) := by
  by_cases h : i = j
  · rw [h, decide_eq_true rfl, decide_eq_true rfl]
  · rw [decide_eq_false h, decide_eq_false fun q => h (V.bl.inj q)]
theorem lo_eq (hu : X.A.units + 64 < cLine) : LOp X (compareOp .Eq) wEq := by
  refine ⟨_, OpR.or op_eq (op_eqD hu), fun bxs n B H x y v u Qd Q g dx dy w k => ?_⟩
  unfold wEq at w
  split at w
  · rw [dx.int, dy.int]
    exact .inl ⟨rfl, by rw [decV_int]; exact k _ _ B H w g.refl (.bl _) trivial⟩
  · rw [dx.str, dy.str]
    exact .inl ⟨rfl, by rw [decV_str]; exact k _ _ B H w g.refl (.bl _) trivial⟩
  · rw [dx.bool, dy.bool]
    exact .inl ⟨rfl, by rw [decV_bl]; exact k _ _ B H w g.refl (.bl _) trivial⟩
  · exact .inr ⟨_, _, (dx.dp g.sub).kit (shaped_nd w.1), (dy.dp g.sub).kit (shaped_nd w.2.1), w.1, w.2.1, k _ _ B H w.2.2 g.refl (.bl _) trivial⟩
theorem lo_ne (hu : X.A.units + 64 < cLine) : LOp X (compareOp .NotEq) wNe := by
  refine ⟨_, OpR.or op_ne (op_neD hu), fun bxs n B H x y v u Qd Q g dx dy w k => ?_⟩
  unfold wNe at w
  split at w
  · rw [dx.int, dy.int]
    exact .inl ⟨rfl, by rw [decV_int]; exact k _ _ B H w g.refl (.bl _) trivial⟩
  · rw [dx.str, dy.str]
    exact .inl ⟨rfl, by rw [decV_str]; exact k _ _ B H w g.refl (.bl _) trivial⟩
  · rw [dx.bool, dy.bool]
    exact .inl ⟨rfl, by rw [decV_bl]; exact k _ _ B H w g.refl (.bl _) trivial⟩
  · exact .inr ⟨_, _, (dx.dp g.sub).kit (shaped_nd w.1), (dy.dp g.sub).kit (shaped_nd w.2.1), w.1, w.2.1, k _ _ B H w.2.2 g.refl (.bl _) trivial⟩
/-! ### is None -/
noncomputable def isNone : PyData → Bool
  | .none => true
  | _ => false
noncomputable def wIsN : DOp := fun x y Q => y = .none ∧ Q (.d (.bool (isNone x)))
noncomputable def wNotN : DOp := fun x y Q => y = .none ∧ Q (.d (.bool (!isNone x)))
end
end Dl

namespace Dl
open PySem L2

section
variable {X : Cx} {a b c : Expr} {wa wb wc : DE} {pos : Pos}
/-! ### * -/
noncomputable def rRepL (K : PySem.W.Frag) : R2 := fun x y H Q => ∃ l k xs, x = .ref l ∧ y = .int k ∧ SqL K H l xs ∧ -(2 ^ 63) ≤ k ∧ k < 2 ^ 63 ∧ xs.length * k.toNat ≤ sizeLine ∧
  ∀ p, H p = none → Q (.ref p) (upd H p (.lst (List.replicate k.toNat xs).flatten))
theorem rep_vals {xs : List V} {us : List Value} (h : Vals xs us) : ∀ n : Nat, Vals (List.replicate n xs).flatten (List.replicate n us).flatten
  | 0 => .nil
  | n + 1 => by
    rw [List.replicate_succ, List.replicate_succ, List.flatten_cons, List.flatten_cons]
    exact h.append (rep_vals h n)
theorem op_repL : OpR X (binaryOp .Mult) (rRepL X.K) := by
  intro pins s σ H x y v u Q I rx ry h
  obtain ⟨l, k, xs, rfl, rfl, hH, h1, h2, hz, q⟩ := h
  cases rx
  obtain ⟨t, rfl⟩ := ry
  obtain ⟨its, r, ⟨o1, n, ho, c1, d1, t1⟩, z1⟩ := I.list hH
  obtain ⟨cls, d, data, sl⟩ := o1
  simp only at c1 t1
  subst c1 t1
  have hl : its.length = xs.length := r.length.symm
  have hsz' : its.toArray.size * k.toNat ≤ 2 ^ 24 := by
    rw [List.size_toArray, hl]
    exact Nat.le_trans hz (by decide)
  have hnew : (List.foldl (fun x1 x2 => x1 ++ x2) #[] (List.replicate (if its.toArray.isEmpty = true then 0 else k.toNat) its.toArray)) = (List.replicate k.toNat its).flatten.toArray := by
    rw [PyProof.Rows.listMul_foldl_if]
  refine wpAny_binaryOp_repeat_ref (T := "list") (U := "int") (by decide) ⟨_, ho, rfl⟩ (fun s' => typeIs_int s' k t) noFill_list_mul F.fills_int_mul F.slot_int_rmul repeat_list F.slot_int_index.lookup
    (call_meets F.slot_int_rmul (typeIs_int s k t) F.entry_int_rmul (F.args_int_rmul_2 _ _) (lm_int_rmul_list_any k t l its.toArray n d sl)
      ⟨ho, rfl, ⟨_, ho, rfl⟩, call_meets F.slot_list_mul ⟨_, ho, rfl⟩ F.entry_list_mul (F.args_list_mul_2 _ _)
        (lm_list_mul_any l its.toArray n d sl k t (by simp [Builtin.List.listFitsIndex]; omega) (by omega) (by simp [Builtin.List.listTooLong, sizeLine]; simp at hsz'; omega))
        ⟨ho, ?_⟩⟩)
  rw [hnew]
  refine ⟨.ref _, _, I.lnew (t' := s.toks) (rep_vals r k.toNat) ?_, rfl, q _ I.fresh⟩
  rw [PyProof.Rows.lm_len_rep_flat, Nat.mul_comm]
  exact hz
/-- a text times a number, within a thousand each -/
theorem op_repS : OpR X (binaryOp .Mult) (fun x y H Q => ∃ (z : Str) (k : Int), x = .str z ∧ y = .int k ∧ k ≤ 100000 ∧ -100000 ≤ k ∧ z.length ≤ 1000 ∧ z.length * k.toNat ≤ sizeLine ∧ Q (.str ⟨(List.replicate k.toNat z.cps.toList).flatten.toArray⟩) H) := by
  intro pins s σ H x y v u Q I rx ry h
  obtain ⟨z, k, rfl, rfl, h1, h2, h3, hz, q⟩ := h
  obtain ⟨t, rfl⟩ := rx
  obtain ⟨t', rfl⟩ := ry
  have f0 : ∀ (m : Nat) (acc : Array Nat), (List.replicate m z.cps).foldl (· ++ ·) acc = acc ++ (List.replicate m z.cps.toList).flatten.toArray := fun m => by
    induction m with
    | zero => intro acc; simp
    | succ m ih =>
      intro acc
      rw [List.replicate_succ, List.foldl_cons, ih, List.replicate_succ, List.flatten_cons]
      apply Array.toList_inj.mp
      simp
  refine P.mul_str (by rw [decide_eq_false (by omega), decide_eq_false (by omega)]; rfl) (fun a1 _ => ?_) (fun a1 _ => ?_) ?_
  · have hk : (0 : Int) < k := by omega
    have : (1000 : Int) ≤ (2 ^ 63 - 1) / k := by
      rw [Int.le_ediv_iff_mul_le hk]
      omega
    omega
  · unfold Builtin.Str.tooLong
    exact decide_eq_false (by show ¬ _ > sizeLine; omega)
  · by_cases k1 : k < 1
    · rw [if_pos k1]
      refine ⟨by decide, ?_⟩
      have e0 : k.toNat = 0 := by omega
      rw [e0] at q
      exact ⟨.str _, H, I.tok _, ⟨_, rfl⟩, q⟩
    · rw [if_neg k1]
      by_cases k2 : (k == 1 || z.length == 0) = true
      · rw [if_pos k2]
        have ez : (⟨(List.replicate k.toNat z.cps.toList).flatten.toArray⟩ : Str) = z := by
          rw [Bool.or_eq_true] at k2
          rcases k2 with k2 | k2
          · have : k = 1 := eq_of_beq k2
            subst this
            obtain ⟨cs⟩ := z
            simp
          · have e1 : z.length = 0 := eq_of_beq k2
            obtain ⟨cs⟩ := z
            have e2 : cs = #[] := Array.eq_empty_of_size_eq_zero e1
            subst e2
            simp
        rw [ez] at q
        exact ⟨.str z, H, I, ⟨t, rfl⟩, q⟩
      · rw [if_neg k2]
        have := f0 k.toNat #[]
        rw [this, Array.empty_append]
        refine ⟨?_, ⟨.str _, H, I.tok _, ⟨_, rfl⟩, q⟩⟩
        show (Array.size (List.toArray _)) ≤ _
        rw [List.size_toArray, PyProof.Rows.lm_len_rep_flat, Nat.mul_comm]
        have : z.cps.toList.length = z.length := by simp [Str.length]
        rw [this]
        exact hz
/-- a tuple times a number -/
noncomputable def wMul : DOp := fun x y Q => match x, y with
  | .int i, .int j => CMulW i j ∧ Q (.d (.int (i * j)))
  | .str z, .int k => (k ≤ 100000 ∧ -100000 ≤ k ∧ z.length ≤ 1000 ∧ z.length * k.toNat ≤ sizeLine) ∧ Q (.d (.str ⟨(List.replicate k.toNat z.cps.toList).flatten.toArray⟩))
  | .list xs, .int k => (-(2 ^ 63) ≤ k ∧ k < 2 ^ 63 ∧ xs.length * k.toNat ≤ sizeLine) ∧ Q (.new (List.replicate k.toNat xs).flatten)
  | .tuple xs, .int k => (xs ≠ [] ∧ 2 ≤ k ∧ k ≤ 1000 ∧ xs.length ≤ 1000) ∧ Q (.d (.tuple (List.replicate k.toNat xs).flatten))
  | _, _ => False
theorem freshB {bxs : List Addr} {n : Nat} {B H : Hp} (g : Good bxs n B H) {z : Addr} (hz : H z = none) : z ∉ bxs ∧ B z = none := by
  refine ⟨fun h => (g.box z h).2.ne hz, ?_⟩
  cases e : B z with
  | none => rfl
  | some o =>
    rw [g.sub z o e] at hz
    cases hz
/-- a new list as a result -/
theorem give_new {K : PySem.W.Frag} {bxs : List Addr} {n : Nat} {B H : Hp} {Qd : RV → Prop} {Q : VK} {xs : List PyData} {vs : List V} (g : Good bxs n B H) (h : DpAll K B vs xs) (w : Qd (.new xs))
    (k : ∀ res v' B1 H1, Qd res → Step bxs n n B H B1 H1 → ValR K bxs n B1 H1 res v' → FrR H res v' → Q v' H1) (p : Addr) (hp : H p = none) : Q (.ref p) (upd H p (.lst vs)) :=
  k _ _ B _ w (g.refl.lay0 hp) ⟨p, vs, rfl, (freshB g hp).1, (freshB g hp).2, upd_same, h⟩ ⟨p, rfl, hp⟩
/-- a new tuple as a result -/
theorem give_tup {K : PySem.W.Frag} {bxs : List Addr} {n : Nat} {B H : Hp} {Qd : RV → Prop} {Q : VK} {xs : List PyData} {vs : List V} (g : Good bxs n B H) (h : DpAll K B vs xs) (w : Qd (.d (.tuple xs)))
    (k : ∀ res v' B1 H1, Qd res → Step bxs n n B H B1 H1 → ValR K bxs n B1 H1 res v' → FrR H res v' → Q v' H1) (p : Addr) (hp : H p = none) : Q (.ref p) (upd H p (.tup vs)) :=
  k _ _ _ _ w (g.refl.lay g hp) (.tup (.inl (.inl upd_same)) (dpSameAll (sub_add (freshB g hp).2) _ _ h)) trivial
theorem lo_mul : LOp X (binaryOp .Mult) wMul := by
  refine ⟨_, OpR.or op_mulW (OpR.or op_repS (OpR.or op_repL op_repT)), fun bxs n B H x y v u Qd Q g dx dy w k => ?_⟩
  cases x <;> cases y <;> try exact w.elim
  · exact .inl ⟨_, _, dx.int, dy.int, w.1, k _ _ B H w.2 g.refl (.int _) trivial⟩
  · exact .inr (.inl ⟨_, _, dx.str, dy.int, w.1.1, w.1.2.1, w.1.2.2.1, w.1.2.2.2, k _ _ B H w.2 g.refl (.str _) trivial⟩)
  · obtain ⟨p, vs, rfl, h1, h2⟩ := dx.list g.sub
    exact .inr (.inr (.inl ⟨p, _, vs, rfl, dy.int, h1, w.1.1, w.1.2.1, by rw [dpLen _ _ h2]; exact w.1.2.2, give_new g (dpRep h2 _) w.2 k⟩))
  · obtain ⟨p, vs, rfl, h1, h2⟩ := dx.tuple g.sub
    have hl := dpLen _ _ h2
    exact .inr (.inr (.inr ⟨p, _, vs, rfl, dy.int, h1, fun e => by subst e; cases h2; exact w.1.1 rfl, w.1.2.1, w.1.2.2.1, by rw [hl]; exact w.1.2.2.2, give_tup g (dpRep h2 _) w.2 k⟩))

/-! ### tests -/
noncomputable def onB (r : RV) (F : Bool → Prop) : Prop := match r with
  | .d (.bool b) => F b
  | _ => False
theorem onB_ex {r : RV} {F : Bool → Prop} (h : onB r F) : ∃ b, r = .d (.bool b) ∧ F b := by
  unfold onB at h
  split at h
  · exact ⟨_, rfl, h⟩
  · exact h.elim
noncomputable def onI (r : RV) (F : Int → Prop) : Prop := match r with
  | .d (.int b) => F b
  | _ => False
theorem onI_ex {r : RV} {F : Int → Prop} (h : onI r F) : ∃ b, r = .d (.int b) ∧ F b := by
  unfold onI at h
  split at h
  · exact ⟨_, rfl, h⟩
  · exact h.elim
noncomputable def onO {α : Type} (r : Option α) (F : α → Prop) : Prop := match r with
  | some b => F b
  | none => False
theorem onO_ex {α : Type} {r : Option α} {F : α → Prop} (h : onO r F) : ∃ b, r = some b ∧ F b := by
  cases r with
  | some b => exact ⟨b, rfl, h⟩
  | none => exact h.elim
noncomputable def dTest (w : DE) : DT := fun ρ n Q => w ρ n fun r n1 => onB r fun b => Q b n1
theorem up_test {K : PySem.W.Frag} {w : DE} (σ : L2.St) (H : Hp) (Q : Bool → Hp → Prop) (h : upT K (dTest w) σ H Q) : tB (up K w) σ H Q := by
  obtain ⟨ρ, n, B, bxs, Qd, g, e, w1, q⟩ := h
  refine ⟨ρ, n, B, bxs, _, g, e, w1, fun r n1 v B1 H1 hb s1 vr f1 => ?_⟩
  obtain ⟨bv, rfl, hq⟩ := onB_ex hb
  cases vr
  exact ⟨bv, rfl, q _ _ _ _ hq s1⟩
theorem lt_val {e : Expr} {w : DE} (h : LE X e w) (he : ∀ whole, isTrue e X.env whole = (do let v ← whole; standAt e.pos; holding [v] (truthy v)) := by intro _; rfl) : LT X e (dTest w) := pt_imp (pt_val h he) up_test
theorem lt_cmp {op : CmpOp} {w : DOp} (ho : LOp X (compareOp op) w) (ha : LE X a wa) (hb : LE X b wb) (hm : behindInMarks op b = false) : LT X (.Compare a [op] [b] pos) (dTest (dOp w wa wb)) := by
  obtain ⟨r, h1, h2⟩ := ho
  refine pt_imp (pt_cmpR h1 ha hb hm) fun σ H Q h => ?_
  have h3 := up_test σ H Q h
  exact up_op h2 σ H _ h3
noncomputable def dNot (w : DT) : DT := fun ρ n Q => w ρ n fun b n1 => Q (!b) n1
noncomputable def dAnd (w u : DT) : DT := fun ρ n Q => w ρ n fun b n1 => if b = true then u ρ n1 Q else Q false n1
noncomputable def dOr (w u : DT) : DT := fun ρ n Q => w ρ n fun b n1 => if b = true then Q true n1 else u ρ n1 Q
variable {w u : DT} {rest : List Expr}
theorem lt_not (h : LT X a w) : LT X (.UnaryOp .Not a pos) (dNot w) := pt_imp (pt_not h) fun σ H Q hu => by
  obtain ⟨ρ, n, B, bxs, Qd, g, e, w1, q⟩ := hu
  exact ⟨ρ, n, B, bxs, _, g, e, w1, fun b n1 B1 H1 hq s1 => q _ _ _ _ hq s1⟩
theorem up_or {K : PySem.W.Frag} (σ : L2.St) (H : Hp) (Q : Bool → Hp → Prop) (hu : upT K (dOr w u) σ H Q) : tOr (upT K w) (upT K u) σ H Q := by
  obtain ⟨ρ, n, B, bxs, Qd, g, e, w1, q⟩ := hu
  refine ⟨ρ, n, B, bxs, _, g, e, w1, fun bv n1 B1 H1 hq s1 => ?_⟩
  cases bv with
  | true => exact iteT (q _ _ _ _ hq s1)
  | false => exact iteF ⟨ρ, n1, B1, bxs, Qd, g.step s1, e.step s1, hq, fun b2 n2 B2 H2 hq2 s2 => q _ _ _ _ hq2 (s1.trans s2)⟩
noncomputable abbrev LW (X : Cx) (e : Expr) (w : DT) : Prop := PW X e (upT X.K w)
theorem pw_imp {e : Expr} {t t' : TT} (h : PW X e t) (i : ∀ σ H Q, t' σ H Q → t σ H Q) : PW X e t' := ⟨fun wh pins s σ H Q I q => h.run wh pins s σ H Q I (i σ H Q q)⟩
theorem lw_or1 (h : LT X a w) : LW X (.BoolOp .Or [a] pos) w := pw_or1 h
theorem lw_or (h : LT X a w) (hb : LW X (.BoolOp .Or (b :: rest) pos) u) : LW X (.BoolOp .Or (a :: b :: rest) pos) (dOr w u) := pw_imp (pw_or h hb) up_or
theorem lt_w {e : Expr} (h : LW X e w) : LT X e w := h.pt
/-! ### values by tests -/
noncomputable def dIf (w : DT) (wa wb : DE) : DE := fun ρ n Q => w ρ n fun b n1 => if b = true then wa ρ n1 Q else wb ρ n1 Q
theorem le_if {c : Expr} (hc : LT X c w) (ha : LE X a wa) (hb : LE X b wb) : LE X (.IfExp c a b pos) (dIf w wa wb) := pe_imp (pe_ifExp hc ha hb) fun σ H Q hu => by
  obtain ⟨ρ, n, B, bxs, Qd, g, e, w1, q⟩ := hu
  refine ⟨ρ, n, B, bxs, _, g, e, w1, fun bv n1 B1 H1 hq s1 => ?_⟩
  cases bv with
  | true => exact iteT ⟨ρ, n1, B1, bxs, Qd, g.step s1, e.step s1, hq, fun r n2 v B2 H2 hq2 s2 vr f => q _ _ _ _ _ hq2 (s1.trans s2) vr (f.back s1)⟩
  | false => exact iteF ⟨ρ, n1, B1, bxs, Qd, g.step s1, e.step s1, hq, fun r n2 v B2 H2 hq2 s2 vr f => q _ _ _ _ _ hq2 (s1.trans s2) vr (f.back s1)⟩
noncomputable def dAndV (wa wb : DE) : DE := fun ρ n Q => wa ρ n fun r n1 => onB r fun b => if b = true then wb ρ n1 Q else Q (.d (.bool false)) n1
noncomputable def dOrV (wa wb : DE) : DE := fun ρ n Q => wa ρ n fun r n1 => onB r fun b => if b = true then Q (.d (.bool true)) n1 else wb ρ n1 Q
noncomputable def dNotV (wa : DE) : DE := fun ρ n Q => wa ρ n fun r n1 => onB r fun b => Q (.d (.bool (!b))) n1
noncomputable def dNeg (wa : DE) : DE := fun ρ n Q => wa ρ n fun r n1 => onI r fun i => Q (.d (.int (-i))) n1
theorem le_neg (ha : LE X a wa) : LE X (.UnaryOp .USub a pos) (dNeg wa) := pe_imp (pe_un un_neg ha) fun σ H Q hu => by
  obtain ⟨ρ, n, B, bxs, Qd, g, e, w1, q⟩ := hu
  refine ⟨ρ, n, B, bxs, _, g, e, w1, fun r n1 v B1 H1 hq s1 vr f1 => ?_⟩
  obtain ⟨i, rfl, hq⟩ := onI_ex hq
  cases vr
  exact ⟨i, rfl, q _ _ _ _ _ hq s1 (.int _) trivial⟩

/-! ### arguments, displays -/
noncomputable def dNil : DA := fun _ n Q => Q [] n
noncomputable def dCons (wa : DE) (wr : DA) : DA := fun ρ n Q => wa ρ n fun r n1 => wr ρ n1 fun rs n2 => Q (fixR r :: rs) n2
theorem la_nil : LA X [] dNil := pa_imp pa_nil fun σ H Q hu => by
  obtain ⟨ρ, n, B, bxs, Qd, g, e, w1, q⟩ := hu
  exact q _ _ _ _ _ w1 g.refl trivial trivial
theorem FrsR.back {bxs : List Addr} {n n1 : Nat} {B H B1 H1 : Hp} (s : Step bxs n n1 B H B1 H1) : ∀ {rs : List RV} {vs : List V}, FrsR H1 rs vs → FrsR H rs vs
  | [], [], _ => trivial
  | _ :: _, _ :: _, h => ⟨h.1.back s, FrsR.back s h.2⟩
  | [], _ :: _, _ => trivial
  | _ :: _, [], _ => trivial
theorem la_cons {es : List Expr} {wr : DA} (ha : LE X a wa) (hr : LA X es wr) (hs : starEach (a :: es) X.env = (false, eval a X.env) :: starEach es X.env := by rfl) : LA X (a :: es) (dCons wa wr) := pa_imp (pa_cons ha hr hs) fun σ H Q hu => by
  obtain ⟨ρ, n, B, bxs, Qd, g, e, w1, q⟩ := hu
  refine ⟨ρ, n, B, bxs, _, g, e, w1, fun r n1 v B1 H1 hq s1 vr f1 => ?_⟩
  obtain ⟨B2, s2, vr2, sb⟩ := fix_r g s1 vr f1
  refine ⟨ρ, n1, B2, bxs, _, g.step s2, e.step s2, hq, fun rs n3 vs B3 H3 hq3 s3 vrs frs => ?_⟩
  refine q _ _ _ _ _ hq3 (s2.trans s3) ⟨vr2.step s3, vrs⟩ ⟨?_, frs.back s2⟩
  cases r with
  | d x => trivial
  | new xs => trivial
  | bor xs => trivial
  | box => trivial
  | obj o0 => trivial
  | nbox => exact f1
  | own T => exact f1
/-- all are data -/
noncomputable def datas : List RV → Option (List PyData)
  | [] => some []
  | .d x :: rs => (datas rs).map (x :: ·)
  | _ :: _ => none
theorem datas_r {K : PySem.W.Frag} {bxs : List Addr} {n : Nat} {B H : Hp} : ∀ (rs : List RV) (vs : List V) (xs : List PyData), ValsR K bxs n B H rs vs → datas rs = some xs → DpAll K B vs xs
  | [], [], xs, _, e => by cases e; exact .nil
  | [], _ :: _, _, h, _ => h.elim
  | _ :: _, [], _, h, _ => h.elim
  | r :: rs, v :: vs, xs, h, e => by
    cases r with
    | d x =>
      unfold datas at e
      cases e1 : datas rs with
      | none => rw [e1] at e; cases e
      | some ys =>
        rw [e1] at e
        cases e
        exact .cons h.1 (datas_r rs vs ys h.2 e1)
    | new ys => cases e
    | bor ys => cases e
    | box => cases e
    | obj o0 => cases e
    | nbox => cases e
    | own T => cases e
noncomputable def dTup (wr : DA) : DE := fun ρ n Q => wr ρ n fun rs n1 => onO (datas rs) fun xs => xs.length ≤ sizeLine ∧ Q (.d (.tuple xs)) n1
noncomputable def dLst (wr : DA) : DE := fun ρ n Q => wr ρ n fun rs n1 => onO (datas rs) fun xs => xs.length ≤ sizeLine ∧ Q (.new xs) n1
theorem le_tup {es : List Expr} {wr : DA} {x1} (h : LA X es wr) : LE X (.Tuple es x1 pos) (dTup wr) := pe_imp (pe_tup h) fun σ H Q hu => by
  obtain ⟨ρ, n, B, bxs, Qd, g, e, w1, q⟩ := hu
  refine ⟨ρ, n, B, bxs, _, g, e, w1, fun rs n1 vs B1 H1 hq s1 vr f1 => ?_⟩
  obtain ⟨xs, ex, hl, hq⟩ := onO_ex hq
  have h1 := datas_r _ _ _ vr ex
  refine ⟨by rw [dpLen _ _ h1]; exact hl, fun p hp => ?_⟩
  have bp := (freshB (g.step s1) hp).2
  exact q _ _ _ _ _ hq (s1.lay g hp) (.tup (.inl (.inl upd_same)) (dpSameAll (sub_add bp) _ _ h1)) trivial
theorem le_lst {es : List Expr} {wr : DA} (h : LA X es wr) : LE X (.List es pos) (dLst wr) := pe_imp (pe_lst h) fun σ H Q hu => by
  obtain ⟨ρ, n, B, bxs, Qd, g, e, w1, q⟩ := hu
  refine ⟨ρ, n, B, bxs, _, g, e, w1, fun rs n1 vs B1 H1 hq s1 vr f1 => ?_⟩
  obtain ⟨xs, ex, hl, hq⟩ := onO_ex hq
  have h1 := datas_r _ _ _ vr ex
  refine ⟨by rw [dpLen _ _ h1]; exact hl, fun p hp => ?_⟩
  have bp := freshB (g.step s1) hp
  exact q _ _ _ _ _ hq (s1.lay0 hp) ⟨p, vs, rfl, bp.1, bp.2, upd_same, h1⟩ ⟨p, rfl, s1.free hp⟩

/-! ### subscripts -/
theorem dpAt {K : PySem.W.Frag} {B : Hp} {xs : List PyData} {vs : List V} {i : Int} {x : PyData} (h : DpAll K B vs xs) (e : atI xs i = some x) : ∃ v, atI vs i = some v ∧ Dp K B v x := by
  unfold atI at e ⊢
  rw [dpLen _ _ h]
  cases e1 : ixN xs.length i with
  | none => rw [e1] at e; cases e
  | some j =>
    rw [e1] at e
    exact dpGet _ _ _ _ h e
noncomputable def wIx : DOp := fun x y Q => match x, y with
  | .list xs, .int i => ∃ z, atI xs i = some z ∧ Q (.d z)
  | .tuple xs, .int i => ∃ z, atI xs i = some z ∧ Q (.d z)
  | .str s, .int i => s.length ≤ sizeLine ∧ ∃ ch, atI s.cps.toList i = some ch ∧ Q (.d (.str ⟨#[ch]⟩))
  | _, _ => False
theorem le_ix (ha : LE X a wa) (hb : LE X b wb) (hs : PlainIx b := by exact fun _ _ => rfl) : LE X (.Subscript a b pos) (dOp wIx wa wb) := by
  refine pe_imp (pe_ix ix_seq ha hb hs) (up_op fun bxs n B H x y v u Qd Q g dx dy w k => ?_)
  cases x <;> cases y <;> try exact w.elim
  · obtain ⟨hl, ch, e, w⟩ := w
    exact .inr (.inr ⟨_, _, ch, dx.str, dy.int, hl, e, k _ _ B H w g.refl (.str _) trivial⟩)
  · obtain ⟨z, e, w⟩ := w
    obtain ⟨p, vs, rfl, h1, h2⟩ := dx.list g.sub
    obtain ⟨zv, e1, e2⟩ := dpAt h2 e
    exact .inl ⟨p, vs, _, zv, rfl, dy.int, h1, e1, k _ _ B H w g.refl e2 trivial⟩
  · obtain ⟨z, e, w⟩ := w
    obtain ⟨p, vs, rfl, h1, h2⟩ := dx.tuple g.sub
    obtain ⟨zv, e1, e2⟩ := dpAt h2 e
    exact .inr (.inl ⟨p, vs, _, zv, rfl, dy.int, h1, e1, k _ _ B H w g.refl e2 trivial⟩)
end
end Dl

namespace Dl
open PySem L2

/-! ### slices -/
noncomputable abbrev DO := DEnv → Nat → (Option Int → Nat → Prop) → Prop
noncomputable def dNoPart : DO := fun _ n Q => Q none n
noncomputable def dPart (w : DE) : DO := fun ρ n Q => w ρ n fun r n1 => onI r fun i => Q (some i) n1
noncomputable def cutD (xs : List PyData) (lo hi : Option Int) : List PyData := (xs.drop (HT.sIx xs.length 0 lo)).take (HT.sIx xs.length xs.length hi - HT.sIx xs.length 0 lo)
noncomputable def wSl (lo hi : Option Int) (x : PyData) (Q : RV → Prop) : Prop := match x with
  | .list xs => Q (.new (cutD xs lo hi))
  | .tuple xs => Q (.d (.tuple (cutD xs lo hi)))
  | .str z => z.length ≤ sizeLine ∧ Q (.d (.str (cutS z lo hi)))
  | _ => False
noncomputable def dSl (wa : DE) (wl wh : DO) : DE := fun ρ n Q => wa ρ n fun r n1 => wl ρ n1 fun lo n2 => wh ρ n2 fun hi n3 => onO (view r) fun x => wSl lo hi x fun r' => Q r' n3
section
variable {X : Cx} {a b c : Expr} {wa wb wc : DE} {pos : Pos}
/-! ### calls of built-ins -/
noncomputable def views : List RV → Option (List PyData)
  | [] => some []
  | r :: rs => (view r).bind fun x => (views rs).map (x :: ·)
noncomputable def DpVs (K : PySem.W.Frag) (B H : Hp) : List V → List PyData → Prop
  | [], [] => True
  | v :: vs, x :: xs => DpV K B H v x ∧ DpVs K B H vs xs
  | _, _ => False
theorem views_r {K : PySem.W.Frag} {bxs : List Addr} {n : Nat} {B H : Hp} : ∀ (rs : List RV) (vs : List V) (xs : List PyData), ValsR K bxs n B H rs vs → views rs = some xs → DpVs K B H vs xs
  | [], [], xs, _, e => by cases e; trivial
  | [], _ :: _, _, h, _ => h.elim
  | _ :: _, [], _, h, _ => h.elim
  | r :: rs, v :: vs, xs, h, e => by
    unfold views at e
    cases e1 : view r with
    | none => rw [e1] at e; cases e
    | some x =>
      rw [e1] at e
      cases e2 : views rs with
      | none => rw [e2] at e; cases e
      | some ys =>
        rw [e2] at e
        cases e
        exact ⟨view_r h.1 e1, views_r rs vs ys h.2 e2⟩
noncomputable abbrev DCall := List PyData → (RV → Prop) → Prop
noncomputable def LCall (X : Cx) (f : Value) (w : DCall) : Prop := ∃ r, CallR X f r ∧
  ∀ (bxs : List Addr) (n : Nat) (B H : Hp) (xs : List PyData) (vs : List V) (Qd : RV → Prop) (Q : VK), Good bxs n B H → DpVs X.K B H vs xs → w xs Qd →
    (∀ res v' B1 H1, Qd res → Step bxs n n B H B1 H1 → ValR X.K bxs n B1 H1 res v' → FrR H res v' → Q v' H1) → r vs H Q
noncomputable def dCB (w : DCall) (wr : DA) : DE := fun ρ n Q => wr ρ n fun rs n1 => onO (views rs) fun xs => w xs fun r => Q r n1
theorem up_cb {K : PySem.W.Frag} {w : DCall} {r : List V → Hp → VK → Prop} {wr : DA} (h : ∀ (bxs : List Addr) (n : Nat) (B H : Hp) (xs : List PyData) (vs : List V) (Qd : RV → Prop) (Q : VK), Good bxs n B H → DpVs K B H vs xs → w xs Qd →
    (∀ res v' B1 H1, Qd res → Step bxs n n B H B1 H1 → ValR K bxs n B1 H1 res v' → FrR H res v' → Q v' H1) → r vs H Q) (σ : L2.St) (H : Hp) (Q : VK) (hu : up K (dCB w wr) σ H Q) : tCB r (upA K wr) σ H Q := by
  obtain ⟨ρ, n, B, bxs, Qd, g, e, w1, q⟩ := hu
  refine ⟨ρ, n, B, bxs, _, g, e, w1, fun rs n1 vs B1 H1 hq s1 vr f1 => ?_⟩
  obtain ⟨xs, ex, hq⟩ := onO_ex hq
  exact h bxs n1 B1 H1 xs vs _ Q (g.step s1) (views_r _ _ _ vr ex) hq fun res v' B2 H2 hq s2 vr2 f2 => q _ _ _ _ _ hq (s1.trans s2) vr2 (f2.back s1)
theorem le_callB {x : Str} {p : Pos} {e : Expr} {es : List Expr} {id : String} {w : DCall} {wr : DA} (hc : LCall X (.builtin id) w) (hg : Gl X x) (hm : X.mg x = none) (hv : bootBuiltins x = some (.builtin id)) (ha : LA X (e :: es) wr) (hn : x ≠ "__name__" := by decide) (hdb : (x == ("__debug__" : Str)) = false := by decide)
    (he : starEach (e :: es) X.env = (false, eval e X.env) :: starEach es X.env := by rfl) (hpl : (backTo pos (starEach es X.env)).any (·.1) = false := by rfl) : LE X (.Call (.Name x p) (e :: es) [] pos) (dCB w wr) := by
  obtain ⟨r, h1, h2⟩ := hc
  exact pe_imp (pe_callB h1 hg hm hv ha hn hdb he hpl) (up_cb h2)
theorem le_callTy {x : Str} {p : Pos} {e : Expr} {es : List Expr} {id : String} {w : DCall} {wr : DA} (hc : LCall X (.type id) w) (hg : Gl X x) (hm : X.mg x = none) (hv : bootBuiltins x = some (.type id)) (ha : LA X (e :: es) wr) (hn : x ≠ "__name__" := by decide) (hdb : (x == ("__debug__" : Str)) = false := by decide)
    (he : starEach (e :: es) X.env = (false, eval e X.env) :: starEach es X.env := by rfl) (hpl : (backTo pos (starEach es X.env)).any (·.1) = false := by rfl) : LE X (.Call (.Name x p) (e :: es) [] pos) (dCB w wr) := by
  obtain ⟨r, h1, h2⟩ := hc
  exact pe_imp (pe_callTy h1 hg hm hv ha hn hdb he hpl) (up_cb h2)
/-- one argument -/
theorem dpvs1 {K : PySem.W.Frag} {B H : Hp} {x : PyData} : ∀ {vs : List V}, DpVs K B H vs [x] → ∃ v, vs = [v] ∧ DpV K B H v x
  | [], h => h.elim
  | [v], h => ⟨v, rfl, h.1⟩
  | _ :: _ :: _, h => h.2.elim
theorem dpvs2 {K : PySem.W.Frag} {B H : Hp} {x y : PyData} : ∀ {vs : List V}, DpVs K B H vs [x, y] → ∃ v u, vs = [v, u] ∧ DpV K B H v x ∧ DpV K B H u y
  | [], h => h.elim
  | [_], h => h.2.elim
  | [v, u], h => ⟨v, u, rfl, h.1, h.2.1⟩
  | _ :: _ :: _ :: _, h => h.2.2.elim
noncomputable def wLen : DCall := fun xs Q => match xs with
  | [.list ys] => Q (.d (.int (ys.length : Int)))
  | [.tuple ys] => Q (.d (.int (ys.length : Int)))
  | [.str z] => z.length ≤ sizeLine ∧ Q (.d (.int (z.length : Int)))
  | _ => False
theorem lc_len : LCall X (.builtin "len") wLen := by
  refine ⟨_, CallR.or call_len_seq call_len_str, fun bxs n B H xs vs Qd Q g hv w k => ?_⟩
  unfold wLen at w
  split at w
  · obtain ⟨v, rfl, dx⟩ := dpvs1 hv
    obtain ⟨p, us, rfl, h1, h2⟩ := dx.list g.sub
    exact .inl ⟨p, us, rfl, .inl h1, k _ _ B H w g.refl (by rw [dpLen _ _ h2]; exact .int _) trivial⟩
  · obtain ⟨v, rfl, dx⟩ := dpvs1 hv
    obtain ⟨p, us, rfl, h1, h2⟩ := dx.tuple g.sub
    exact .inl ⟨p, us, rfl, .inr h1, k _ _ B H w g.refl (by rw [dpLen _ _ h2]; exact .int _) trivial⟩
  · obtain ⟨v, rfl, dx⟩ := dpvs1 hv
    obtain rfl := dx.str
    exact .inr ⟨_, rfl, w.1, k _ _ B H w.2 g.refl (.int _) trivial⟩
  · exact w.elim
noncomputable def wAbs : DCall := fun xs Q => match xs with
  | [.int i] => Q (.d (.int (if i < 0 then -i else i)))
  | _ => False
theorem lc_abs : LCall X (.builtin "abs") wAbs := by
  refine ⟨_, call_abs, fun bxs n B H xs vs Qd Q g hv w k => ?_⟩
  unfold wAbs at w
  split at w
  · obtain ⟨v, rfl, dx⟩ := dpvs1 hv
    obtain rfl := dx.int
    exact ⟨_, rfl, k _ _ B H w g.refl (.int _) trivial⟩
  · exact w.elim
/-- max, min: of two numbers, of a list of numbers -/
noncomputable def wMax : DCall := fun xs Q => match xs with
  | [.int i, .int j] => Q (.d (.int (if j > i then j else i)))
  | _ => False
noncomputable def wMin : DCall := fun xs Q => match xs with
  | [.int i, .int j] => Q (.d (.int (if j < i then j else i)))
  | _ => False
theorem lc_max (hc : X.calm = true) : LCall X (.builtin "max") wMax := by
  refine ⟨_, call_max2 hc, fun bxs n B H xs vs Qd Q g hv w k => ?_⟩
  unfold wMax at w
  split at w
  · obtain ⟨v, u, rfl, dx, dy⟩ := dpvs2 hv
    obtain rfl := dx.int
    obtain rfl := dy.int
    exact ⟨_, _, rfl, k _ _ B H w g.refl (.int _) trivial⟩
  · exact w.elim
theorem lc_min (hc : X.calm = true) : LCall X (.builtin "min") wMin := by
  refine ⟨_, call_min2 hc, fun bxs n B H xs vs Qd Q g hv w k => ?_⟩
  unfold wMin at w
  split at w
  · obtain ⟨v, u, rfl, dx, dy⟩ := dpvs2 hv
    obtain rfl := dx.int
    obtain rfl := dy.int
    exact ⟨_, _, rfl, k _ _ B H w g.refl (.int _) trivial⟩
  · exact w.elim
noncomputable def wInt : DCall := fun xs Q => match xs with
  | [.int i] => Q (.d (.int i))
  | [.bool b] => Q (.d (.int (if b then 1 else 0)))
  | [.str z] => ∃ i, PySem.intText? z = some i ∧ z.length ≤ 640 ∧ Q (.d (.int i))
  | _ => False
theorem lc_int : LCall X (.type "int") wInt := by
  refine ⟨_, CallR.or call_int1 call_int_str, fun bxs n B H xs vs Qd Q g hv w k => ?_⟩
  unfold wInt at w
  split at w
  · obtain ⟨v, rfl, dx⟩ := dpvs1 hv
    obtain rfl := dx.int
    exact .inl (.inl ⟨_, rfl, k _ _ B H w g.refl (.int _) trivial⟩)
  · obtain ⟨v, rfl, dx⟩ := dpvs1 hv
    obtain rfl := dx.bool
    exact .inl (.inr ⟨_, rfl, k _ _ B H w g.refl (.int _) trivial⟩)
  · obtain ⟨v, rfl, dx⟩ := dpvs1 hv
    obtain rfl := dx.str
    obtain ⟨i, e1, e2, w⟩ := w
    exact .inr ⟨_, i, rfl, e1, e2, k _ _ B H w g.refl (.int _) trivial⟩
  · exact w.elim
noncomputable def wStr : DCall := fun xs Q => match xs with
  | [.int i] => i.natAbs.log2 < 1920 ∧ Q (.d (.str (toString i)))
  | [.str z] => Q (.d (.str z))
  | _ => False
noncomputable def wAll : DCall := fun xs Q => ∃ bs : List Bool, xs = [.list (bs.map .bool)] ∧ Q (.d (.bool (bs.all id)))
theorem lc_all (hc : X.calm = true) : LCall X (.builtin "all") wAll := by
  refine ⟨_, cr_all hc, fun bxs n B H xs vs Qd Q g hv w k => ?_⟩
  obtain ⟨ns, rfl, w⟩ := w
  obtain ⟨v, rfl, dx⟩ := dpvs1 hv
  obtain ⟨p, us, rfl, h1, h2⟩ := dx.list g.sub
  obtain rfl := ofBools _ _ h2
  exact ⟨p, ns, rfl, h1, k _ _ B H w g.refl (.bl _) trivial⟩
noncomputable def wTuple : DCall := fun xs Q => match xs with
  | [.list ys] => Q (.d (.tuple ys))
  | [.tuple ys] => Q (.d (.tuple ys))
  | _ => False
noncomputable def wList : DCall := fun xs Q => match xs with
  | [.list ys] => Q (.new ys)
  | [.tuple ys] => Q (.new ys)
  | _ => False
/-! ### repr -/
/-- the modules' dict stands in the base -/
noncomputable def Sm (base : Heap) : Prop := ∃ o es ep, base.get? sysModules = some o ∧ o.data = .dict es ep
theorem kv_keys {P : Program} {w : World} {h : Heap} : ∀ {kv : List (Str × V)} {vs : List (Key × Value)} {es : List DictEntry}, KV (kv.map fun p => ((Sum.inr p.1 : Key), p.2)) vs → Pairs (mixKind P w) es vs →
    ReadsAll h (es.map (·.key)) (kv.map fun p => PyData.str p.1) [] ∧ Vals (kv.map (·.2)) (es.map (·.val))
  | [], vs, es, h1, h2 => by
    cases h1
    cases h2
    exact ⟨.nil, .nil⟩
  | p :: kv, vs, es, h1, h2 => by
    cases h1 with
    | cons a1 a2 =>
      cases h2 with
      | cons b1 b2 b3 =>
        obtain ⟨q1, q2⟩ := kv_keys (h := h) a2 b3
        rw [← a1.1] at b1
        rcases keyIs_shape (show keyIs (Sum.inr p.1) _ = true from b1) with ⟨i, t, e1, e2⟩ | ⟨x, t, e1, e2⟩
        · cases e1
        · cases e1
          refine ⟨?_, ?_⟩
          · rw [List.map_cons, List.map_cons, e2]
            exact ReadsAll.cons (Reads.str _ t) q1
          · rw [List.map_cons, List.map_cons, b2]
            exact .cons a1.2 q2
mutual
theorem Dp.rd {pins : List (Addr × Obj)} {σ : L2.St} {H : Hp} {s : Shared} (I : Inv X pins σ H s) (hm : Sm X.base) : ∀ {v : V} {d : PyData} {u : Value}, Dp X.K H v d → RelV v u → ∃ as, Reads s.heap u d as ∧ sysModules ∉ as
  | _, _, _, .non, r => by cases r; exact ⟨_, Reads.none, by simp⟩
  | _, _, _, .bl b, r => by cases r; exact ⟨_, Reads.bool b, by simp⟩
  | _, _, _, .int i, r => by obtain ⟨t, rfl⟩ := r; exact ⟨_, Reads.int i t, by simp⟩
  | _, _, _, .str x, r => by obtain ⟨t, rfl⟩ := r; exact ⟨_, Reads.str x t, by simp⟩
  | _, _, _, .lst hs ha, r => by
    cases r
    obtain ⟨its, rv, ⟨o, n, ho, hc, _, hd⟩, _⟩ := I.list hs
    obtain ⟨as, hr, hn⟩ := DpAll.rd I hm ha rv
    refine ⟨_, Reads.list ho hc hd hr, ?_⟩
    rw [List.mem_cons, not_or]
    refine ⟨fun q => ?_, hn⟩
    obtain ⟨o', es, ep, e1, e2⟩ := hm
    have e3 := I.bk _ _ e1
    rw [q, ho] at e3
    cases e3
    rw [hd] at e2
    cases e2
  | _, _, _, .tup hs ha, r => by
    cases r
    obtain ⟨its, rv, ⟨o, ho, hc, n, hd⟩, _⟩ := I.tuple hs
    obtain ⟨as, hr, hn⟩ := DpAll.rd I hm ha rv
    exact ⟨_, Reads.tuple ho hc hd hr, hn⟩
  | _, _, _, .dic (kvs := kvs) h1 h2 h3, r => by
    cases r
    obtain ⟨_, hd, vs, rel, o, es, ep, ho, hx, hdat, _, hp, _⟩ := dk_of I.hok h1
    obtain ⟨q1, q2⟩ := kv_keys (h := s.heap) rel hp
    obtain ⟨as, hr, hn⟩ := DpAll.rd I hm h3 q2
    refine ⟨_, Reads.dict (as := []) ho hx.1 hdat (by rw [h2]; exact q1) hr, ?_⟩
    show sysModules ∉ _ :: ([] ++ as)
    rw [List.nil_append, List.mem_cons, not_or]
    exact ⟨fun q => by rw [q] at hd; simp at hd, hn⟩
theorem DpAll.rd {pins : List (Addr × Obj)} {σ : L2.St} {H : Hp} {s : Shared} (I : Inv X pins σ H s) (hm : Sm X.base) : ∀ {vs : List V} {ds : List PyData} {us : List Value}, DpAll X.K H vs ds → Vals vs us → ∃ as, ReadsAll s.heap us ds as ∧ sysModules ∉ as
  | _, _, _, .nil, r => by cases r; exact ⟨_, ReadsAll.nil, by simp⟩
  | _, _, _, .cons h1 h2, r => by
    cases r with
    | cons r1 r2 =>
      obtain ⟨as, q1, n1⟩ := Dp.rd I hm h1 r1
      obtain ⟨bs, q2, n2⟩ := DpAll.rd I hm h2 r2
      exact ⟨_, ReadsAll.cons q1 q2, by rw [List.mem_append, not_or]; exact ⟨n1, n2⟩⟩
end
noncomputable def ReprOk (x : PyData) : Prop := x.showable = true ∧ x.shown.length ≤ sizeLine ∧ x.depth ≤ 60
theorem call_repr_data (hm : Sm X.base) (hg : X.A.guards = some []) (hu : X.A.units + 64 < cLine) : CallR X (.builtin "repr") (fun xs H Q => ∃ v x, xs = [v] ∧ Dp X.K H v x ∧ ReprOk x ∧ Q (.str x.shown) H) := by
  intro pins s σ H xs us Q I rs h
  obtain ⟨v, x, rfl, hd, ⟨h1, h2, h3⟩, q⟩ := h
  cases rs with
  | cons rv rn =>
    cases rn
    rename_i u
    obtain ⟨as, hr, hno⟩ := Dp.rd I hm hd rv
    have fin : ∀ (t : Tok) (tk : Nat) (h' : Heap), (∀ b o, s.heap.get? b = some o → h'.get? b = some o) → EP X pins σ Q (.str x.shown t) { s with heap := h', toks := tk } := fun t tk h' hk => ⟨.str x.shown, H, I.kept (t' := tk) hk, ⟨t, rfl⟩, q⟩
    have fin0 : ∀ (t : Tok) (tk : Nat), EP X pins σ Q (.str x.shown t) { s with toks := tk } := fun t tk => fin t tk s.heap fun _ _ e => e
    cases x with
    | none =>
      cases hd
      obtain rfl : u = Value.none := rv
      exact P.repr_of_none (fin0 _ _)
    | bool b =>
      cases hd
      obtain rfl : u = Value.bool b := rv
      exact P.repr_of_bool (fin0 _ _)
    | int i =>
      cases hd
      obtain ⟨t, rfl⟩ := rv
      exact P.repr_of_int (by simpa [PyData.showable] using h1) (fin0 _ _)
    | str z =>
      cases hd
      obtain ⟨t, rfl⟩ := rv
      exact P.repr_of_str (fin0 _ _) h2
    | list ys =>
      cases hd with
      | lst g1 g2 =>
        obtain rfl : u = Value.ref _ := rv
        exact repr_of_reads' hr h1 (fun _ => hno) hg (by omega) (fun _ _ e => e) (fun h' u tk hk => fin u tk h' hk) h2
    | tuple ys =>
      cases hd with
      | tup g1 g2 =>
        obtain rfl : u = Value.ref _ := rv
        exact repr_of_reads' hr h1 (fun _ => hno) hg (by omega) (fun _ _ e => e) (fun h' u tk hk => fin u tk h' hk) h2
    | dict kvs =>
      cases hd with
      | dic g1 g2 g3 =>
        obtain rfl : u = Value.ref _ := rv
        exact repr_of_reads' hr h1 (fun _ => hno) hg (by omega) (fun _ _ e => e) (fun h' u tk hk => fin u tk h' hk) h2
noncomputable def wRepr : DCall := fun xs Q => ∃ x, xs = [x] ∧ ReprOk x ∧ Q (.d (.str x.shown))
theorem lc_repr (hm : Sm X.base) (hg : X.A.guards = some []) (hu : X.A.units + 64 < cLine) : LCall X (.builtin "repr") wRepr := by
  refine ⟨_, call_repr_data hm hg hu, fun bxs n B H xs vs Qd Q g hv w k => ?_⟩
  obtain ⟨x, rfl, h, w⟩ := w
  obtain ⟨v, rfl, dx⟩ := dpvs1 hv
  exact ⟨v, x, rfl, dx.dp g.sub, h, k _ _ B H w g.refl (.str _) trivial⟩
end
end Dl

namespace Dl
open PySem PySem.Spec PyProof.Rows L2

/-! ### defs whose promise may use that no repr is under way -/
structure FnG (P : Program) (w : World) (K : PySem.W.Frag) (mg : Str → Option Value) (base : Heap) (k : Nat) (f : Addr) (fd : FuncData) (ps : List Str) (sp : Sp) : Prop where
  len : ∀ vs H Q E, sp vs H Q E → vs.length = ps.length
  run : ∀ (A : Around) (outer : List Env) (s : Shared) (H : Hp) (args : Args) (us : List Value) (vs : List V) (Q : VK), Room k A → A.guards = some [] → Env0 P w K mg base A outer s H → BindsTo s fd args (ps.zip us) → Vals vs us → sp vs H Q E0 →
    codeAny (model P w) A (.call (.ref f) args) (CR CX0 outer P w H s Q E0) s
theorem FnG.of {P : Program} {w : World} {K : PySem.W.Frag} {mg : Str → Option Value} {base : Heap} {k : Nat} {f : Addr} {fd : FuncData} {ps : List Str} {sp : Sp} (F : FnOk P w K mg base CX0 k f fd ps sp) : FnG P w K mg base k f fd ps sp :=
  ⟨F.len, fun A outer s H args us vs Q hr _ e b v h => F.run A outer s H args us vs Q E0 hr e b v h⟩
theorem FnG.mono {P : Program} {w : World} {K : PySem.W.Frag} {mg : Str → Option Value} {base : Heap} {j k : Nat} {f : Addr} {fd : FuncData} {ps : List Str} {sp : Sp} (F : FnG P w K mg base j f fd ps sp) (h : j ≤ k) : FnG P w K mg base k f fd ps sp :=
  ⟨F.len, fun A outer s H args us vs Q hr => F.run A outer s H args us vs Q (hr.mono h)⟩
section
variable {P : Program} {w : World} {K : PySem.W.Frag} {mg : Str → Option Value} {base : Heap}
/-- a def by its body -/
theorem fng_of {x qual : Str} {st : Stmt} {f : Addr} {fd : FuncData} {N ps : List Str} {k : Nat} {sp : Sp} (F : Fun K x qual st f fd) (S : FnScope N ps (defScope st)) (len : ∀ vs H Q E, sp vs H Q E → vs.length = ps.length)
    (hbody : ∀ (cdv : Value) (A : Around) (outer : List Env) (s : Shared) (H : Hp) (vs : List V) (Q : VK), Room k (A.deeper (envOfC qual (defScope st) s.heap.objs.size f cdv)) → A.guards = some [] → sp vs H Q E0 →
      ∃ t, PSs (cxOf CX0 P w K mg base N qual (defScope st) f cdv A outer s H E0).nox (defBody st) t ∧ t { nx := fun _ H' => Q .non H', rt := Q } (start N vs) H) : FnG P w K mg base (k + 1) f fd ps sp := by
  refine ⟨len, fun A outer s H args us vs Q hr hg e0 hb r hsp => ?_⟩
  obtain ⟨oc, od, kV, doc, pm, an, cdv, ct, osl, rfl, lk, hcd⟩ := F.ex
  have hl := len _ _ _ _ hsp
  have KX : K.In s.heap := e0.mod.kin.keeps fun b o e => (e0.bs b o e).1
  have lim : s.heap.NoLimit := e0.mod.nolimit.keeps fun b o e => (e0.bs b o e).1
  have hkind : ∀ y ∈ ps.zip us, (defScope st).names.lookup y.1 = some .local ∨ ((defScope st).names.lookup y.1 = some .cell ∧ ((cellsFrom (s.heap.objs.size + 1) (defScope st).names []).lookup y.1).isSome = true) := by
    rintro ⟨nm, v⟩ hy
    rcases S.par nm (List.of_mem_zip hy).1 with q | q
    · left; exact q
    · right; exact ⟨q, PySem.W.cellsFrom_some _ _ _ (.inl q)⟩
  refine codeAny_call_function hr.depth (KX _ _ lk) rfl S.co S.gen rfl (PySem.W.codeRec_of KX hcd) (hb _ _ _ _ ?_)
  refine wpAny_newFunctionEnv_cells S.kind hkind fun env he s1 xx => ?_
  subst he
  refine ⟨lim.keeps xx.toInCall.keep, codeAny_func ?_⟩
  obtain ⟨t, ht, hq⟩ := hbody cdv A outer s H vs Q (hr.deeper _) hg hsp
  have I : Inv (cxOf CX0 P w K mg base N qual (defScope st) f cdv A outer s H E0) [] (start N vs) H s1 := inv_start S hr.hd e0 hl r xx
  refine wpAny_mono (ht.nox.run [] s1 (start N vs) H _ I hq) (fun fl s' hs => ?_) fun e s' hs => hs
  have fin : ∀ {σ' : L2.St} {H' : Hp} {v : V} {u : Value}, Inv (cxOf CX0 P w K mg base N qual (defScope st) f cdv A outer s H E0) [] σ' H' s' → RelV v u → Q v H' → CE outer P w H s Q u s' := by
    intro σ' H' v u J rv q
    exact ⟨v, H', J.os, J.bare, J.base, J.hok, rv, q⟩
  cases fl with
  | ret u =>
    obtain ⟨v, σ', H', J, rv, q⟩ := hs
    exact fin J rv q
  | next =>
    obtain ⟨σ', H', J, q⟩ := hs
    exact fin (v := V.non) (u := Value.none) J rfl q
  | brk =>
    obtain ⟨_, _, _, q⟩ := hs
    exact q.elim
  | cont =>
    obtain ⟨_, _, _, q⟩ := hs
    exact q.elim
end

/-! ### the call of such a def -/
section
variable {X : Cx} {k : Nat} {f : Addr} {fd : FuncData} {ps : List Str} {sp : Sp} {x : Str} {p pos : Pos} {e : Expr} {es : List Expr} {t : TA}
theorem run_g {pins : List (Addr × Obj)} {σ : L2.St} {H : Hp} {s : Shared} {Q : VK} {us : List Value} {vs : List V} (F : FnG X.prog X.w X.K X.mg X.base k f fd ps sp) (hr : Room k X.A) (hg : X.A.guards = some []) (hb : Binds X.K fd ps [])
    (I : Inv X pins σ H s) (r : Vals vs us) (h : sp vs H Q E0) : wpAny (model X.prog X.w) X.A (call (.ref f) us) (EP X pins σ Q) X.xe s := by
  have hl : us.length = ps.length := by
    rw [← r.length]
    exact F.len _ _ _ _ h
  have hb' := hb s us I.kIn (by rw [List.append_nil]; exact hl)
  rw [List.append_nil] at hb'
  refine wpAny_call (codeAny_mono (F.run X.A X.stack s H ⟨us, []⟩ us vs Q hr hg I.env0 hb' r h) fun rr s' hq => ?_)
  cases rr with
  | error e => exact False.elim hq
  | ok fl =>
    cases fl with
    | ret u => exact I.after hq
    | next => exact False.elim hq
    | brk => exact False.elim hq
    | cont => exact False.elim hq
theorem pe_g (F : FnG X.prog X.w X.K X.mg X.base k f fd ps sp) (hr : Room k X.A) (hgd : X.A.guards = some []) (hg : Gl X x) (hm : X.mg x = some (.ref f)) (hk : PySem.W.keepIn X.K (.ref f) = true) (hb : Binds X.K fd ps [])
    (ha : PA X (e :: es) t) (hdb : (x == ("__debug__" : Str)) = false := by decide) (he : starEach (e :: es) X.env = (false, eval e X.env) :: starEach es X.env := by rfl) (hpl : (backTo pos (starEach es X.env)).any (·.1) = false := by rfl) :
    PE X (.Call (.Name x p) (e :: es) [] pos) (fun σ H Q => t σ H fun vs H1 => sp vs H1 Q E0) := by
  refine ⟨fun pins s σ H Q I h => ?_⟩
  refine wpAny_Call_Name_kw (ld_glob I hg hm ?_ hdb)
  refine PySem.W.callWith_K (h₀ := X.base) I.ok.mod.kin hk (thn (ha.run pos pins s σ H _ I h) fun us s1 ⟨vs, H1, I1, r, q⟩ => ⟨I1.kIn, ?_⟩) he hpl
  exact run_g F hr hgd hb I1 r q
end

/-! ### promises at data level -/
noncomputable def retOk : RV → Prop
  | .d _ => True
  | .obj _ => True
  | .new _ => True
  | .nbox => True
  | .own _ => True
  | _ => False
noncomputable def argOk : RV → Prop
  | .d _ => True
  | .obj _ => True
  | .box => True
  | .nbox => True
  | _ => False
noncomputable def argsOk : List RV → Prop
  | [] => True
  | r :: rs => argOk r ∧ argsOk rs
noncomputable def argIn : RV → Prop
  | .d _ => True
  | .obj _ => True
  | .box => True
  | _ => False
noncomputable def argsIn : List RV → Prop
  | [] => True
  | r :: rs => argIn r ∧ argsIn rs
noncomputable def asArg : RV → RV
  | .nbox => .box
  | r => r
noncomputable def lift (K : PySem.W.Frag) (c : DSp) : Sp := fun vs H Q _ => ∃ (rs : List RV) (n : Nat) (B : Hp) (bxs : List Addr) (Qd : RV → Nat → Prop),
  Good bxs n B H ∧ ValsR K bxs n B H rs vs ∧ argsIn rs ∧ c rs n Qd ∧
    ∀ r n1 v B1 H1, Qd r n1 → retOk r → Step bxs n n1 B H B1 H1 → ValR K bxs n1 B1 H1 r v → FrR H r v → Q v H1
/-- the boxes among the arguments -/
noncomputable def boxesOf : List RV → List V → List Addr
  | .box :: rs, .ref b :: vs => b :: boxesOf rs vs
  | .nbox :: rs, .ref b :: vs => b :: boxesOf rs vs
  | _ :: rs, _ :: vs => boxesOf rs vs
  | _, _ => []
section
variable {K : PySem.W.Frag} {bxs : List Addr} {n : Nat} {B H : Hp}
theorem boxes_in : ∀ {rs : List RV} {vs : List V}, ValsR K bxs n B H rs vs → ∀ b ∈ boxesOf rs vs, b ∈ bxs ∨ (B b = none ∧ BoxAt H b n)
  | [], [], _, b, hb => by cases hb
  | [], _ :: _, h, _, _ => h.elim
  | _ :: _, [], h, _, _ => h.elim
  | r :: rs, v :: vs, h, b, hb => by
    cases r with
    | d x =>
      unfold boxesOf at hb
      exact boxes_in h.2 b hb
    | new xs =>
      unfold boxesOf at hb
      exact boxes_in h.2 b hb
    | own T =>
      unfold boxesOf at hb
      exact boxes_in h.2 b hb
    | bor xs =>
      unfold boxesOf at hb
      exact boxes_in h.2 b hb
    | box =>
      obtain ⟨c, rfl, hc⟩ := h.1
      unfold boxesOf at hb
      rcases List.mem_cons.mp hb with e | e
      · exact .inl (e ▸ hc)
      · exact boxes_in h.2 b e
    | obj o0 => exact boxes_in h.2 b (by unfold boxesOf at hb; exact hb)
    | nbox =>
      obtain ⟨c, rfl, h1, h2, h3⟩ := h.1
      unfold boxesOf at hb
      rcases List.mem_cons.mp hb with e | e
      · subst e
        exact .inr ⟨h2, h3⟩
      · exact boxes_in h.2 b e
theorem boxes_fr {H0 : Hp} : ∀ {rs : List RV} {vs : List V}, ValsR K bxs n B H rs vs → FrsR H0 rs vs → ∀ b ∈ boxesOf rs vs, b ∈ bxs ∨ H0 b = none
  | [], [], _, _, b, hb => by cases hb
  | [], _ :: _, h, _, _, _ => h.elim
  | _ :: _, [], h, _, _, _ => h.elim
  | r :: rs, v :: vs, h, hf, b, hb => by
    cases r with
    | d x =>
      unfold boxesOf at hb
      exact boxes_fr h.2 hf.2 b hb
    | new xs =>
      unfold boxesOf at hb
      exact boxes_fr h.2 hf.2 b hb
    | own T =>
      unfold boxesOf at hb
      exact boxes_fr h.2 hf.2 b hb
    | bor xs =>
      unfold boxesOf at hb
      exact boxes_fr h.2 hf.2 b hb
    | box =>
      obtain ⟨c, rfl, hc⟩ := h.1
      unfold boxesOf at hb
      rcases List.mem_cons.mp hb with e | e
      · exact .inl (e ▸ hc)
      · exact boxes_fr h.2 hf.2 b e
    | obj o0 => exact boxes_fr h.2 hf.2 b (by unfold boxesOf at hb; exact hb)
    | nbox =>
      obtain ⟨c, rfl, h1, h2, h3⟩ := h.1
      obtain ⟨c', ec, h4⟩ := hf.1
      cases ec
      unfold boxesOf at hb
      rcases List.mem_cons.mp hb with e | e
      · subst e
        exact .inr h4
      · exact boxes_fr h.2 hf.2 b e
theorem args_r {cb : List Addr} : ∀ {rs : List RV} {vs : List V}, ValsR K bxs n B H rs vs → argsOk rs → (∀ b ∈ boxesOf rs vs, b ∈ cb) → ValsR K cb n B H (rs.map asArg) vs ∧ argsIn (rs.map asArg)
  | [], [], _, _, _ => ⟨trivial, trivial⟩
  | [], _ :: _, h, _, _ => h.elim
  | _ :: _, [], h, _, _ => h.elim
  | r :: rs, v :: vs, h, ha, hb => by
    cases r with
    | d x =>
      obtain ⟨h1, h2⟩ := args_r h.2 ha.2 (fun b q => hb b (by unfold boxesOf; exact q))
      exact ⟨⟨h.1, h1⟩, trivial, h2⟩
    | new xs => exact ha.1.elim
    | own T => exact ha.1.elim
    | bor xs => exact ha.1.elim
    | box =>
      obtain ⟨c, rfl, hc⟩ := h.1
      obtain ⟨h1, h2⟩ := args_r h.2 ha.2 (fun b q => hb b (by unfold boxesOf; exact .tail _ q))
      exact ⟨⟨⟨c, rfl, hb c (by unfold boxesOf; exact .head _)⟩, h1⟩, trivial, h2⟩
    | obj o0 => (obtain ⟨h1, h2⟩ := args_r h.2 ha.2 (fun b q => hb b (by unfold boxesOf; exact q)); exact ⟨⟨h.1, h1⟩, trivial, h2⟩)
    | nbox =>
      obtain ⟨c, rfl, hc⟩ := h.1
      obtain ⟨h1, h2⟩ := args_r h.2 ha.2 (fun b q => hb b (by unfold boxesOf; exact .tail _ q))
      exact ⟨⟨⟨c, rfl, hb c (by unfold boxesOf; exact .head _)⟩, h1⟩, trivial, h2⟩
end
noncomputable def dCall (c : DSp) (wr : DA) : DE := fun ρ n Q => wr ρ n fun rs n1 => argsOk rs ∧ c (rs.map asArg) n1 Q
theorem up_call {K : PySem.W.Frag} {c : DSp} {wr : DA} (σ : L2.St) (H : Hp) (Q : VK) (hu : up K (dCall c wr) σ H Q) : upA K wr σ H fun vs H1 => lift K c vs H1 Q E0 := by
  obtain ⟨ρ, n, B, bxs, Qd, g, e, w1, q⟩ := hu
  refine ⟨ρ, n, B, bxs, _, g, e, w1, fun rs n1 vs B1 H1 hq s1 vr f1 => ?_⟩
  obtain ⟨ha, hq⟩ := hq
  obtain ⟨h1, h2⟩ := args_r (cb := boxesOf rs vs) vr ha fun _ h => h
  have g1 := g.step s1
  have gc : Good (boxesOf rs vs) n1 B1 H1 := ⟨g1.sub, fun b hb => by
    rcases boxes_in vr b hb with z | z
    · exact g1.box b z
    · exact z⟩
  refine ⟨_, n1, B1, boxesOf rs vs, Qd, gc, h1, h2, hq, fun r n2 v B2 H2 hq2 hr s2 v2 f2 => ?_⟩
  have st : Step bxs n n2 B H B2 H2 := s1.then s2 (boxes_fr vr f1) fun b hb => by
    by_cases hc : b ∈ boxesOf rs vs
    · exact .inl hc
    · exact .inr fun o ho => s2.h1 b o hc ho
  refine q _ _ _ _ _ hq2 st ?_ (f2.back s1)
  cases r with
  | d x => exact v2
  | new xs =>
    obtain ⟨p, us, rfl, a1, a2, a3, a4⟩ := v2
    obtain ⟨p', ep, fp⟩ := f2
    cases ep
    exact ⟨p, us, rfl, fun hb => (g1.box p hb).2.ne fp, a2, a3, a4⟩
  | obj o0 => exact v2
  | nbox =>
    obtain ⟨p, rfl, a1, a2, a3⟩ := v2
    obtain ⟨p', ep, fp⟩ := f2
    cases ep
    exact ⟨p, rfl, fun hb => (g1.box p hb).2.ne fp, a2, a3⟩
  | bor xs => exact hr.elim
  | own T =>
    obtain ⟨p, us, rfl, a1, a2, a3, a4⟩ := v2
    obtain ⟨p', ep, fp⟩ := f2
    cases ep
    exact ⟨p, us, rfl, fun hb => (g1.box p hb).2.ne fp, a2, a3, a4⟩
  | box => exact hr.elim
section
variable {X : Cx} {k : Nat} {f : Addr} {fd : FuncData} {ps : List Str} {c : DSp} {x : Str} {p pos : Pos} {e : Expr} {es : List Expr} {wr : DA}
theorem le_call (F : FnG X.prog X.w X.K X.mg X.base k f fd ps (lift X.K c)) (hr : Room k X.A) (hgd : X.A.guards = some []) (hg : Gl X x) (hm : X.mg x = some (.ref f)) (hk : PySem.W.keepIn X.K (.ref f) = true) (hb : Binds X.K fd ps [])
    (ha : LA X (e :: es) wr) (hdb : (x == ("__debug__" : Str)) = false := by decide) (he : starEach (e :: es) X.env = (false, eval e X.env) :: starEach es X.env := by rfl) (hpl : (backTo pos (starEach es X.env)).any (·.1) = false := by rfl) :
    LE X (.Call (.Name x p) (e :: es) [] pos) (dCall c wr) := pe_imp (pe_g F hr hgd hg hm hk hb ha hdb he hpl) up_call
end
/-- a def of the program, as its callers see it -/
structure Def (P : Program) (w : World) (K : PySem.W.Frag) (mg : Str → Option Value) (base : Heap) (k : Nat) (x : Str) (ps : List Str) (c : DSp) : Prop where
  ex : ∃ (f : Addr) (fd : FuncData), FnG P w K mg base k f fd ps (lift K c) ∧ mg x = some (.ref f) ∧ PySem.W.keepIn K (.ref f) = true ∧ Binds K fd ps []
/-- what stands around -/
structure Here (k : Nat) (A : Around) : Prop where
  room : Room k A
  gd : A.guards = some []
theorem Here.mono {j k : Nat} {A : Around} (h : Here k A) (e : j ≤ k) : Here j A := ⟨h.room.mono e, h.gd⟩
theorem le_def {X : Cx} {k : Nat} {ps : List Str} {c : DSp} {x : Str} {p pos : Pos} {e : Expr} {es : List Expr} {wr : DA} (D : Def X.prog X.w X.K X.mg X.base k x ps c) (hr : Here k X.A) (hg : Gl X x) (ha : LA X (e :: es) wr)
    (hdb : (x == ("__debug__" : Str)) = false := by decide) (he : starEach (e :: es) X.env = (false, eval e X.env) :: starEach es X.env := by rfl) (hpl : (backTo pos (starEach es X.env)).any (·.1) = false := by rfl) :
    LE X (.Call (.Name x p) (e :: es) [] pos) (dCall c wr) := by
  obtain ⟨f, fd, F, hm, hk, hb⟩ := D.ex
  exact le_call F hr.room hr.gd hg hm hk hb ha hdb he hpl
end Dl

namespace Dl
open PySem PySem.Spec PyProof.Rows L2

/-! ### what is walked -/
noncomputable abbrev DI := DEnv → Nat → (List PyData → Nat → Prop) → Prop
/-- an item as it comes: a value that is there, or a new tuple of such -/
noncomputable def YR (K : PySem.W.Frag) (B H : Hp) (x : V) (H' : Hp) (z : PyData) : Prop :=
  (H' = H ∧ Dp K B x z) ∨ ∃ T vs zs, x = .ref T ∧ z = .tuple zs ∧ H T = none ∧ H' = upd H T (.tup vs) ∧ DpAll K B vs zs
structure ItR (K : PySem.W.Frag) (B : Hp) (items : List PyData) (J : It) : Prop where
  go : ∀ i H, Same B H → i < items.length → J.go i H
  stop : ∀ H, Same B H → J.stop items.length H
  yld : ∀ i H x H' z, Same B H → J.yld i H x H' → items[i]? = some z → YR K B H x H' z
noncomputable def upI (K : PySem.W.Frag) (w : DI) : TI := fun σ H R => ∃ (ρ : DEnv) (n : Nat) (B : Hp) (bxs : List Addr) (Qd : List PyData → Nat → Prop),
  Good bxs n B H ∧ EnvR K bxs n B H σ ρ ∧ w ρ n Qd ∧ ∀ items n1 B1 H1 J, Qd items n1 → Step bxs n n1 B H B1 H1 → ItR K B1 items J → R J H1
noncomputable abbrev LI (X : Cx) (tg e : Expr) (w : DI) : Prop := PI X tg e (upI X.K w)
theorem pi_imp {X : Cx} {tg e : Expr} {t t' : TI} (h : PI X tg e t) (i : ∀ σ H R, t' σ H R → t σ H R) : PI X tg e t' := ⟨fun pins s σ H R I q => h.run pins s σ H R I (i σ H R q)⟩
/-- a list, a tuple, a text -/
noncomputable def tSeqI (K : PySem.W.Frag) (te : TE) : TI := fun σ H R => te σ H fun x H1 =>
  (∃ a, x = .ref a ∧ (∃ xs, SqL K H1 a xs) ∧ R (Itl K a) H1) ∨ (∃ a, x = .ref a ∧ (∃ xs, SqT K H1 a xs) ∧ R (Itt K a) H1) ∨ ∃ z, x = .str z ∧ R (Its z) H1
theorem pi_seq {X : Cx} {tg e : Expr} {te : TE} (he : PE X e te) : PI X tg e (tSeqI X.K te) := by
  refine ⟨fun pins s σ H R I hh => ?_⟩
  refine thn (he.run pins s σ H _ I hh) fun v t1 ⟨x, G1, J1, rr, qq⟩ => ?_
  rcases qq with ⟨a, rfl, ⟨xs, hs⟩, q⟩ | ⟨a, rfl, ⟨xs, hs⟩, q⟩ | ⟨z, rfl, q⟩
  · cases rr
    obtain ⟨its, rv, pl, hz⟩ := J1.list hs
    refine wpAny_pyIter_list pl.isList ⟨t1.heap.objs.size, [t1.heap.objs.size], _, _, G1, rfl, J1.kept (t' := t1.toks) (fun b o ee => Heap.get?_push_of_some _ ee), turn_list a _, ⟨_, Heap.get?_push_size _ rfl, rfl, rfl⟩, fun b hb => ?_, q⟩
    obtain rfl : b = t1.heap.objs.size := by simpa using hb
    exact J1.fpOk (Nat.le_refl _) (J1.hok.fresh (Nat.le_refl _))
  · cases rr
    obtain ⟨its, rv, pl, hz⟩ := J1.tuple hs
    refine wpAny_pyIter_tuple (show t1.heap.IsTuple a its.toArray from pl) ⟨t1.heap.objs.size, [t1.heap.objs.size], _, _, G1, rfl, J1.kept (t' := t1.toks) (fun b o ee => Heap.get?_push_of_some _ ee), turn_tuple a _, ⟨_, Heap.get?_push_size _ rfl, rfl, rfl⟩, fun b hb => ?_, q⟩
    obtain rfl : b = t1.heap.objs.size := by simpa using hb
    exact J1.fpOk (Nat.le_refl _) (J1.hok.fresh (Nat.le_refl _))
  · obtain ⟨tk, rfl⟩ := rr
    cases ha : z.cps.all (· < 128)
    · exact wpAny_pyIter_wide ha (pi_one (tk := t1.toks) J1 _ (turn_str _ z tk "str_iterator" (.inr rfl)) ⟨_, Heap.get?_push_size _ rfl, rfl, rfl⟩ q)
    · exact wpAny_pyIter_ascii ha (pi_one (tk := t1.toks) J1 _ (turn_str _ z tk "str_ascii_iterator" (.inl rfl)) ⟨_, Heap.get?_push_size _ rfl, rfl, rfl⟩ q)
/-- the items of what is walked -/
noncomputable def itemsOf : PyData → Option (List PyData)
  | .list xs => some xs
  | .tuple xs => some xs
  | .str z => some (z.cps.toList.map fun c => .str ⟨#[c]⟩)
  | _ => none
section
variable {K : PySem.W.Frag} {B : Hp}
theorem itr_range (lo : Int) (n : Nat) : ItR K B ((List.range n).map fun (i : Nat) => PyData.int (lo + (i : Int))) (Itr lo n) where
  go := fun i H sm hi => by show i < n; simpa using hi
  stop := fun H sm => by show n ≤ _; simp
  yld := fun i H x H' y sm hy e => by
    obtain ⟨e1, rfl⟩ := hy
    refine .inl ⟨e1, ?_⟩
    rw [List.getElem?_map] at e
    cases h : (List.range n)[i]? with
    | none => rw [h] at e; cases e
    | some j =>
      rw [h] at e
      cases e
      have hj : i = j := by
        have := List.getElem?_eq_some_iff.mp h
        obtain ⟨h1, h2⟩ := this
        simpa using h2
      subst hj
      exact .int _
end
noncomputable def onD (r : RV) (F : PyData → Prop) : Prop := match r with
  | .d b => F b
  | _ => False
theorem onD_ex {r : RV} {F : PyData → Prop} (h : onD r F) : ∃ b, r = .d b ∧ F b := by
  unfold onD at h
  split at h
  · exact ⟨_, rfl, h⟩
  · exact h.elim
noncomputable def dSeqI (w : DE) : DI := fun ρ n Q => w ρ n fun r n1 => onD (fixR r) fun x => onO (itemsOf x) fun ys => Q ys n1
noncomputable def rangeD (lo : Int) (n : Nat) : List PyData := (List.range n).map fun (i : Nat) => PyData.int (lo + (i : Int))
noncomputable def onI1 (rs : List RV) (F : Int → Prop) : Prop := match rs with
  | [.d (.int j)] => F j
  | _ => False
theorem onI1_ex {rs : List RV} {F : Int → Prop} (h : onI1 rs F) : ∃ b, rs = [.d (.int b)] ∧ F b := by
  unfold onI1 at h
  split at h
  · exact ⟨_, rfl, h⟩
  · exact h.elim
noncomputable def onI2 (rs : List RV) (F : Int → Int → Prop) : Prop := match rs with
  | [.d (.int i), .d (.int j)] => F i j
  | _ => False
noncomputable def dRange1 (w : DA) : DI := fun ρ n Q => w ρ n fun rs n1 => onI1 rs fun j => (-(2 ^ 62) ≤ j ∧ j < 2 ^ 62) ∧ Q (rangeD 0 j.toNat) n1
noncomputable def dRange2 (w : DA) : DI := fun ρ n Q => w ρ n fun rs n1 => onI2 rs fun i j => (-(2 ^ 62) ≤ i ∧ i < 2 ^ 62 ∧ -(2 ^ 62) ≤ j ∧ j < 2 ^ 62) ∧ Q (rangeD i (j - i).toNat) n1
section
variable {X : Cx} {tg a b : Expr} {wa wb : DE} {pos p : Pos}
theorem valsInt1 {K : PySem.W.Frag} {bxs : List Addr} {n : Nat} {B H : Hp} {i : Int} : ∀ {vs : List V}, ValsR K bxs n B H [.d (.int i)] vs → vs = [.int i]
  | [], h => h.elim
  | [v], h => by
    have h1 : Dp K B v (.int i) := h.1
    cases h1
    rfl
  | _ :: _ :: _, h => h.2.elim
theorem li_range1 {wr : DA} (hg : Gl X "range") (hm : X.mg "range" = none) (ha : LA X [a] wr) (hs : starEach [a] X.env = [(false, eval a X.env)] := by rfl) : LI X tg (.Call (.Name "range" p) [a] [] pos) (dRange1 wr) := pi_imp (pi_range1 hg hm ha hs) fun σ H R hu => by
  obtain ⟨ρ, n, B, bxs, Qd, g, e, w1, q⟩ := hu
  refine ⟨ρ, n, B, bxs, _, g, e, w1, fun rs n1 vs B1 H1 hq s1 vr f1 => ?_⟩
  obtain ⟨j, rfl, ⟨h1, h2⟩, hq⟩ := onI1_ex hq
  obtain rfl := valsInt1 vr
  exact ⟨j, rfl, h1, h2, q _ _ _ _ _ hq s1 (itr_range 0 _)⟩
end

/-! ### targets: data is stored into slots -/
noncomputable abbrev DG := PyData → DEnv → (DEnv → Prop) → Prop
noncomputable abbrev DGs := List PyData → DEnv → (DEnv → Prop) → Prop
theorem EnvR.set {K : PySem.W.Frag} {bxs : List Addr} {n : Nat} {B H : Hp} {σ : L2.St} {ρ : DEnv} (e : EnvR K bxs n B H σ ρ) (i : Nat) {x : PyData} {v : V} (h : Dp K B v x) : EnvR K bxs n B H (σ.set i (some v)) (ρ.set i (some (.d x))) where
  len := by rw [List.length_set, List.length_set, e.len]
  val := fun j r hr => by
    by_cases hij : i = j
    · subst hij
      have hi : i < ρ.length := by
        have := (List.getElem?_eq_some_iff.mp hr).1
        rwa [List.length_set] at this
      rw [List.getElem?_set_self hi] at hr
      cases hr
      exact ⟨v, List.getElem?_set_self (by rw [e.len]; exact hi), h⟩
    · rw [List.getElem?_set_ne hij] at hr
      rw [List.getElem?_set_ne hij]
      exact e.val j r hr
  own := fun j k r r' p h1 h2 o1 o2 h3 h4 => by
    have nj : i ≠ j := fun q => by
      subst q
      have hi : i < ρ.length := by
        have := (List.getElem?_eq_some_iff.mp h1).1
        rwa [List.length_set] at this
      rw [List.getElem?_set_self hi] at h1
      cases h1
      exact o1.elim
    have nk : i ≠ k := fun q => by
      subst q
      have hi : i < ρ.length := by
        have := (List.getElem?_eq_some_iff.mp h2).1
        rwa [List.length_set] at this
      rw [List.getElem?_set_self hi] at h2
      cases h2
      exact o2.elim
    rw [List.getElem?_set_ne nj] at h1 h3
    rw [List.getElem?_set_ne nk] at h2 h4
    exact e.own j k r r' p h1 h2 o1 o2 h3 h4
  ok := ok_set e.ok trivial
structure UpdR (vs : List Nat) (σ σ' : L2.St) (ρ ρ' : DEnv) : Prop where
  out : ∀ j, j ∉ vs → σ'[j]? = σ[j]?
  len : σ'.length = σ.length
  own : ∀ (j : Nat) (r : RV), ρ'[j]? = some (some r) → isOwn r → ρ[j]? = some (some r) ∧ σ'[j]? = σ[j]?
theorem UpdR.refl (σ : L2.St) (ρ : DEnv) : UpdR [] σ σ ρ ρ := ⟨fun _ _ => rfl, rfl, fun _ _ h _ => ⟨h, rfl⟩⟩
theorem UpdR.set (σ : L2.St) (ρ : DEnv) (i : Nat) (v : V) (x : PyData) : UpdR [i] σ (σ.set i (some v)) ρ (ρ.set i (some (.d x))) where
  out := fun j hj => List.getElem?_set_ne fun q => hj (by simp [q])
  len := List.length_set
  own := fun j r h o => by
    have nj : i ≠ j := fun q => by
      subst q
      have hi : i < ρ.length := by
        have := (List.getElem?_eq_some_iff.mp h).1
        rwa [List.length_set] at this
      rw [List.getElem?_set_self hi] at h
      cases h
      exact o.elim
    rw [List.getElem?_set_ne nj] at h
    exact ⟨h, List.getElem?_set_ne nj⟩
theorem UpdR.trans {us vs : List Nat} {σ1 σ2 σ3 : L2.St} {ρ1 ρ2 ρ3 : DEnv} (a : UpdR us σ1 σ2 ρ1 ρ2) (b : UpdR vs σ2 σ3 ρ2 ρ3) : UpdR (us ++ vs) σ1 σ3 ρ1 ρ3 where
  out := fun j hj => by
    rw [List.mem_append, not_or] at hj
    rw [b.out j hj.2, a.out j hj.1]
  len := b.len.trans a.len
  own := fun j r h o => by
    obtain ⟨h1, h2⟩ := b.own j r h o
    obtain ⟨h3, h4⟩ := a.own j r h1 o
    exact ⟨h3, h2.trans h4⟩
/-- a target that takes data; the heap is not changed -/
noncomputable def LG (X : Cx) (tg : Expr) (vs : List Nat) (w : DG) : Prop := ∃ g : TG, PG X tg g ∧
  ∀ (bxs : List Addr) (n : Nat) (B H : Hp) (σ : L2.St) (ρ : DEnv) (v : V) (x : PyData) (Qd : DEnv → Prop) (Q : L2.St → Hp → Prop), Good bxs n B H → EnvR X.K bxs n B H σ ρ → Dp X.K B v x → w x ρ Qd →
    (∀ σ' ρ', Qd ρ' → EnvR X.K bxs n B H σ' ρ' → UpdR vs σ σ' ρ ρ' → Q σ' H) → g v σ H Q
noncomputable def gdName (i : Nat) : DG := fun x ρ Q => Q (ρ.set i (some (.d x)))
noncomputable def gdNil : DGs := fun xs ρ Q => match xs with
  | [] => Q ρ
  | _ => False
noncomputable def gdCons (w : DG) (u : DGs) : DGs := fun xs ρ Q => match xs with
  | x :: r => w x ρ fun ρ' => u r ρ' Q
  | [] => False
noncomputable def gdTup (n : Nat) (u : DGs) : DG := fun x ρ Q => match x with
  | .tuple xs => xs.length = n ∧ u xs ρ Q
  | _ => False
section
variable {X : Cx} {pos : Pos}
theorem lg_name {i : Nat} {x : Str} (hN : X.N.Nodup) (hi : X.N[i]? = some x) (hx : Loc X.env.scope x) (hf : X.fn x = true ∨ X.env.scope.names.lookup x = some .local := by first | exact .inl rfl | exact .inr rfl | assumption) : LG X (.Name x pos) [i] (gdName i) :=
  ⟨gName i, pg_name hN hi hx hf, fun bxs n B H σ ρ v y Qd Q g e h w k => k _ _ w (e.set i h) (UpdR.set σ ρ i v y)⟩
end

/-! ### list comprehensions -/
noncomputable def wipeD (ρ : DEnv) : List Nat → DEnv
  | [] => ρ
  | v :: vs => (wipeD ρ vs).set v none
theorem wipe_get (σ : L2.St) : ∀ (vs : List Nat) (j : Nat), (wipe σ vs)[j]? = if j ∈ vs then (if j < σ.length then some none else none) else σ[j]?
  | [], j => by simp [wipe]
  | v :: vs, j => by
    unfold wipe
    by_cases h : v = j
    · subst h
      rw [if_pos (List.mem_cons_self ..)]
      by_cases hl : v < σ.length
      · rw [if_pos hl, List.getElem?_set_self (by rw [wipe_length]; exact hl)]
      · rw [if_neg hl, List.getElem?_eq_none (by rw [List.length_set, wipe_length]; omega)]
    · rw [List.getElem?_set_ne h, wipe_get σ vs j]
      by_cases hm : j ∈ vs
      · rw [if_pos hm, if_pos (List.mem_cons_of_mem _ hm)]
      · rw [if_neg hm, if_neg (by
          rw [List.mem_cons, not_or]
          exact ⟨fun q => h q.symm, hm⟩)]
theorem wipeD_length (ρ : DEnv) : ∀ vs : List Nat, (wipeD ρ vs).length = ρ.length
  | [] => rfl
  | v :: vs => by
    unfold wipeD
    rw [List.length_set, wipeD_length ρ vs]
theorem wipeD_some {ρ : DEnv} {i : Nat} {x : RV} : ∀ {vs : List Nat}, (wipeD ρ vs)[i]? = some (some x) → ρ[i]? = some (some x) ∧ i ∉ vs
  | [], h => ⟨h, by simp⟩
  | v :: vs, h => by
    unfold wipeD at h
    by_cases hi : v = i
    · subst hi
      by_cases hv : v < (wipeD ρ vs).length
      · rw [List.getElem?_set_self hv] at h
        cases h
      · rw [List.getElem?_eq_none (by rw [List.length_set]; omega)] at h
        cases h
    · rw [List.getElem?_set_ne hi] at h
      obtain ⟨h1, h2⟩ := wipeD_some h
      exact ⟨h1, by
        rw [List.mem_cons, not_or]
        exact ⟨fun q => hi q.symm, h2⟩⟩
theorem EnvR.wipe {K : PySem.W.Frag} {bxs : List Addr} {n : Nat} {B H : Hp} {σ : L2.St} {ρ : DEnv} (e : EnvR K bxs n B H σ ρ) (vs : List Nat) : EnvR K bxs n B H (wipe σ vs) (wipeD ρ vs) where
  len := by rw [wipe_length, wipeD_length, e.len]
  val := fun i r h => by
    obtain ⟨h1, h2⟩ := wipeD_some h
    obtain ⟨v, h3, h4⟩ := e.val i r h1
    exact ⟨v, by rw [wipe_get, if_neg h2]; exact h3, h4⟩
  own := fun i j r r' p h1 h2 o1 o2 h3 h4 => by
    obtain ⟨a1, a2⟩ := wipeD_some h1
    obtain ⟨b1, b2⟩ := wipeD_some h2
    rw [wipe_get, if_neg a2] at h3
    rw [wipe_get, if_neg b2] at h4
    exact e.own i j r r' p a1 b1 o1 o2 h3 h4
  ok := fun i r h => e.ok i r (wipeD_some h).1
theorem wipe_upd {σ σ' : L2.St} {ρ ρ' : DEnv} {us vs : List Nat} (u : UpdR us (wipe σ vs) σ' ρ ρ') (hs : ∀ j ∈ us, j ∈ vs) : wipe σ' vs = wipe σ vs := by
  apply List.ext_getElem?
  intro j
  have hl : σ'.length = σ.length := by rw [u.len, wipe_length]
  rw [wipe_get, wipe_get, hl]
  by_cases hj : j ∈ vs
  · rw [if_pos hj, if_pos hj]
  · rw [if_neg hj, if_neg hj, u.out j (fun q => hj (hs j q)), wipe_get, if_neg hj]
noncomputable def dat : RV → Option PyData
  | .d x => some x
  | .new xs => some (.list xs)
  | _ => none
theorem dat_fix {r : RV} {y : PyData} (h : dat r = some y) : fixR r = .d y := by
  cases r <;> first | (cases h; rfl) | cases h
noncomputable def dYes : DT := fun _ n Q => Q true n
noncomputable def dLc (wi : DI) (wg : DG) (tt : DT) (we : DE) (vs : List Nat) : DE := fun ρ n Q => wi ρ n fun items n1 => ∃ Inv : Nat → List PyData → Nat → Prop, Inv 0 [] n1 ∧
  (∀ i acc n z, Inv i acc n → items[i]? = some z → wg z (wipeD ρ vs) fun ρ' => tt ρ' n fun b n2 => if b = true then we ρ' n2 fun r n3 => onO (dat r) fun y => acc.length < sizeLine ∧ Inv (i + 1) (acc ++ [y]) n3 else Inv (i + 1) acc n2) ∧
  ∀ acc n, Inv items.length acc n → Q (.new acc) n
noncomputable abbrev LTs (X : Cx) (ifs : List Expr) (w : DT) : Prop := PTs X ifs (upT X.K w)
theorem lts_nil {X : Cx} : LTs X [] dYes := ⟨fun pins s σ H Q I hu => pts_nil.run pins s σ H Q I (by
  obtain ⟨ρ, n, B, bxs, Qd, g, e, w1, q⟩ := hu
  exact q _ _ _ _ w1 g.refl)⟩
end Dl

namespace Dl
open PySem PySem.Spec PyProof.Rows L2

noncomputable def upG (K : PySem.W.Frag) (vs : List Nat) (w : DG) : TG := fun v σ H Q => ∃ (bxs : List Addr) (n : Nat) (B : Hp) (ρ : DEnv) (x : PyData) (Qd : DEnv → Prop),
  Good bxs n B H ∧ EnvR K bxs n B H σ ρ ∧ Dp K B v x ∧ w x ρ Qd ∧ ∀ σ' ρ', Qd ρ' → EnvR K bxs n B H σ' ρ' → UpdR vs σ σ' ρ ρ' → Q σ' H
theorem lg_up {X : Cx} {tg : Expr} {vs : List Nat} {w : DG} (h : LG X tg vs w) : PG X tg (upG X.K vs w) := by
  obtain ⟨g, p, q⟩ := h
  refine ⟨fun pins s σ H v u Q I r hu => p.run pins s σ H v u Q I r ?_⟩
  obtain ⟨bxs, n, B, ρ, x, Qd, a1, a2, a3, a4, a5⟩ := hu
  exact q bxs n B H σ ρ v x Qd Q a1 a2 a3 a4 a5
/-- an item is laid -/
theorem yr_step {K : PySem.W.Frag} {bxs : List Addr} {n : Nat} {B H H' B0 : Hp} {x : V} {z : PyData} (g : Good bxs n B H) (sb : Same B0 B) (y : YR K B0 H x H' z) : ∃ B', Step bxs n n B H B' H' ∧ Dp K B' x z := by
  rcases y with ⟨rfl, hd⟩ | ⟨T, vs, zs, rfl, rfl, hT, rfl, hd⟩
  · exact ⟨B, g.refl, dpSame sb _ _ hd⟩
  · have hb := (freshB g hT).2
    exact ⟨upd B T (.tup vs), g.refl.lay g hT, .tup (.inl (.inl upd_same)) (dpSameAll (sb.trans (sub_add hb)) _ _ hd)⟩
theorem up_lc {K : PySem.W.Frag} {wi : DI} {wg : DG} {tt : DT} {we : DE} {vs us : List Nat} (hus : ∀ j ∈ us, j ∈ vs) (σ : L2.St) (H : Hp) (Q : VK) (hu : up K (dLc wi wg tt we vs) σ H Q) :
    tLc (upI K wi) (upG K us wg) (upT K tt) (up K we) vs σ H Q := by
  obtain ⟨ρ, n, B, bxs, Qd, g, e, w1, q⟩ := hu
  refine ⟨ρ, n, B, bxs, _, g, e, w1, fun items n1 B1 H1 J hq s1 ji => fun D hD => ?_⟩
  obtain ⟨Iv, h0, ht, hd⟩ := hq
  have g1 := g.step s1
  have fb := freshB g1 hD
  refine ⟨fun i m Hc => m = items.length - i ∧ i ≤ items.length ∧ ∃ (nc : Nat) (Bc : Hp) (acc : List PyData) (av : List V), Iv i acc nc ∧ Step bxs n nc B H Bc Hc ∧ Same B1 Bc ∧ Bc D = none ∧ Hc D = some (.lst av) ∧ DpAll K Bc av acc,
    ⟨_, rfl, Nat.zero_le _, n1, B1, [], [], h0, s1.lay0 hD, Same.refl _, fb.2, upd_same, .nil⟩, ?_⟩
  rintro i m Hc ⟨rfl, hi, nc, Bc, acc, av, iv, sc, sbc, bD, hDc, da⟩
  have gc := g.step sc
  have nD : D ∉ bxs := fb.1
  by_cases hlt : i < items.length
  · refine .inr ⟨ji.go i Hc (sbc.trans gc.sub) hlt, fun Hn => ∃ (nn : Nat) (Bn : Hp) (acn : List PyData) (avn : List V), Iv (i + 1) acn nn ∧ Step bxs n nn B H Bn Hn ∧ Same B1 Bn ∧ Bn D = none ∧ Hn D = some (.lst avn) ∧ DpAll K Bn avn acn,
      fun Hn hn => ⟨items.length - (i + 1), by omega, rfl, hlt, hn⟩, fun x Hy hy => ?_⟩
    have hz : items[i]? = some items[i] := List.getElem?_eq_getElem hlt
    obtain ⟨By, sy, dx⟩ := yr_step gc sbc (ji.yld i Hc x Hy items[i] (sbc.trans gc.sub) hy hz)
    have scy := sc.trans sy
    have gy := g.step scy
    have ey := (e.step scy).wipe vs
    have byD : By D = none := by rw [sy.b3 D (ne_none_of hDc)]; exact bD
    have hyD : Hy D = some (.lst av) := sy.h1 D _ nD hDc
    refine ⟨bxs, nc, By, wipeD ρ vs, items[i], _, gy, ey, dx, ht i acc nc items[i] iv hz, fun σ2 ρ2 hq2 e2 u2 => ⟨wipe_upd u2 hus, ?_⟩⟩
    refine ⟨ρ2, nc, By, bxs, _, gy, e2, hq2, fun b n2 B2 H2 hq3 s2 => ?_⟩
    have sc2 := scy.trans s2
    have g2 := g.step sc2
    have b2D : B2 D = none := by rw [s2.b3 D (ne_none_of hyD)]; exact byD
    have h2D : H2 D = some (.lst av) := s2.h1 D _ nD hyD
    have sb2 : Same B1 B2 := (sbc.trans sy.b1).trans s2.b1
    cases b with
    | false =>
      refine iteF ⟨n2, B2, acc, av, ?_, sc2, sb2, b2D, h2D, dpSameAll (sy.b1.trans s2.b1) _ _ da⟩
      have hq4 := hq3
      rw [if_neg Bool.false_ne_true] at hq4
      exact hq4
    | true =>
      rw [if_pos rfl] at hq3
      refine iteT ⟨ρ2, n2, B2, bxs, _, g2, e2.step s2, hq3, fun r n3 v B3 H3 hq4 s3 vr fr => ?_⟩
      obtain ⟨y, ey', hl, iv'⟩ := onO_ex hq4
      obtain ⟨B4, s4, vr4, sb4⟩ := fix_r g2 s3 vr fr
      rw [dat_fix ey'] at vr4
      have sc4 := sc2.trans s4
      have b4D : B4 D = none := by rw [s4.b3 D (ne_none_of h2D)]; exact b2D
      have h4D : H3 D = some (.lst av) := s4.h1 D _ nD h2D
      have da4 : DpAll K B4 av acc := dpSameAll ((sy.b1.trans s2.b1).trans s4.b1) _ _ da
      refine ⟨av, h4D, by rw [dpLen _ _ da]; exact hl, n3, B4, acc ++ [y], av ++ [v], iv', ?_, sb2.trans s4.b1, b4D, upd_same, dpApp _ _ _ _ da4 (.cons vr4 .nil)⟩
      have hnone : H D = none := s1.free hD
      exact {
        b1 := sc4.b1
        b2 := fun a u h => by
          have na : a ≠ D := fun z => by
            subst z
            rw [b4D] at h
            cases h
          rw [upd_ne na]
          exact sc4.b2 a u h
        b3 := sc4.b3
        h1 := fun a u ha h => by
          rw [upd_ne (ne_of_none h hnone)]
          exact sc4.h1 a u ha h
        bx := fun b hb => (sc4.bx b hb).keep fun u h => by
          have na : b ≠ D := fun z => nD (z ▸ hb)
          rw [upd_ne na]
          exact h
        nn := sc4.nn }
  · have el : i = items.length := by omega
    subst el
    refine .inl ⟨ji.stop Hc (sbc.trans gc.sub), ?_⟩
    exact q _ _ _ _ _ (hd acc nc iv) sc ⟨D, av, rfl, nD, bD, hDc, da⟩ ⟨D, rfl, s1.free hD⟩
section
variable {X : Cx} {elt tg iter : Expr} {ifs : List Expr} {scope : Scope} {own : List (Str × Nat)} {us : List Nat} {pos spos : Pos} {wi : DI} {wg : DG} {tt : DT} {we : DE}
theorem le_lc (hc : X.calm = true) (hN : X.N.Nodup) (hi : LI X tg iter wi) (ok : blkC X.N X.env.scope scope own = true)
    (hg : ∀ (s : Shared) (H : Hp) (C : Addr) (cl : List (Str × Addr)) (fp : List Addr), LG (X.blk s H scope (compEnvC scope cl C X.env) fp) tg us wg) (ht : ∀ (s : Shared) (H : Hp) (C : Addr) (cl : List (Str × Addr)) (fp : List Addr), LTs (X.blk s H scope (compEnvC scope cl C X.env) fp) ifs tt)
    (he : ∀ (s : Shared) (H : Hp) (C : Addr) (cl : List (Str × Addr)) (fp : List Addr), LE (X.blk s H scope (compEnvC scope cl C X.env) fp) elt we) (hus : ∀ j ∈ us, j ∈ own.map (·.2) := by decide) (hs : ∀ x, foldedSetIterable iter X.env x = pure x := by intro _; rfl) :
    LE X (.ListComp elt [⟨tg, iter, ifs, 0⟩] scope pos) (dLc wi wg tt we (own.map (·.2))) :=
  pe_imp (pe_lc hc hN hi (blkOk_by ok) (fun s H C cl fp => lg_up (hg s H C cl fp)) ht he hs) (up_lc hus)
end

/-! ### statements -/
structure Ent where
  B : Hp
  H : Hp
  bxs : List Addr
  n : Nat
structure SInv (K : PySem.W.Frag) (E : Ent) (M : Hp) (n : Nat) (B H : Hp) (bxs : List Addr) (σ : L2.St) (ρ : DEnv) : Prop where
  st : Step E.bxs E.n n E.B E.H B H
  mb : Same M B
  g : Good bxs n B H
  bs : ∀ b ∈ bxs, b ∈ E.bxs ∨ E.H b = none
  sup : ∀ b ∈ E.bxs, b ∈ bxs
  env : EnvR K bxs n B H σ ρ
  ow : ∀ (i : Nat) (r : RV) (p : Addr), ρ[i]? = some (some r) → isOwn r → σ[i]? = some (some (.ref p)) → E.H p = none
structure DEnds where
  nx : DEnv → Nat → Prop
  rt : RV → Nat → Prop
  bk : DEnv → Nat → Prop := fun _ _ => False
  ct : DEnv → Nat → Prop := fun _ _ => False
noncomputable abbrev DS := DEnds → DEnv → Nat → Prop
noncomputable def RetR (K : PySem.W.Frag) (E : Ent) (n : Nat) (B H : Hp) (r : RV) (v : V) : Prop := Step E.bxs E.n n E.B E.H B H ∧ ValR K E.bxs n B H r v ∧ FrR E.H r v ∧ retOk r
structure EndsR (K : PySem.W.Frag) (E : Ent) (M : Hp) (D : Ends) (Dd : DEnds) : Prop where
  nx : ∀ n B H bxs σ ρ, SInv K E M n B H bxs σ ρ → Dd.nx ρ n → D.nx σ H
  rt : ∀ n B H r v, RetR K E n B H r v → Dd.rt r n → D.rt v H
  bk : ∀ n B H bxs σ ρ, SInv K E M n B H bxs σ ρ → Dd.bk ρ n → D.bk σ H
  ct : ∀ n B H bxs σ ρ, SInv K E M n B H bxs σ ρ → Dd.ct ρ n → D.ct σ H
noncomputable def upS (K : PySem.W.Frag) (E : Ent) (w : DS) : TS := fun D σ H => ∃ (ρ : DEnv) (n : Nat) (B M : Hp) (bxs : List Addr) (Dd : DEnds), SInv K E M n B H bxs σ ρ ∧ w Dd ρ n ∧ EndsR K E M D Dd
noncomputable abbrev LS (X : Cx) (E : Ent) (st : Stmt) (w : DS) : Prop := PS X st (upS X.K E w)
noncomputable abbrev LSs (X : Cx) (E : Ent) (st : List Stmt) (w : DS) : Prop := PSs X st (upS X.K E w)
theorem ps_imp {X : Cx} {e : Stmt} {t t' : TS} (h : PS X e t) (i : ∀ D σ H, t' D σ H → t D σ H) : PS X e t' := ⟨fun pins s σ H D I q => h.run pins s σ H D I (i D σ H q)⟩
theorem pss_imp {X : Cx} {e : List Stmt} {t t' : TS} (h : PSs X e t) (i : ∀ D σ H, t' D σ H → t D σ H) : PSs X e t' := ⟨fun pins s σ H D I q => h.run pins s σ H D I (i D σ H q)⟩
theorem SInv.step {K : PySem.W.Frag} {E : Ent} {M : Hp} {n n1 : Nat} {B H B1 H1 : Hp} {bxs : List Addr} {σ : L2.St} {ρ : DEnv} (h : SInv K E M n B H bxs σ ρ) (s : Step bxs n n1 B H B1 H1) : SInv K E M n1 B1 H1 bxs σ ρ :=
  ⟨h.st.then s h.bs fun b hb => .inl (h.sup b hb), h.mb.trans s.b1, h.g.step s, h.bs, h.sup, h.env.step s, h.ow⟩
theorem SInv.upd {K : PySem.W.Frag} {E : Ent} {M : Hp} {n : Nat} {B H : Hp} {bxs : List Addr} {σ σ' : L2.St} {ρ ρ' : DEnv} {vs : List Nat} (h : SInv K E M n B H bxs σ ρ) (e : EnvR K bxs n B H σ' ρ') (u : UpdR vs σ σ' ρ ρ') : SInv K E M n B H bxs σ' ρ' :=
  ⟨h.st, h.mb, h.g, h.bs, h.sup, e, fun i r p h1 o h2 => by
    obtain ⟨a1, a2⟩ := u.own i r h1 o
    rw [a2] at h2
    exact h.ow i r p a1 o h2⟩
noncomputable def dNext : DS := fun D ρ n => D.nx ρ n
noncomputable def dSeq (w u : DS) : DS := fun D ρ n => w { D with nx := u D } ρ n
section
variable {X : Cx} {E : Ent} {st : Stmt} {rest : List Stmt} {w u : DS} {pos : Pos}
theorem lss_nil : LSs X E [] dNext := pss_imp pss_nil fun D σ H hu => by
  obtain ⟨ρ, n, B, M, bxs, Dd, h, w1, q⟩ := hu
  exact q.nx _ _ _ _ _ _ h w1
theorem lss_one (h1 : LS X E st w) : LSs X E [st] w := pss_one h1
theorem lss_cons (h1 : LS X E st w) (h2 : LSs X E rest u) : LSs X E (st :: rest) (dSeq w u) := pss_imp (pss_cons h1 h2) fun D σ H hu => by
  obtain ⟨ρ, n, B, M, bxs, Dd, h, w1, q⟩ := hu
  refine ⟨ρ, n, B, M, bxs, { Dd with nx := u Dd }, h, w1, ⟨fun n1 B1 H1 b1 σ1 ρ1 h1 w2 => ?_, q.rt, q.bk, q.ct⟩⟩
  exact ⟨ρ1, n1, B1, M, b1, Dd, h1, w2, q⟩
/-! assignment to a name -/
noncomputable def setR (r : RV) (F : RV → Prop) : Prop := match r with
  | .d x => F (.d x)
  | .new xs => F (.d (.list xs))
  | .box => F .box
  | .nbox => F .box
  | .bor _ => False
  | .own _ => False
  | .obj _ => False
noncomputable def dSet (i : Nat) (w : DE) : DS := fun D ρ n => w ρ n fun r n1 => setR r fun r' => D.nx (ρ.set i (some r')) n1
/-- the name owns the new list -/
noncomputable def onN (r : RV) (F : List PyData → Prop) : Prop := match r with
  | .new b => F b
  | _ => False
theorem onN_ex {r : RV} {F : List PyData → Prop} (h : onN r F) : ∃ b, r = .new b ∧ F b := by
  unfold onN at h
  split at h
  · exact ⟨_, rfl, h⟩
  · exact h.elim
noncomputable def dOwn (i : Nat) (w : DE) : DS := fun D ρ n => w ρ n fun r n1 => onN r fun xs => D.nx (ρ.set i (some (.new xs))) n1
theorem EnvR.setBox {K : PySem.W.Frag} {bxs : List Addr} {n : Nat} {B H : Hp} {σ : L2.St} {ρ : DEnv} (e : EnvR K bxs n B H σ ρ) (i : Nat) {b : Addr} (h : b ∈ bxs) : EnvR K bxs n B H (σ.set i (some (.ref b))) (ρ.set i (some .box)) where
  len := by rw [List.length_set, List.length_set, e.len]
  val := fun j r hr => by
    by_cases hij : i = j
    · subst hij
      have hi : i < ρ.length := by
        have := (List.getElem?_eq_some_iff.mp hr).1
        rwa [List.length_set] at this
      rw [List.getElem?_set_self hi] at hr
      cases hr
      exact ⟨.ref b, List.getElem?_set_self (by rw [e.len]; exact hi), b, rfl, h⟩
    · rw [List.getElem?_set_ne hij] at hr
      rw [List.getElem?_set_ne hij]
      exact e.val j r hr
  own := fun j k r r' p h1 h2 o1 o2 h3 h4 => by
    have nn : ∀ (m : Nat) (z : RV), isOwn z → (ρ.set i (some RV.box))[m]? = some (some z) → i ≠ m := fun m z o hm q => by
      subst q
      have hi : i < ρ.length := by
        have := (List.getElem?_eq_some_iff.mp hm).1
        rwa [List.length_set] at this
      rw [List.getElem?_set_self hi] at hm
      cases hm
      exact o.elim
    have nj := nn j r o1 h1
    have nk := nn k r' o2 h2
    rw [List.getElem?_set_ne nj] at h1 h3
    rw [List.getElem?_set_ne nk] at h2 h4
    exact e.own j k r r' p h1 h2 o1 o2 h3 h4
  ok := ok_set e.ok trivial
theorem ow_set {K : PySem.W.Frag} {σ : L2.St} {ρ : DEnv} {i : Nat} {r : RV} {v : V} (hr : ¬ isOwn r) {E : Ent} (h : ∀ (i : Nat) (r : RV) (p : Addr), ρ[i]? = some (some r) → isOwn r → σ[i]? = some (some (.ref p)) → E.H p = none) :
    ∀ (j : Nat) (z : RV) (p : Addr), (ρ.set i (some r))[j]? = some (some z) → isOwn z → (σ.set i (some v))[j]? = some (some (.ref p)) → E.H p = none := fun j z p h1 o h2 => by
  have nj : i ≠ j := fun q => by
    subst q
    have hi : i < ρ.length := by
      have := (List.getElem?_eq_some_iff.mp h1).1
      rwa [List.length_set] at this
    rw [List.getElem?_set_self hi] at h1
    cases h1
    exact hr o
  rw [List.getElem?_set_ne nj] at h1 h2
  exact h j z p h1 o h2
/-- what a value stored at slot i leaves -/
theorem set_inv {K : PySem.W.Frag} {M : Hp} {n n1 : Nat} {B H B1 H1 : Hp} {bxs : List Addr} {σ : L2.St} {ρ : DEnv} {i : Nat} {r : RV} {v : V} {F : RV → Prop} (h : SInv K E M n B H bxs σ ρ) (s : Step bxs n n1 B H B1 H1) (vr : ValR K bxs n1 B1 H1 r v) (fr : FrR H r v) (hf : setR r F) :
    ∃ r' B2 bxs2, F r' ∧ SInv K E M n1 B2 H1 bxs2 (σ.set i (some v)) (ρ.set i (some r')) := by
  cases r with
  | d x =>
    have h1 := h.step s
    exact ⟨.d x, B1, bxs, hf, h1.upd (h1.env.set i vr) (UpdR.set σ ρ i v x)⟩
  | new xs =>
    obtain ⟨B2, s2, vr2, _⟩ := fix_r h.g s vr fr
    have h1 := h.step s2
    exact ⟨_, B2, bxs, hf, h1.upd (h1.env.set i vr2) (UpdR.set σ ρ i v (.list xs))⟩
  | bor xs => exact hf.elim
  | own T => exact hf.elim
  | box =>
    obtain ⟨b, rfl, hb⟩ := vr
    have h1 := h.step s
    exact ⟨.box, B1, bxs, hf, h1.st, h1.mb, h1.g, h1.bs, h1.sup, h1.env.setBox i hb, ow_set (K := K) (r := .box) (fun q => q) h1.ow⟩
  | obj o0 => exact hf.elim
  | nbox =>
    obtain ⟨b, rfl, hb, hB, hbox⟩ := vr
    obtain ⟨b', eb, hfr⟩ := fr
    cases eb
    have h1 := h.step s
    have e2 : EnvR K (b :: bxs) n1 B1 H1 σ ρ := ⟨h1.env.len, fun j r hj => by
      obtain ⟨u, e1, e2⟩ := h.env.val j r hj
      obtain ⟨u', e1', e3⟩ := h1.env.val j r hj
      rw [e1] at e1'
      cases e1'
      refine ⟨u, e1, ?_⟩
      cases r with
      | d x => exact e3
      | new xs =>
        obtain ⟨p, vs, rfl, a1, a2, a3, a4⟩ := e3
        obtain ⟨p', vs', ep, c1, c2, c3, c4⟩ := e2
        cases ep
        refine ⟨p, vs, rfl, ?_, a2, a3, a4⟩
        rw [List.mem_cons, not_or]
        exact ⟨fun q => (by subst q; rw [hfr] at c3; cases c3), a1⟩
      | bor xs =>
        obtain ⟨p, vs, rfl, a1, a2, a3, a4⟩ := e3
        obtain ⟨p', vs', ep, c1, c2, c3, c4⟩ := e2
        cases ep
        refine ⟨p, vs, rfl, ?_, a2, a3, a4⟩
        rw [List.mem_cons, not_or]
        exact ⟨fun q => (by subst q; rw [hfr] at c3; cases c3), a1⟩
      | own T =>
        obtain ⟨p, o, rfl, a1, a2, a3, a4⟩ := e3
        obtain ⟨p', o', ep, c1, c2, c3, c4⟩ := e2
        cases ep
        refine ⟨p, o, rfl, ?_, a2, a3, a4⟩
        rw [List.mem_cons, not_or]
        exact ⟨fun q => (by subst q; rw [hfr] at c3; cases c3), a1⟩
      | box =>
        obtain ⟨p, rfl, a1⟩ := e3
        exact ⟨p, rfl, .tail _ a1⟩
      | obj o0 => exact e3
      | nbox =>
        obtain ⟨p, rfl, a1, a2, a3⟩ := e3
        obtain ⟨p', ep, c1, c2, c3⟩ := e2
        cases ep
        refine ⟨p, rfl, ?_, a2, a3⟩
        rw [List.mem_cons, not_or]
        exact ⟨fun q => by subst q; exact c3.ne hfr, a1⟩, h1.env.own, h1.env.ok⟩
    refine ⟨.box, B1, b :: bxs, hf, h1.st, h1.mb, ⟨h1.g.sub, fun c hc => ?_⟩, fun c hc => ?_, fun c hc => .tail _ (h1.sup c hc), e2.setBox i (.head _), ow_set (K := K) (r := .box) (fun q => q) h1.ow⟩
    · rcases List.mem_cons.mp hc with q | q
      · subst q
        exact ⟨hB, hbox⟩
      · exact h1.g.box c q
    · rcases List.mem_cons.mp hc with q | q
      · subst q
        exact .inr (h.st.free hfr)
      · exact h1.bs c q
theorem up_set {K : PySem.W.Frag} {i : Nat} {we : DE} (D : Ends) (σ : L2.St) (H : Hp) (hu : upS K E (dSet i we) D σ H) : tAsg (up K we) (gName i) D σ H := by
  obtain ⟨ρ, n, B, M, bxs, Dd, h, w1, q⟩ := hu
  refine ⟨ρ, n, B, bxs, _, h.g, h.env, w1, fun r n1 v B1 H1 hq s1 vr fr => ?_⟩
  obtain ⟨r', B2, bxs2, hf, h2⟩ := set_inv (i := i) h s1 vr fr hq
  exact q.nx _ _ _ _ _ _ h2 hf
theorem EnvR.setOwn {K : PySem.W.Frag} {bxs : List Addr} {n : Nat} {B H H0 : Hp} {σ : L2.St} {ρ : DEnv} (e : EnvR K bxs n B H σ ρ) (i : Nat) {p : Addr} {rn : RV} (hsl : slotOk rn) (h : ValR K bxs n B H rn (.ref p)) (hp : H0 p = none)
    (ho : ∀ (j : Nat) (r : RV) (q : Addr), ρ[j]? = some (some r) → isOwn r → σ[j]? = some (some (.ref q)) → H0 q ≠ none) : EnvR K bxs n B H (σ.set i (some (.ref p))) (ρ.set i (some rn)) where
  len := by rw [List.length_set, List.length_set, e.len]
  val := fun j r hr => by
    by_cases hij : i = j
    · subst hij
      have hi : i < ρ.length := by
        have := (List.getElem?_eq_some_iff.mp hr).1
        rwa [List.length_set] at this
      rw [List.getElem?_set_self hi] at hr
      cases hr
      exact ⟨.ref p, List.getElem?_set_self (by rw [e.len]; exact hi), h⟩
    · rw [List.getElem?_set_ne hij] at hr
      rw [List.getElem?_set_ne hij]
      exact e.val j r hr
  own := fun j k r r' q h1 h2 o1 o2 h3 h4 => by
    by_cases hj : i = j
    · by_cases hk : i = k
      · exact hj.symm.trans hk
      · subst hj
        rw [List.getElem?_set_ne hk] at h2 h4
        have hi : i < ρ.length := by
          have := (List.getElem?_eq_some_iff.mp h1).1
          rwa [List.length_set] at this
        rw [List.getElem?_set_self (by rw [e.len]; exact hi)] at h3
        cases h3
        exact absurd hp (ho k r' p h2 o2 h4)
    · by_cases hk : i = k
      · subst hk
        rw [List.getElem?_set_ne hj] at h1 h3
        have hi : i < ρ.length := by
          have := (List.getElem?_eq_some_iff.mp h2).1
          rwa [List.length_set] at this
        rw [List.getElem?_set_self (by rw [e.len]; exact hi)] at h4
        cases h4
        exact absurd hp (ho j r p h1 o1 h3)
      · rw [List.getElem?_set_ne hj] at h1 h3
        rw [List.getElem?_set_ne hk] at h2 h4
        exact e.own j k r r' q h1 h2 o1 o2 h3 h4
  ok := ok_set e.ok hsl
/-- an own thing stands -/
theorem own_at {K : PySem.W.Frag} {bxs : List Addr} {n : Nat} {B H : Hp} {r : RV} {q : Addr} (h : ValR K bxs n B H r (.ref q)) (o : isOwn r) : q ∉ bxs ∧ B q = none ∧ ∃ u, H q = some u := by
  cases r with
  | new xs =>
    obtain ⟨p, vs, e, h1, h2, h3, h4⟩ := h
    cases e
    exact ⟨h1, h2, _, h3⟩
  | own T =>
    obtain ⟨p, vs, e, h1, h2, h3, h4⟩ := h
    cases e
    exact ⟨h1, h2, _, h3⟩
  | d x => exact o.elim
  | bor x => exact o.elim
  | box => exact o.elim
  | obj o0 => exact o.elim
  | nbox => exact o.elim
theorem own_ref {K : PySem.W.Frag} {bxs : List Addr} {n : Nat} {B H : Hp} {r : RV} {v : V} (h : ValR K bxs n B H r v) (o : isOwn r) : ∃ p, v = .ref p := by
  cases r with
  | new xs => exact ⟨_, h.choose_spec.choose_spec.1⟩
  | own T => exact ⟨_, h.choose_spec.choose_spec.1⟩
  | d x => exact o.elim
  | bor x => exact o.elim
  | box => exact o.elim
  | obj o0 => exact o.elim
  | nbox => exact o.elim
theorem own_fr {H : Hp} {r : RV} {q : Addr} (h : FrR H r (.ref q)) (o : isOwn r) : H q = none := by
  cases r with
  | new xs =>
    obtain ⟨p, e, h1⟩ := h
    cases e
    exact h1
  | own T =>
    obtain ⟨p, e, h1⟩ := h
    cases e
    exact h1
  | d x => exact o.elim
  | bor x => exact o.elim
  | box => exact o.elim
  | obj o0 => exact o.elim
  | nbox => exact o.elim
theorem own_slot {r : RV} (o : isOwn r) : slotOk r := by
  cases r <;> first | trivial | exact o.elim
theorem own_inv {K : PySem.W.Frag} {M : Hp} {n n1 : Nat} {B H B1 H1 : Hp} {bxs : List Addr} {σ : L2.St} {ρ : DEnv} {i : Nat} {r : RV} {v : V} (ow : isOwn r) (h : SInv K E M n B H bxs σ ρ) (s1 : Step bxs n n1 B H B1 H1) (vr : ValR K bxs n1 B1 H1 r v) (fr : FrR H r v) :
    SInv K E M n1 B1 H1 bxs (σ.set i (some v)) (ρ.set i (some r)) := by
  obtain ⟨p, rfl⟩ := own_ref vr ow
  have hp := own_fr fr ow
  have h1 := h.step s1
  have ho : ∀ (j : Nat) (r : RV) (q : Addr), ρ[j]? = some (some r) → isOwn r → σ[j]? = some (some (.ref q)) → H q ≠ none := fun j r z e1 o e2 => by
    obtain ⟨u, e3, e4⟩ := h.env.val j _ e1
    rw [e2] at e3
    cases e3
    obtain ⟨_, _, o, e5⟩ := own_at e4 o
    exact ne_none_of e5
  refine ⟨h1.st, h1.mb, h1.g, h1.bs, h1.sup, h1.env.setOwn i (own_slot ow) vr hp ho, fun j r z e1 o e2 => ?_⟩
  by_cases hj : i = j
  · subst hj
    have hi : i < ρ.length := by
      have := (List.getElem?_eq_some_iff.mp e1).1
      rwa [List.length_set] at this
    rw [List.getElem?_set_self (by rw [h.env.len]; exact hi)] at e2
    cases e2
    exact h.st.free hp
  · rw [List.getElem?_set_ne hj] at e1 e2
    exact h.ow j r z e1 o e2
/-- the name owns the new thing -/
noncomputable def dOwnT (i : Nat) (w : DE) : DS := fun D ρ n => w ρ n fun r n1 => isOwn r ∧ D.nx (ρ.set i (some r)) n1
variable {x : Str} {e : Expr} {we : DE} {pos' : Pos}
theorem ls_set (i : Nat) (hN : X.N.Nodup) (he : LE X e we) (hi : X.N[i]? = some x := by rfl) (hx : Loc X.env.scope x := by first | exact Or.inl rfl | exact Or.inr rfl) (hs : swapsWith e (some (.Name x pos')) pos.line X.env = pure false := by rfl)
    (hf : X.fn x = true ∨ X.env.scope.names.lookup x = some .local := by first | exact .inl rfl | exact .inr rfl | assumption) : LS X E (.Assign [.Name x pos'] e pos) (dSet i we) := ps_imp (ps_set hN hi hx he hs hf) up_set
end
section
variable {X : Cx} {E : Ent} {elt tg iter : Expr} {ifs : List Expr} {scope : Scope} {own : List (Str × Nat)} {us : List Nat} {pos spos py : Pos} {wi : DI} {wg : DG} {tt : DT} {we : DE} {y : Str}
end
end Dl

namespace Dl
open PySem PySem.Spec PyProof.Rows L2

theorem SInv.weak {K : PySem.W.Frag} {E : Ent} {M M' : Hp} {n : Nat} {B H : Hp} {bxs : List Addr} {σ : L2.St} {ρ : DEnv} (h : SInv K E M' n B H bxs σ ρ) (s : Same M M') : SInv K E M n B H bxs σ ρ :=
  ⟨h.st, s.trans h.mb, h.g, h.bs, h.sup, h.env, h.ow⟩
/-- an own thing is changed -/
theorem SInv.writeT {K : PySem.W.Frag} {E : Ent} {M : Hp} {n : Nat} {B H : Hp} {bxs : List Addr} {σ : L2.St} {ρ : DEnv} (h : SInv K E M n B H bxs σ ρ) {i : Nat} {r0 r1 : RV} {p : Addr} (hi : ρ[i]? = some (some r0)) (o0 : isOwn r0) (o1 : isOwn r1) (hs : σ[i]? = some (some (.ref p)))
    {ob : HO} (hd : ValR K bxs n B (L2.upd H p ob) r1 (.ref p)) : SInv K E M n B (L2.upd H p ob) bxs σ (ρ.set i (some r1)) := by
  obtain ⟨v, e1, e0⟩ := h.env.val i _ hi
  rw [hs] at e1
  cases e1
  obtain ⟨a1, a2, ou, a3⟩ := own_at e0 o0
  have hE := h.ow i r0 p hi o0 hs
  have nB : ∀ a o, B a = some o → a ≠ p := fun a o e q => by
    subst q
    rw [a2] at e
    cases e
  have hil : i < ρ.length := (List.getElem?_eq_some_iff.mp hi).1
  refine ⟨⟨h.st.b1, fun a o e => by rw [upd_ne (nB a o e)]; exact h.st.b2 a o e, h.st.b3, fun a o ha e => ?_, fun b hb => ?_, h.st.nn⟩, h.mb, ⟨fun a o e => by rw [upd_ne (nB a o e)]; exact h.g.sub a o e, fun b hb => ⟨(h.g.box b hb).1, ?_⟩⟩, h.bs, h.sup, ⟨?_, ?_, ?_, ok_set h.env.ok (own_slot o1)⟩, ?_⟩
  · rw [upd_ne (ne_of_none e hE)]
    exact h.st.h1 a o ha e
  · refine (h.st.bx b hb).keep fun o e => ?_
    rw [upd_ne (show b ≠ p from fun q => a1 (by rw [← q]; exact h.sup b hb))]
    exact e
  · refine (h.g.box b hb).2.keep fun o e => ?_
    rw [upd_ne (show b ≠ p from fun q => a1 (by rw [← q]; exact hb))]
    exact e
  · rw [List.length_set]
    exact h.env.len
  · intro j r hj
    by_cases hij : i = j
    · subst hij
      rw [List.getElem?_set_self hil] at hj
      cases hj
      exact ⟨.ref p, hs, hd⟩
    · rw [List.getElem?_set_ne hij] at hj
      obtain ⟨u, e2, e3⟩ := h.env.val j r hj
      refine ⟨u, e2, ?_⟩
      cases r with
      | d x => exact e3
      | new ys =>
        obtain ⟨q, us, rfl, c1, c2, c3, c4⟩ := e3
        have nq : q ≠ p := fun z => hij (h.env.own i j _ _ p hi hj o0 trivial hs (z ▸ e2))
        exact ⟨q, us, rfl, c1, c2, by rw [upd_ne nq]; exact c3, c4⟩
      | own T =>
        obtain ⟨q, us, rfl, c1, c2, c3, c4⟩ := e3
        have nq : q ≠ p := fun z => hij (h.env.own i j _ _ p hi hj o0 trivial hs (z ▸ e2))
        exact ⟨q, us, rfl, c1, c2, by rw [upd_ne nq]; exact c3, c4⟩
      | bor ys =>
        exact (h.env.ok j _ hj).elim
      | box => exact e3
      | obj o0 => exact e3
      | nbox => exact (h.env.ok j _ hj).elim
  · intro j k r r' q h1 h2 w1 w2 h3 h4
    have f : ∀ (m : Nat) (z : RV), isOwn z → (ρ.set i (some r1))[m]? = some (some z) → ∃ z', isOwn z' ∧ ρ[m]? = some (some z') := fun m z oz hm => by
      by_cases him : i = m
      · subst him
        exact ⟨r0, o0, hi⟩
      · rw [List.getElem?_set_ne him] at hm
        exact ⟨z, oz, hm⟩
    obtain ⟨z1, y1, f1⟩ := f j r w1 h1
    obtain ⟨z2, y2, f2⟩ := f k r' w2 h2
    exact h.env.own j k z1 z2 q f1 f2 y1 y2 h3 h4
  · intro j r q h1 o h2
    by_cases him : i = j
    · subst him
      exact h.ow i r0 q hi o0 h2
    · rw [List.getElem?_set_ne him] at h1
      exact h.ow j r q h1 o h2
/-- an owned list is changed -/
theorem SInv.write {K : PySem.W.Frag} {E : Ent} {M : Hp} {n : Nat} {B H : Hp} {bxs : List Addr} {σ : L2.St} {ρ : DEnv} (h : SInv K E M n B H bxs σ ρ) {i : Nat} {xs : List PyData} {p : Addr} (hi : ρ[i]? = some (some (.new xs))) (hs : σ[i]? = some (some (.ref p)))
    {vs' : List V} {xs' : List PyData} (hd : DpAll K B vs' xs') : SInv K E M n B (L2.upd H p (.lst vs')) bxs σ (ρ.set i (some (.new xs'))) := by
  obtain ⟨v, e1, e0⟩ := h.env.val i _ hi
  rw [hs] at e1
  cases e1
  obtain ⟨a1, a2, _⟩ := own_at e0 trivial
  exact h.writeT (r0 := .new xs) (r1 := .new xs') hi trivial trivial hs ⟨p, vs', rfl, a1, a2, upd_same, hd⟩
section
variable {X : Cx} {E : Ent} {pos apos cpos p1 p2 : Pos} {e c o j tg iter : Expr} {we wj : DE} {x : Str} {w : DT} {wa wb : DS} {a b body : List Stmt}
/-! ### append, items stored -/
noncomputable def onS (r : Option (Option RV)) (F : List PyData → Prop) : Prop := match r with
  | some (some (.new b)) => F b
  | _ => False
theorem onS_ex {r : Option (Option RV)} {F : List PyData → Prop} (h : onS r F) : ∃ b, r = some (some (.new b)) ∧ F b := by
  unfold onS at h
  split at h
  · exact ⟨_, rfl, h⟩
  · exact h.elim
noncomputable def dAppend (i : Nat) (we : DE) : DS := fun D ρ n => onS ρ[i]? fun xs => we ρ n fun r n1 => onO (dat r) fun y => xs.length < sizeLine ∧ D.nx (ρ.set i (some (.new (xs ++ [y])))) n1
/-- x[j] = e, x an own list: e first -/
noncomputable def dSetIx (i : Nat) (wj we : DE) : DS := fun D ρ n => we ρ n fun r n1 => onO (dat r) fun y => onS ρ[i]? fun xs => wj ρ n1 fun rj n2 => onI rj fun k => ∃ m, ixN xs.length k = some m ∧ D.nx (ρ.set i (some (.new (xs.set m y)))) n2
/-! ### return, if, loops -/
noncomputable def retR (r : RV) (F : RV → Prop) : Prop := match r with
  | .d x => F (.d x)
  | .new xs => F (.new xs)
  | .nbox => F .nbox
  | _ => False
noncomputable def dRet (we : DE) : DS := fun D ρ n => we ρ n fun r n1 => retR r fun r' => D.rt r' n1
theorem ret_inv {K : PySem.W.Frag} {M : Hp} {n n1 : Nat} {B H B1 H1 : Hp} {bxs : List Addr} {σ : L2.St} {ρ : DEnv} {r : RV} {v : V} {F : RV → Prop} (h : SInv K E M n B H bxs σ ρ) (s : Step bxs n n1 B H B1 H1) (vr : ValR K bxs n1 B1 H1 r v) (fr : FrR H r v) (hf : retR r F) : RetR K E n1 B1 H1 r v ∧ F r := by
  have h1 := h.step s
  cases r with
  | d x => exact ⟨⟨h1.st, vr, trivial, trivial⟩, hf⟩
  | new xs =>
    obtain ⟨p, vs, rfl, a1, a2⟩ := vr
    obtain ⟨p', ep, hp⟩ := fr
    cases ep
    exact ⟨⟨h1.st, ⟨p, vs, rfl, fun q => a1 (h.sup p q), a2⟩, ⟨p, rfl, h.st.free hp⟩, trivial⟩, hf⟩
  | obj o0 => exact hf.elim
  | nbox =>
    obtain ⟨p, rfl, a1, a2⟩ := vr
    obtain ⟨p', ep, hp⟩ := fr
    cases ep
    exact ⟨⟨h1.st, ⟨p, rfl, fun q => a1 (h.sup p q), a2⟩, ⟨p, rfl, h.st.free hp⟩, trivial⟩, hf⟩
  | bor xs => exact hf.elim
  | own T => exact hf.elim
  | box => exact hf.elim
theorem ls_ret (he : LE X e we) : LS X E (.Return (some e) pos) (dRet we) := ps_imp (ps_ret he) fun D σ H hu => by
  obtain ⟨ρ, n, B, M, bxs, Dd, h, w1, q⟩ := hu
  refine ⟨ρ, n, B, bxs, _, h.g, h.env, w1, fun r n1 v B1 H1 hq s1 vr fr => ?_⟩
  obtain ⟨h1, h2⟩ := ret_inv h s1 vr fr hq
  exact q.rt _ _ _ _ _ h1 h2
/-- return of an own list -/
noncomputable def dRetO (i : Nat) : DS := fun D ρ n => onS ρ[i]? fun xs => D.rt (.new xs) n
noncomputable def dIfS (w : DT) (wa wb : DS) : DS := fun D ρ n => w ρ n fun b n1 => if b = true then wa D ρ n1 else wb D ρ n1
theorem ls_if (hc : LT X c w) (ha : LSs X E a wa) (hb : LSs X E b wb) : LS X E (.If c a b pos) (dIfS w wa wb) := ps_imp (ps_if hc ha hb) fun D σ H hu => by
  obtain ⟨ρ, n, B, M, bxs, Dd, h, w1, q⟩ := hu
  refine ⟨ρ, n, B, bxs, _, h.g, h.env, w1, fun bv n1 B1 H1 hq s1 => ?_⟩
  cases bv with
  | true => exact iteT ⟨ρ, n1, B1, M, bxs, Dd, h.step s1, hq, q⟩
  | false => exact iteF ⟨ρ, n1, B1, M, bxs, Dd, h.step s1, hq, q⟩
noncomputable def dFor (wi : DI) (wg : DG) (wb : DS) : DS := fun D ρ n => wi ρ n fun items n1 => ∃ Inv : Nat → DEnv → Nat → Prop, Inv 0 ρ n1 ∧
  (∀ i ρ n z, Inv i ρ n → items[i]? = some z → wg z ρ fun ρ' => wb { nx := Inv (i + 1), ct := Inv (i + 1), bk := D.nx, rt := D.rt } ρ' n) ∧ ∀ ρ n, Inv items.length ρ n → D.nx ρ n
theorem ls_for {us : List Nat} {wi : DI} {wg : DG} (hp : PassesOwn (model X.prog X.w) X.A X.env X.xe) (hc : X.calm = true) (hi : LI X tg iter wi) (hg : LG X tg us wg) (hb : LSs X E body wb) (hs : ∀ x, foldedSetIterable iter X.env x = pure x := by intro _; rfl) :
    LS X E (.For tg iter body [] pos) (dFor wi wg wb) := ps_imp (ps_for hp hc hi (lg_up hg) hb hs) fun D σ H hu => by
  obtain ⟨ρ, n, B, M, bxs, Dd, h, w1, q⟩ := hu
  refine ⟨ρ, n, B, bxs, _, h.g, h.env, w1, fun items n1 B1 H1 J hq s1 ji => ?_⟩
  obtain ⟨Iv, h0, ht, hd⟩ := hq
  have h1 := h.step s1
  have hM : Same M B1 := h1.mb
  have h1' : SInv X.K E B1 n1 B1 H1 bxs σ ρ := ⟨h1.st, Same.refl _, h1.g, h1.bs, h1.sup, h1.env, h1.ow⟩
  refine ⟨fun i m σ' H' => m = items.length - i ∧ i ≤ items.length ∧ ∃ (ρ' : DEnv) (n' : Nat) (B' : Hp) (bxs' : List Addr), SInv X.K E B1 n' B' H' bxs' σ' ρ' ∧ Iv i ρ' n', ⟨_, rfl, Nat.zero_le _, ρ, n1, B1, bxs, h1', h0⟩, ?_⟩
  rintro i m σ' H' ⟨rfl, hle, ρ', n', B', bxs', hv, iv⟩
  by_cases hlt : i < items.length
  · refine .inr ⟨ji.go i H' (hv.mb.trans hv.g.sub) hlt, fun σ2 H2 => ∃ (ρ2 : DEnv) (n2 : Nat) (B2 : Hp) (bxs2 : List Addr), SInv X.K E B1 n2 B2 H2 bxs2 σ2 ρ2 ∧ Iv (i + 1) ρ2 n2, fun σ2 H2 hn => ⟨items.length - (i + 1), by omega, rfl, hlt, hn⟩, fun xv Hy hy => ?_⟩
    have hz : items[i]? = some items[i] := List.getElem?_eq_getElem hlt
    obtain ⟨By, sy, dx⟩ := yr_step hv.g hv.mb (ji.yld i H' xv Hy items[i] (hv.mb.trans hv.g.sub) hy hz)
    have hy' := hv.step sy
    refine ⟨bxs', n', By, ρ', items[i], _, hy'.g, hy'.env, dx, ht i ρ' n' items[i] iv hz, fun σ2 ρ2 hq2 e2 u2 => ?_⟩
    refine ⟨ρ2, n', By, B1, bxs', _, hy'.upd e2 u2, hq2, ⟨fun n3 B3 H3 b3 σ3 ρ3 h3 w3 => ⟨ρ3, n3, B3, b3, h3, w3⟩, q.rt, fun n3 B3 H3 b3 σ3 ρ3 h3 w3 => q.nx _ _ _ _ _ _ (h3.weak hM) w3, fun n3 B3 H3 b3 σ3 ρ3 h3 w3 => ⟨ρ3, n3, B3, b3, h3, w3⟩⟩⟩
  · have el : i = items.length := by omega
    subst el
    exact .inl ⟨ji.stop H' (hv.mb.trans hv.g.sub), q.nx _ _ _ _ _ _ (hv.weak hM) (hd ρ' n' iv)⟩
noncomputable def dPass : DS := fun D ρ n => D.nx ρ n
noncomputable def dBreak : DS := fun D ρ n => D.bk ρ n
noncomputable def dCont : DS := fun D ρ n => D.ct ρ n
/-! ### several targets -/
/-- a, b = e: the value is a tuple -/
noncomputable def dUnp (we : DE) (wg : DG) : DS := fun D ρ n => we ρ n fun r n1 => onO (dat r) fun y => wg y ρ fun ρ' => D.nx ρ' n1
noncomputable def on2 (r : Option (List PyData)) (F : PyData → PyData → Prop) : Prop := match r with
  | some [x, y] => F x y
  | _ => False
noncomputable def on3 (r : Option (List PyData)) (F : PyData → PyData → PyData → Prop) : Prop := match r with
  | some [x, y, z] => F x y z
  | _ => False
/-- a, b = e1, e2 stored without a tuple -/
noncomputable def dPar2 (i j : Nat) (wr : DA) : DS := fun D ρ n => wr ρ n fun rs n1 => on2 (datas rs) fun x y => D.nx ((ρ.set i (some (.d x))).set j (some (.d y))) n1
noncomputable def dPar3 (i j l : Nat) (wr : DA) : DS := fun D ρ n => wr ρ n fun rs n1 => on3 (datas rs) fun x y z => D.nx (((ρ.set i (some (.d x))).set j (some (.d y))).set l (some (.d z))) n1
variable {y z : Str} {px py pz pt : Pos} {wr : DA} {ea eb ec : Expr} {kt k2 : Nat} {pt2 : Pos}
/-- an own list that is only read from here on -/
noncomputable def dFrz (i : Nat) (w : DS) : DS := fun D ρ n => onS ρ[i]? fun xs => w D (ρ.set i (some (.d (.list xs)))) n
end
/-! ### a def by its body -/
noncomputable def startD (N : List Str) (rs : List RV) : DEnv := rs.map some ++ List.replicate (N.length - rs.length) none
theorem argIn_get : ∀ {rs : List RV} {i : Nat} {r : RV}, argsIn rs → rs[i]? = some r → argIn r
  | [], i, r, _, e => by simp at e
  | r :: rs, 0, r', h, e => by
    have e' : r = r' := Option.some.inj e
    subst e'
    exact h.1
  | r :: rs, i + 1, r', h, e => argIn_get (rs := rs) (i := i) h.2 (by simpa using e)
theorem vals_get {K : PySem.W.Frag} {bxs : List Addr} {n : Nat} {B H : Hp} : ∀ {rs : List RV} {vs : List V} {i : Nat} {r : RV}, ValsR K bxs n B H rs vs → rs[i]? = some r → ∃ v, vs[i]? = some v ∧ ValR K bxs n B H r v
  | [], _, i, r, _, e => by simp at e
  | _ :: _, [], _, _, h, _ => h.elim
  | r :: rs, v :: vs, 0, r', h, e => by
    have e' : r = r' := Option.some.inj e
    subst e'
    exact ⟨v, rfl, h.1⟩
  | r :: rs, v :: vs, i + 1, r', h, e => by
    obtain ⟨u, e1, e2⟩ := vals_get (i := i) h.2 (by simpa using e)
    exact ⟨u, by simpa using e1, e2⟩
theorem vals_len {K : PySem.W.Frag} {bxs : List Addr} {n : Nat} {B H : Hp} : ∀ {rs : List RV} {vs : List V}, ValsR K bxs n B H rs vs → rs.length = vs.length
  | [], [], _ => rfl
  | [], _ :: _, h => h.elim
  | _ :: _, [], h => h.elim
  | _ :: rs, _ :: vs, h => by
    rw [List.length_cons, List.length_cons, vals_len h.2]
theorem startD_get {N : List Str} {rs : List RV} {i : Nat} {r : RV} (h : (startD N rs)[i]? = some (some r)) : rs[i]? = some r := by
  unfold startD at h
  by_cases hi : i < rs.length
  · rw [List.getElem?_append_left (by simpa using hi), List.getElem?_map] at h
    cases e : rs[i]? with
    | none => rw [e] at h; cases h
    | some r' =>
      rw [e] at h
      cases h
      rfl
  · rw [List.getElem?_append_right (by simpa using hi), List.getElem?_replicate] at h
    split at h <;> cases h
section
variable {P : Program} {w : World} {K : PySem.W.Frag} {mg : Str → Option Value} {base : Heap}
theorem fng_mk {x qual : Str} {st : Stmt} {f : Addr} {fd : FuncData} {N ps : List Str} {k : Nat} {c : DSp} {wb : DS} (F : Fun K x qual st f fd) (S : FnScope N ps (defScope st))
    (hlen : ∀ rs n Q, c rs n Q → rs.length = ps.length)
    (hbody : ∀ (cdv : Value) (A : Around) (outer : List Env) (s : Shared) (H : Hp) (E : Ent), Here k (A.deeper (envOfC qual (defScope st) s.heap.objs.size f cdv)) → LSs (cxOf CX0 P w K mg base N qual (defScope st) f cdv A outer s H E0).nox E (defBody st) wb)
    (hd : ∀ rs n Qd, argsIn rs → c rs n Qd → wb { nx := fun _ n' => Qd (.d .none) n', rt := Qd } (startD N rs) n) : FnG P w K mg base (k + 1) f fd ps (lift K c) := by
  refine fng_of F S (fun vs H Q E h => ?_) (fun cdv A outer s H vs Q hr hg h => ?_)
  · obtain ⟨rs, n, B, bxs, Qd, g, vr, ai, hc, q⟩ := h
    rw [← vals_len vr]
    exact hlen _ _ _ hc
  · obtain ⟨rs, n, B, bxs, Qd, g, vr, ai, hc, q⟩ := h
    have hl := vals_len vr
    refine ⟨_, hbody cdv A outer s H ⟨B, H, bxs, n⟩ ⟨hr, hg⟩, ?_⟩
    refine ⟨startD N rs, n, B, B, bxs, _, ⟨g.refl, Same.refl _, g, fun b hb => .inl hb, fun b hb => hb, ⟨?_, ?_, ?_, ?_⟩, ?_⟩, hd rs n Qd ai hc, ⟨?_, ?_, ?_, ?_⟩⟩
    · unfold startD L2.start
      rw [List.length_append, List.length_append, List.length_map, List.length_map, List.length_replicate, List.length_replicate, hl]
    · intro i r h
      obtain ⟨v, e1, e2⟩ := vals_get vr (startD_get h)
      refine ⟨v, ?_, e2⟩
      unfold L2.start
      have hi : i < vs.length := (List.getElem?_eq_some_iff.mp e1).1
      rw [List.getElem?_append_left (by simpa using hi), List.getElem?_map, e1]
      rfl
    · intro i j r r' p h1 h2 o1 o2 h3 h4
      have := argIn_get ai (startD_get h1)
      cases r <;> first | exact o1.elim | exact this.elim
    · intro i r h
      have := argIn_get ai (startD_get h)
      cases r <;> first | trivial | exact this.elim
    · intro i r p h1 o1 h2
      have := argIn_get ai (startD_get h1)
      cases r <;> first | exact o1.elim | exact this.elim
    · intro n1 B1 H1 b1 σ1 ρ1 h1 w1
      exact q _ _ _ _ _ w1 trivial h1.st .non trivial
    · intro n1 B1 H1 r v h1 w1
      exact q _ _ _ _ _ w1 h1.2.2.2 h1.1 h1.2.1 h1.2.2.1
    · intro n1 B1 H1 b1 σ1 ρ1 h1 w1
      exact w1.elim
    · intro n1 B1 H1 b1 σ1 ρ1 h1 w1
      exact w1.elim
theorem def_mk {x qual : Str} {st : Stmt} {f : Addr} {fd : FuncData} {N ps : List Str} {k : Nat} {c : DSp} {wb : DS} (F : Fun K x qual st f fd) (S : FnScope N ps (defScope st)) (hm : mg x = some (.ref f)) (hb : Binds K fd ps [])
    (hlen : ∀ rs n Q, c rs n Q → rs.length = ps.length)
    (hbody : ∀ (cdv : Value) (A : Around) (outer : List Env) (s : Shared) (H : Hp) (E : Ent), Here k (A.deeper (envOfC qual (defScope st) s.heap.objs.size f cdv)) → LSs (cxOf CX0 P w K mg base N qual (defScope st) f cdv A outer s H E0).nox E (defBody st) wb)
    (hd : ∀ rs n Qd, argsIn rs → c rs n Qd → wb { nx := fun _ n' => Qd (.d .none) n', rt := Qd } (startD N rs) n) : Def P w K mg base (k + 1) x ps c :=
  ⟨f, fd, fng_mk F S hlen hbody hd, hm, F.kp, hb⟩
end
/-! ### the law -/
noncomputable def spLaw : DSp := fun rs n Q => ∃ ns : List Int, rs = [.d (.list (ns.map PyData.int))] ∧ ns.length ≤ 63 ∧ (∀ z ∈ ns, Builtin.Int.intBits z ≤ 1048576) ∧ n = 0 ∧ ∀ n', Q (.d (.bool true)) n'
theorem law_g {P : Program} {w : World} {K : PySem.W.Frag} {mg mb : Str → Option Value} {k : Nat} {fa a : Addr} {fd : FuncData} {x : Str} {s1 : Shared} {vs : List Value} {ns : List Int}
    (KX : K.In s1.heap) (hns : s1.heap.Ns mainGlobals mg) (hb : s1.heap.Ns builtinsNs mb) (hbb : ∀ x : Str, x ≠ "__name__" → mb x = bootBuiltins x) (hlim : s1.heap.NoLimit) (hsm : Sm s1.heap) (hg : s1.gens = #[])
    (ha : s1.heap.get? a = some { cls := .type "list", data := .seq vs.toArray }) (hi : IntsAre vs ns) (hl : ns.length ≤ sizeLine) (hr : Room k callerA)
    (F : ∀ base : Heap, K.In base → base.Ns mainGlobals mg → Sm base → FnG P w K mg base k fa fd [x] (lift K spLaw)) (hbind : ∀ (s : Shared) (u : Value), BindsTo s fd ⟨[u], []⟩ [(x, u)])
    (h63 : ns.length ≤ 63) (hbits : ∀ z ∈ ns, Builtin.Int.intBits z ≤ 1048576) :
    codeAny (model P w) callerA (.call (.ref fa) ⟨[.ref a], []⟩) (fun r s' => r = .ok (.ret (.bool true)) ∧ OldK s1.heap s'.heap ∧ s'.os = s1.os ∧ AllBare s'.gens) s1 := by
  have relI := vals_ints hi
  have main : ∀ G : Hp, Only G → SqL K G a (ns.map V.int) → HOk P w G s1.heap → (∀ b, G b ≠ none → b = a) → (G a ≠ none → K.lookup a = none) →
      codeAny (model P w) callerA (.call (.ref fa) ⟨[.ref a], []⟩) (fun r s' => r = .ok (.ret (.bool true)) ∧ OldK s1.heap s'.heap ∧ s'.os = s1.os ∧ AllBare s'.gens) s1 := by
    intro G hO hS hok hA hK
    have out : ∀ {b : Addr} {o : Obj}, s1.heap.get? b = some o → G b = none → (hidT s1.heap G).get? b = some o := fun e1 e2 => hidT_get e1 e2
    have noD : ∀ {b : Addr} {o : Obj} {es : Array DictEntry} {ep : Nat}, s1.heap.get? b = some o → o.data = .dict es ep → G b = none := by
      intro b o es ep e1 e2
      cases q : G b with
      | none => rfl
      | some z =>
        obtain rfl := hA b (by rw [q]; simp)
        rw [ha] at e1
        cases e1
        cases e2
    have nsOut : ∀ {b : Addr} {m : Str → Option Value}, s1.heap.Ns b m → (hidT s1.heap G).Ns b m := by
      rintro b m ⟨o, es, ep, e1, e2, r⟩
      exact ⟨o, es, ep, out e1 (noD e1 e2), e2, r⟩
    have kOut : K.In (hidT s1.heap G) := by
      intro b o e1
      refine out (KX b o e1) ?_
      cases q : G b with
      | none => rfl
      | some z =>
        obtain rfl := hA b (by rw [q]; simp)
        rw [hK (by rw [q]; simp)] at e1
        cases e1
    have md : Mod K mg (hidT s1.heap G) := ⟨kOut, nsOut hns, ⟨mb, nsOut hb, hbb⟩, by
      obtain ⟨mc, c1, c2⟩ := hlim
      exact ⟨mc, nsOut c1, c2⟩⟩
    have e0 : Env0 P w K mg (hidT s1.heap G) callerA [] s1 G := ⟨rfl, md, fun b o e => of_hidT e, Nat.le_of_eq (hidT_size _ _), trivial, fun b hb => (nomatch hb), hok, .of_eq hg⟩
    have sp0 : lift K spLaw [.ref a] G (fun v _ => v = .bl true) E0 := by
      refine ⟨[.d (.list (ns.map PyData.int))], 0, G, [], fun r _ => r = .d (.bool true), ⟨Same.refl _, fun b hb => (nomatch hb)⟩, ⟨.lst hS (dpInts ns), trivial⟩, ⟨trivial, trivial⟩, ⟨ns, rfl, h63, hbits, rfl, fun _ => rfl⟩, ?_⟩
      rintro r n1 v B1 H1 rfl _ _ vr _
      cases vr
      rfl
    refine codeAny_mono ((F _ kOut (nsOut hns) (by obtain ⟨o, es, ep, e1, e2⟩ := hsm; exact ⟨o, es, ep, out e1 (noD e1 e2), e2⟩)).run callerA [] s1 G ⟨[.ref a], []⟩ [.ref a] [.ref a] _ hr rfl e0 (hbind s1 (.ref a)) (.cons rfl .nil) sp0) ?_
    intro r s' hq
    cases r with
    | error e => exact False.elim hq
    | ok fl =>
      cases fl with
      | next => exact False.elim hq
      | brk => exact False.elim hq
      | cont => exact False.elim hq
      | ret u =>
        obtain ⟨v, G', os, bare, un, hok', r', q⟩ := hq
        obtain rfl : v = .bl true := q
        obtain rfl : u = Value.bool true := r'
        refine ⟨rfl, OldK.of_keep ?_, os, bare⟩
        intro b o e1
        cases q : G b with
        | none => exact un.keep b o e1 q (fun z => (nomatch z)) (by simp)
        | some z =>
          rcases hO b with y | ⟨ob, xs, y⟩
          · rw [q] at y
            cases y
          · obtain ⟨f1, _⟩ := hok b _ y
            obtain ⟨f2, _⟩ := hok' b _ (un.frzs b ob _ y)
            rw [e1] at f1
            cases f1
            exact f2
  have lenV := hi.length
  cases hk : K.lookup a with
  | some o =>
    have e1 := KX a o hk
    rw [ha] at e1
    cases e1
    refine main (fun _ => none) (fun _ => .inl rfl) (.inr ⟨_, vs.toArray, _, hk, rfl, rfl, rfl, ?_, ?_⟩) (fun b u z => (nomatch z)) (fun b z => absurd rfl z) fun z => absurd rfl z
    · rw [List.size_toArray, lenV]
      exact hl
    · simpa using relI
  | none =>
    refine main (fun b => if b = a then some (.frz { cls := .type "list", data := .seq vs.toArray } (.lst (ns.map V.int))) else none) ?_ (.inl (.inr ⟨_, if_pos rfl⟩)) ?_ ?_ fun _ => hk
    · intro b
      by_cases q : b = a
      · exact .inr ⟨_, _, if_pos q⟩
      · exact .inl (if_neg q)
    · intro b u z
      by_cases q : b = a
      · have y := (if_pos q).symm.trans z
        cases y
        subst q
        refine ⟨ha, ?_, vs, _, relI, ha⟩
        rw [List.length_map]
        exact hl
      · have y := (if_neg q).symm.trans z
        cases y
    · intro b z
      by_cases q : b = a
      · exact q
      · exact absurd (if_neg q) z
/-- the goal behind k_head -/
theorem walk_g {l : PySem.W.OpenLaw} {k : Nat} {q : Program} {loose : List Str} {XP : (Str → Option Value) → Heap → Prop} {YP : World → Heap → Prop} {d : DefRec} {K : Params → PySem.W.Frag} {x : Str}
    (hn : l.most = some 63) (hdf : d.params.defaults = []) (hi : importsNone q = true) (hr : Room k callerA) (hY : ∀ (w : World) (h : Heap), YP w h → (K w.params).In h)
    (F : ∀ (w : World) (mg : Str → Option Value) (fa : Addr) (h : Heap), (K w.params).In h → h.Ns mainGlobals mg → mg d.name = some (.ref fa) →
      ∃ fd : FuncData, (∀ (s : Shared) (u : Value), BindsTo s fd ⟨[u], []⟩ [(x, u)]) ∧ ∀ base : Heap, (K w.params).In base → base.Ns mainGlobals mg → Sm base → FnG l.prog w (K w.params) mg base k fa fd [x] (lift (K w.params) spLaw)) :
    PySem.W.WalkO q loose XP YP l.row.toRowW d [] (fun f vs => PySem.call f vs) := by
  refine Att.attach_callB hn hdf ?_
  intro w s0 s1 mg mb fa o pm cd doc a vs ns G Y ho hd hcd hmg hobj hints hlen hbits hg
  have KX := hY w _ Y
  obtain ⟨fd, hb, hF⟩ := F w mg fa _ KX G.T.g hmg
  exact law_g KX G.T.g G.T.b G.T.builtins G.T.nolimit (by obtain ⟨mm, ⟨o, es, ep, e1, e2, _⟩, _⟩ := (G.T.seer hi).mods; exact ⟨o, es, ep, e1, e2⟩) hg hobj hints (Nat.le_trans hlen (by decide)) hr hF hb hlen hbits
end Dl

namespace Dl
open PySem PySem.Spec PyProof.Rows L2

/-! ### numbers of any size -/
theorem natAbs_lt {i : Int} {a : Nat} (h0 : 0 ≤ i) (h : i < 2 ^ a) : i.natAbs < 2 ^ a := by
  have e : ((2 : Int) ^ a) = ((2 ^ a : Nat) : Int) := by simp
  omega
theorem mulOk {i j : Int} (a b : Nat) (ha : i.natAbs < 2 ^ a) (hb : j.natAbs < 2 ^ b) (h : a + b ≤ 900000 := by decide) (h0 : 0 < a := by decide) (h1 : 0 < b := by decide) : CMulW i j := wide_mul ha hb h0 h1 (by omega)
theorem divOk {i j : Int} (b : Nat) (h : 0 < j) (hb : j < 2 ^ b) (h0 : 0 < b := by decide) (h9 : b ≤ 9000 := by decide) : CDivW i j := wide_div h (natAbs_lt (by omega) hb) h0 h9
noncomputable def CPowW (i j : Int) : Prop := 0 ≤ j ∧ (Builtin.Int.intBits i : Int) * j ≤ 1000000
theorem op_powW {X : Cx} : OpR X (binaryOp .Pow) (rI CPowW fun i j => .int (i ^ j.toNat)) := opI fun i j _ _ _ _ _ hc q => pow_int hc.1 (by
  have := hc.2
  first | omega | (exact Int.le_trans this (by decide))) q
theorem lo_powW {X : Cx} : LOp X (binaryOp .Pow) (wIC CPowW fun i j => i ^ j.toNat) := lo_wIC op_powW

/-! ### boxes -/
theorem box_step {bxs : List Addr} {n : Nat} {B H : Hp} (g : Good bxs n B H) {b : Addr} (hb : b ∈ bxs) {o z : Int} {c : Nat} (h0 : 0 ≤ o) (h1 : o < 2 ^ 1000) (h2 : 0 ≤ z) (h3 : z < 2 ^ 62) (h4 : c ≤ n + 1) :
    Step bxs n (n + 1) B H B (L2.upd H b (.lst [.int o, .int z, .int (c : Int)])) where
  b1 := Same.refl _
  b2 := fun a u h => by
    have na : a ≠ b := fun q => by
      subst q
      rw [(g.box a hb).1] at h
      cases h
    rw [upd_ne na]
    exact g.sub a u h
  b3 := fun _ _ => rfl
  h1 := fun a u ha h => by
    rw [upd_ne (show a ≠ b from fun q => ha (by rw [q]; exact hb))]
    exact h
  bx := fun b' hb' => by
    by_cases q : b' = b
    · subst q
      exact ⟨o, z, c, upd_same, h0, h1, h2, h3, h4⟩
    · refine ((g.box b' hb').2.keep fun u h => ?_).mono (Nat.le_succ _)
      rw [upd_ne q]
      exact h
  nn := Nat.le_succ _
/-- a draw: a number below m -/
noncomputable def spTake : DSp := fun rs n Q => ∃ m : Int, rs = [.box, .d (.int m)] ∧ 0 < m ∧ m < 2 ^ 64 ∧ n < 2 ^ 60 ∧ ∀ k : Int, 0 ≤ k → k < m → Q (.d (.int k)) (n + 1)
/-- a new box -/
noncomputable def spBox : DSp := fun rs n Q => ∃ (ns : List Int) (k : Int), rs = [.d (.list (ns.map PyData.int)), .d (.int k)] ∧ ns.length ≤ 63 ∧ (∀ z ∈ ns, Builtin.Int.intBits z ≤ 1048576) ∧ 0 ≤ k ∧ k ≤ 1000 ∧ Q .nbox n
/-- what the text of a box hands back -/
noncomputable def spBox0 : DSp := fun rs n Q => ∃ (ns : List Int) (k : Int), rs = [.d (.list (ns.map PyData.int)), .d (.int k)] ∧ ns.length ≤ 63 ∧ (∀ z ∈ ns, Builtin.Int.intBits z ≤ 1048576) ∧ 0 ≤ k ∧ k ≤ 1000 ∧
  ∀ o z : Int, 0 ≤ o → o < 2 ^ 1000 → 0 ≤ z → z < 2 ^ 62 → Q (.new [.int o, .int z, .int 0]) n
theorem box_of {P : Program} {w : World} {K : PySem.W.Frag} {mg : Str → Option Value} {base : Heap} {k : Nat} {x : Str} {ps : List Str} (D : Def P w K mg base k x ps spBox0) : Def P w K mg base k x ps spBox := by
  obtain ⟨f, fd, F, r⟩ := D.ex
  have imp : ∀ vs H Q E, lift K spBox vs H Q E → lift K spBox0 vs H Q E := by
    intro vs H Q E h
    obtain ⟨rs, n, B, bxs, Qd, g, vr, ai, ⟨ns, k, e, h1, h2, h3, h4, hq⟩, q⟩ := h
    refine ⟨rs, n, B, bxs, fun r n1 => ∃ o z : Int, 0 ≤ o ∧ o < 2 ^ 1000 ∧ 0 ≤ z ∧ z < 2 ^ 62 ∧ r = .new [.int o, .int z, .int 0] ∧ n1 = n, g, vr, ai, ⟨ns, k, e, h1, h2, h3, h4, fun o z a1 a2 a3 a4 => ⟨o, z, a1, a2, a3, a4, rfl, rfl⟩⟩, ?_⟩
    rintro r n1 v B1 H1 ⟨o, z, a1, a2, a3, a4, rfl, rfl⟩ _ s1 v1 f1
    obtain ⟨p, us, rfl, c1, c2, c3, c4⟩ := v1
    have eu := ofInts [o, z, 0] us c4
    subst eu
    exact q .nbox _ _ B1 H1 hq trivial s1 ⟨p, rfl, c1, c2, o, z, 0, c3, a1, a2, a3, a4, Nat.zero_le _⟩ f1
  exact ⟨f, fd, ⟨fun vs H Q E h => F.len vs H Q E (imp _ _ _ _ h), fun A outer s H args us vs Q hr hg e b v h => F.run A outer s H args us vs Q hr hg e b v (imp _ _ _ _ h)⟩, r⟩
end Dl
namespace Dl
open PySem PySem.Spec PyProof.Rows L2
/-- one statement at a time: the rest is a letter -/
theorem seq_def (w u : DS) (D : DEnds) (ρ : DEnv) (n : Nat) (h : ∀ R : DEnv → Nat → Prop, (∀ ρ n, R ρ n = u D ρ n) → w { D with nx := R } ρ n) : dSeq w u D ρ n := h _ fun _ _ => rfl
theorem if_bool {c : Bool} {A B : Prop} (h1 : c = true → A) (h2 : c = false → B) : if c = true then A else B := by
  cases c with
  | true => exact iteT (h1 rfl)
  | false => exact iteF (h2 rfl)
end Dl

namespace Dl
open PySem PySem.Spec PyProof.Rows L2
theorem atI_of {α : Type} {xs : List α} {i : Int} {x : α} (h0 : 0 ≤ i) (h : xs[i.toNat]? = some x) : atI xs i = some x := by
  have e := atI_nat h
  have e2 : ((i.toNat : Nat) : Int) = i := by omega
  rw [e2] at e
  exact e
theorem range_get {lo : Int} {m i : Nat} {z : PyData} (h : (rangeD lo m)[i]? = some z) : i < m ∧ z = .int (lo + i) := by
  unfold rangeD at h
  rw [List.getElem?_map] at h
  cases e : (List.range m)[i]? with
  | none => rw [e] at h; cases h
  | some j =>
    rw [e] at h
    obtain ⟨h1, h2⟩ := List.getElem?_eq_some_iff.mp e
    rw [List.length_range] at h1
    rw [List.getElem_range] at h2
    subst h2
    exact ⟨h1, (Option.some.inj h).symm⟩
theorem range_len (lo : Int) (m : Nat) : (rangeD lo m).length = m := by
  unfold rangeD
  rw [List.length_map, List.length_range]
end Dl
namespace Dl
open PySem PySem.Spec PyProof.Rows L2
/-! ### how long a repr is -/
mutual
noncomputable def rc : PyData → Nat
  | .none => 4
  | .bool _ => 5
  | .int i => i.natAbs.log2 + 2
  | .str x => (reprText x).length
  | .list xs => 2 + rcAll xs
  | .tuple xs => 4 + rcAll xs
  | .dict kvs => (PyData.shown (.dict kvs)).length
noncomputable def rcAll : List PyData → Nat
  | [] => 0
  | x :: xs => rc x + 2 + rcAll xs
end
theorem app_len (a b : Str) : (a ++ b).length = a.length + b.length := by
  first | exact PySem.Str.length_append a b | exact PySem.StrLaws.length_append a b | simp [Str.length]
theorem textFrom_up : ∀ (ts : List Str) (k : Nat) (acc : Str), (textFrom k acc ts).length ≤ acc.length + piled ts
  | [], k, acc => Nat.le_refl _
  | t :: ts, k, acc => by
    have ih := textFrom_up ts (k + 1) (acc ++ (if k > 0 then ", " else "" : String) ++ t)
    rw [app_len, app_len] at ih
    rw [piled_cons]
    have h2 : (Str.ofString (if k > 0 then ", " else "" : String)).length ≤ 2 := by
      split <;> decide
    show (textFrom (k + 1) (acc ++ (if k > 0 then ", " else "" : String) ++ t) ts).length ≤ _
    omega
theorem ofString_len (s : String) : (Str.ofString s).length = s.length := by
  exact PySem.ofString_length s
mutual
theorem shown_rc : ∀ x : PyData, x.shown.length ≤ rc x
  | .none => by decide
  | .bool b => by cases b <;> decide
  | .int i => by
    show (Str.ofString (toString i)).length ≤ i.natAbs.log2 + 2
    rw [ofString_len]
    exact int_text_length_le (k := i.natAbs.log2 + 1) (Nat.succ_pos _) (Nat.lt_succ_self _)
  | .str s => Nat.le_refl _
  | .list xs => by
    have h := shown_rcAll xs
    show (listText (PyData.shownAll xs)).length ≤ 2 + rcAll xs
    have h2 := textFrom_up (PyData.shownAll xs) 0 "["
    have h3 : (listText (PyData.shownAll xs)).length = (textFrom 0 "[" (PyData.shownAll xs)).length + 1 := by
      unfold listText
      rw [app_len]
      rfl
    have h4 : (Str.ofString "[").length = 1 := by decide
    omega
  | .tuple xs => by
    have h := shown_rcAll xs
    show (tupleText (PyData.shownAll xs)).length ≤ 4 + rcAll xs
    unfold tupleText
    rw [app_len, app_len]
    have h4 : (Str.ofString "(").length = 1 := by decide
    have h5 : (Str.ofString (if (PyData.shownAll xs).length == 1 then ",)" else ")" : String)).length ≤ 2 := by
      split <;> decide
    have h6 : (Str.join ", " (PyData.shownAll xs)).length ≤ piled (PyData.shownAll xs) := by
      cases e : PyData.shownAll xs with
      | nil => exact Nat.le_refl _
      | cons a b =>
        have := join_length_add (a :: b) (by simp)
        omega
    omega
  | .dict kvs => Nat.le_refl _
theorem shown_rcAll : ∀ xs : List PyData, piled (PyData.shownAll xs) ≤ rcAll xs
  | [] => Nat.le_refl _
  | x :: xs => by
    have h1 := shown_rc x
    have h2 := shown_rcAll xs
    unfold PyData.shownAll rcAll
    rw [piled_cons]
    omega
end
/-- a repr of at most c signs, d deep -/
structure RO (c d : Nat) (x : PyData) : Prop where
  sh : x.showable = true
  co : rc x ≤ c
  de : x.depth ≤ d
theorem RO.ok {c d : Nat} {x : PyData} (h : RO c d x) (hc : c ≤ 10000000 := by decide) (hd : d ≤ 60 := by decide) : ReprOk x :=
  ⟨h.sh, Nat.le_trans (shown_rc x) (Nat.le_trans h.co (Nat.le_trans hc (by decide))), Nat.le_trans h.de hd⟩
theorem RO.mono {c d c' d' : Nat} {x : PyData} (h : RO c d x) (hc : c ≤ c') (hd : d ≤ d') : RO c' d' x := ⟨h.sh, Nat.le_trans h.co hc, Nat.le_trans h.de hd⟩
end Dl
namespace Dl
open PySem PySem.Spec PyProof.Rows L2
/-! ### loops, one step at a time -/
theorem for_def (wi : DI) (wg : DG) (wb : DS) (D : DEnds) (ρ : DEnv) (n : Nat) (h : ∀ F : List PyData → Nat → Prop, (∀ items n1, (∃ Inv : Nat → DEnv → Nat → Prop, Inv 0 ρ n1 ∧
  (∀ i ρ n z, Inv i ρ n → items[i]? = some z → wg z ρ fun ρ' => wb { nx := Inv (i + 1), ct := Inv (i + 1), bk := D.nx, rt := D.rt } ρ' n) ∧ ∀ ρ n, Inv items.length ρ n → D.nx ρ n) → F items n1) → wi ρ n F) : dFor wi wg wb D ρ n :=
  h _ fun _ _ q => q
theorem lc_def (wi : DI) (wg : DG) (tt : DT) (we : DE) (vs : List Nat) (ρ : DEnv) (n : Nat) (Q : RV → Nat → Prop) (h : ∀ F : List PyData → Nat → Prop, (∀ items n1, (∃ Inv : Nat → List PyData → Nat → Prop, Inv 0 [] n1 ∧
  (∀ i acc n z, Inv i acc n → items[i]? = some z → wg z (wipeD ρ vs) fun ρ' => tt ρ' n fun b n2 => if b = true then we ρ' n2 fun r n3 => onO (dat r) fun y => acc.length < sizeLine ∧ Inv (i + 1) (acc ++ [y]) n3 else Inv (i + 1) acc n2) ∧
  ∀ acc n, Inv items.length acc n → Q (.new acc) n) → F items n1) → wi ρ n F) : dLc wi wg tt we vs ρ n Q := h _ fun _ _ q => q
theorem size_ok {n : Nat} (h : n ≤ 10000000) : n ≤ sizeLine := Nat.le_trans h (by decide)
theorem size_lt {n : Nat} (h : n ≤ 10000000) : n < sizeLine := Nat.lt_of_le_of_lt h (by decide)
end Dl
namespace Dl
theorem inv3 {α β γ : Type} (P : α → β → γ → Prop) : ∃ I : α → β → γ → Prop, ∀ a b c, I a b c ↔ P a b c := ⟨P, fun _ _ _ => Iff.rfl⟩
end Dl

namespace Dl
open PySem PySem.Spec PyProof.Rows L2
/-! ### tuple * int, all numbers -/
theorem tmul_same (l : Addr) (items : Array Value) (n : Nat) (sl : Array (Option Value)) (dd : Option Addr) (x : Int) (u : Tok) (c0 : (decide (x < -(2 ^ 63)) || decide (x ≥ 2 ^ 63)) = false) (c1 : (items.isEmpty || x == 1) = true) :
    Meets (Builtin.«tuple.__mul__» ⟨[.ref l, .int x u], []⟩) (fun _ R s => s.heap.get? l = some { cls := .type "tuple", dict := dd, data := .seq items n, slots := sl } ∧ R (.ok (.ret (Value.ref l))) s) :=
  .of_wp fun prog w A R s h => by
    obtain ⟨hp, g, d, tk, os⟩ := s
    obtain ⟨hl, h⟩ := h
    have f1 := AutoSeq1.idx_int
    wp_walk using wpAny_loadPart' hl
    repeat (first
      | (refine wpAny_ite_false (decide_eq_false (by rw [c0]; exact Bool.false_ne_true)) ?_; wp_walk using wpAny_loadPart' hl)
      | (refine wpAny_ite_true (decide_eq_true c1) ?_; wp_walk using wpAny_loadPart' hl))
    exact ⟨_, rfl, h⟩
theorem tmul_none (l : Addr) (items : Array Value) (n : Nat) (sl : Array (Option Value)) (dd : Option Addr) (x : Int) (u : Tok) (c0 : (decide (x < -(2 ^ 63)) || decide (x ≥ 2 ^ 63)) = false) (c1 : (items.isEmpty || x == 1) = false) (c2 : (decide (x ≤ 0) || items.isEmpty) = true) :
    Meets (Builtin.«tuple.__mul__» ⟨[.ref l, .int x u], []⟩) (fun _ R s => s.heap.get? l = some { cls := .type "tuple", dict := dd, data := .seq items n, slots := sl } ∧
      R (.ok (.ret (Value.ref s.heap.objs.size))) { s with heap := s.heap.push { cls := Value.type "tuple", data := Data.seq #[] }, toks := s.toks }) :=
  .of_wp fun prog w A R s h => by
    obtain ⟨hp, g, d, tk, os⟩ := s
    obtain ⟨hl, h⟩ := h
    have f1 := AutoSeq1.idx_int
    wp_walk using wpAny_loadPart' hl
    repeat (first
      | (refine wpAny_ite_false (decide_eq_false (by rw [c0]; exact Bool.false_ne_true)) ?_; wp_walk using wpAny_loadPart' hl)
      | (refine wpAny_ite_false (decide_eq_false (by rw [c1]; exact Bool.false_ne_true)) ?_; wp_walk using wpAny_loadPart' hl)
      | (refine wpAny_ite_true (decide_eq_true c2) ?_; wp_walk using wpAny_loadPart' hl))
    exact ⟨_, rfl, h⟩
section
variable {X : Cx}
theorem op_repA : OpR X (binaryOp .Mult) (fun x y H Q => ∃ l k xs, x = .ref l ∧ y = .int k ∧ SqT X.K H l xs ∧ -1000 ≤ k ∧ k ≤ 1000 ∧ (k ≤ 1 ∨ xs = []) ∧ (xs = [] ∨ k = 1 → Q (.ref l) H) ∧ (¬ (xs = [] ∨ k = 1) → ∀ p, H p = none → Q (.ref p) (L2.upd H p (.tup [])))) := by
  intro pins s σ H x y v u Q I rx ry h
  obtain ⟨l, k, xs, rfl, rfl, hT, h1, h2, h3, q1, q2⟩ := h
  cases rx
  obtain ⟨t, rfl⟩ := ry
  obtain ⟨its, r, ⟨⟨cls, dd, data, sl⟩, ho, hc, n, hd⟩, hs⟩ := I.tuple hT
  simp only at hc hd
  subst hc hd
  have c0 : (decide (k < -(2 ^ 63)) || decide (k ≥ 2 ^ 63)) = false := by
    rw [decide_eq_false (by omega), decide_eq_false (by omega)] <;> rfl
  have hem : its.toArray.isEmpty = xs.isEmpty := by
    cases r with
    | nil => rfl
    | cons _ _ => rfl
  by_cases hc1 : xs = [] ∨ k = 1
  · have c1 : (its.toArray.isEmpty || k == 1) = true := by
      rw [hem]
      rcases hc1 with e | e
      · rw [e]; rfl
      · rw [e]; simp
    refine wpAny_binaryOp_repeat_ref (T := "tuple") (U := "int") (by decide) ⟨_, ho, rfl⟩ (fun s' => typeIs_int s' k t) noFill_tuple_mul F.fills_int_mul F.slot_int_rmul repeat_tuple F.slot_int_index.lookup
      (call_meets F.slot_int_rmul (typeIs_int s k t) F.entry_int_rmul (F.args_int_rmul_2 _ _) (int_rmul_tuple k t l its.toArray n dd sl)
        ⟨ho, rfl, ⟨_, ho, rfl⟩, call_meets F.slot_tuple_mul ⟨_, ho, rfl⟩ F.entry_tuple_mul (F.args_tuple_mul_2 _ _) (tmul_same l its.toArray n sl dd k t c0 c1) ⟨ho, ?_⟩⟩)
    exact ⟨.ref l, H, I, rfl, q1 hc1⟩
  · have c1 : (its.toArray.isEmpty || k == 1) = false := by
      rw [hem, Bool.or_eq_false_iff]
      refine ⟨?_, beq_eq_false_iff_ne.mpr fun e => hc1 (.inr e)⟩
      cases xs with
      | nil => exact absurd (.inl rfl) hc1
      | cons a b => rfl
    have c2 : (decide (k ≤ 0) || its.toArray.isEmpty) = true := by
      have : k ≤ 0 := by
        have : k ≠ 1 := fun e => hc1 (.inr e)
        rcases h3 with h3 | h3
        · omega
        · exact absurd (.inl h3) hc1
      rw [decide_eq_true this]
      rfl
    refine wpAny_binaryOp_repeat_ref (T := "tuple") (U := "int") (by decide) ⟨_, ho, rfl⟩ (fun s' => typeIs_int s' k t) noFill_tuple_mul F.fills_int_mul F.slot_int_rmul repeat_tuple F.slot_int_index.lookup
      (call_meets F.slot_int_rmul (typeIs_int s k t) F.entry_int_rmul (F.args_int_rmul_2 _ _) (int_rmul_tuple k t l its.toArray n dd sl)
        ⟨ho, rfl, ⟨_, ho, rfl⟩, call_meets F.slot_tuple_mul ⟨_, ho, rfl⟩ F.entry_tuple_mul (F.args_tuple_mul_2 _ _) (tmul_none l its.toArray n sl dd k t c0 c1 c2) ⟨ho, ?_⟩⟩)
    refine ⟨.ref s.heap.objs.size, _, I.laid (t' := s.toks) (o := .tup []) (fun b ob z => Heap.get?_push_of_some _ z) (Nat.le_refl _) ?_, rfl, q2 hc1 _ (I.hok.fresh (Nat.le_refl _))⟩
    exact ⟨Nat.zero_le _, _, .nil, IsTup.new _ _⟩
/-- times a number: all kinds -/
noncomputable def wMulA : DOp := fun x y Q => match x, y with
  | .int i, .int j => CMulW i j ∧ Q (.d (.int (i * j)))
  | .str z, .int k => (k ≤ 100000 ∧ -100000 ≤ k ∧ z.length ≤ 1000 ∧ z.length * k.toNat ≤ sizeLine) ∧ Q (.d (.str ⟨(List.replicate k.toNat z.cps.toList).flatten.toArray⟩))
  | .list xs, .int k => (-(2 ^ 63) ≤ k ∧ k < 2 ^ 63 ∧ xs.length * k.toNat ≤ sizeLine) ∧ Q (.new (List.replicate k.toNat xs).flatten)
  | .tuple xs, .int k => (-1000 ≤ k ∧ k ≤ 1000 ∧ xs.length ≤ 1000) ∧ Q (.d (.tuple (List.replicate k.toNat xs).flatten))
  | _, _ => False
theorem flat_nil : ∀ n : Nat, (List.replicate n ([] : List PyData)).flatten = []
  | 0 => rfl
  | n + 1 => by
    rw [List.replicate_succ, List.flatten_cons, flat_nil n]
    rfl
theorem lo_mulA : LOp X (binaryOp .Mult) wMulA := by
  obtain ⟨r0, h0, k0⟩ := lo_mul (X := X)
  refine ⟨_, OpR.or h0 (op_repA), fun bxs n B H x y v u Qd Q g dx dy w k => ?_⟩
  cases x <;> cases y <;> try exact w.elim
  · exact .inl (k0 bxs n B H _ _ v u Qd Q g dx dy w k)
  · exact .inl (k0 bxs n B H _ _ v u Qd Q g dx dy w k)
  · exact .inl (k0 bxs n B H _ _ v u Qd Q g dx dy w k)
  · rename_i xs m
    obtain ⟨⟨m0, m1, m2⟩, w⟩ := w
    by_cases hb : xs ≠ [] ∧ 2 ≤ m
    · exact .inl (k0 bxs n B H _ _ v u Qd Q g dx dy ⟨⟨hb.1, hb.2, m1, m2⟩, w⟩ k)
    · obtain ⟨p, vs, rfl, a1, a2⟩ := dx.tuple g.sub
      have hdp : Dp X.K B (.ref p) (.tuple xs) := by
        rcases dx with h | ⟨_, _, _, _, e, _⟩
        · exact h
        · cases e
      by_cases hx : xs = []
      · subst hx
        cases a2
        rw [flat_nil] at w
        exact .inr ⟨p, m, [], rfl, dy.int, a1, m0, m1, .inr rfl, fun _ => k _ _ B H w g.refl hdp trivial, fun z => absurd (.inl rfl) z⟩
      · have h1 : m ≤ 1 := by
          have := hb
          simp only [ne_eq, not_and] at this
          have := this hx
          omega
        refine .inr ⟨p, m, vs, rfl, dy.int, a1, m0, m1, .inl h1, fun z => ?_, fun z q hq => ?_⟩
        · have e1 : m = 1 := by
            rcases z with z | z
            · subst z
              cases a2
              exact absurd rfl hx
            · exact z
          subst e1
          refine k _ _ B H w g.refl ?_ trivial
          have : (List.replicate (Int.toNat 1) xs).flatten = xs := by simp
          rw [this]
          exact hdp
        · have e1 : m.toNat = 0 := by
            have : m ≠ 1 := fun e => z (.inr e)
            omega
          rw [e1] at w
          exact give_tup g .nil w k q hq
/-! ### x += e -/
noncomputable def dAug (i : Nat) (f : Int → Int → Int) (we : DE) : DS := fun D ρ n => match ρ[i]? with
  | some (some (.d (.int a))) => we ρ n fun r n1 => onI r fun b => D.nx (ρ.set i (some (.d (.int (f a b))))) n1
  | _ => False
end
end Dl

namespace Dl
open PySem PySem.Spec PyProof.Rows L2
/-! ### enumerate of a tuple, a text -/
theorem meets_enum1 {v : Value} {o : Obj} {G : Heap → Prop} (B : Begins v o G) :
    Meets (Builtin.«enumerate.__new__» ⟨[.type "enumerate", v], []⟩) (fun _ R s => G s.heap ∧
      R (.ok (.ret (.ref (s.heap.push o).objs.size))) { s with heap := (s.heap.push o).push { cls := .type "enumerate", data := .fields #[.none, .bool false, .ref s.heap.objs.size, rawInt 0, .none, .none] } }) :=
  .of_wp fun prog w A R s h => by
    obtain ⟨hp, g, d, tk, os⟩ := s
    obtain ⟨h1, h⟩ := h
    have hsub := sub_enumerate
    have qit : ∀ {A' : Around} {E : Value → Shared → Prop} {Q : Value → Shared → Prop}, Q (.ref hp.objs.size) ⟨hp.push o, g, d, tk, os⟩ → wpAny (model prog w) A' (pyIter v) Q E ⟨hp, g, d, tk, os⟩ :=
      fun q => B.iter prog w _ _ ⟨hp, g, d, tk, os⟩ _ h1 q
    wp_walk using qit
    refine wpAny_stack_any fun st => wpAny_pure ?_
    split
    · rename_i c _ _ _ _ _
      cases (c == Value.type "enumerate")
      · wp_walk using qit
        exact ⟨_, rfl, h⟩
      · wp_walk using qit
        exact ⟨_, rfl, h⟩
    · wp_walk using qit
      exact ⟨_, rfl, h⟩
theorem call_enum1 {prog : Program} {w : World} {A : Around} {E : Value → Shared → Prop} {s : Shared} {v : Value} {o : Obj} {G : Heap → Prop} {Q : Value → Shared → Prop} (B : Begins v o G) (h1 : G s.heap)
    (h : ∀ h', IsEnum h' (s.heap.objs.size + 1) s.heap.objs.size 0 .none → h'.get? s.heap.objs.size = some o → h'.objs.size = s.heap.objs.size + 2 → (∀ b o, s.heap.get? b = some o → h'.get? b = some o) → Q (.ref (s.heap.objs.size + 1)) { s with heap := h' }) :
    wpAny (model prog w) A (call (.type "enumerate") [v]) Q E s := by
  refine callType_new F.called_enumerate (by decide) (F.typeCall_enumerate_1 _) (F.newCall_enumerate_1 _) (fun obj => F.args_object_init_2 obj _) F.entry_enumerate_new (meets_enum1 B) ⟨h1, ?_⟩
  have hz : (s.heap.push o).objs.size = s.heap.objs.size + 1 := Heap.size_push ..
  show _ ∧ _
  rw [hz]
  have he : IsEnum ((s.heap.push o).push { cls := .type "enumerate", data := .fields #[.none, .bool false, .ref s.heap.objs.size, rawInt 0, .none, .none] }) (s.heap.objs.size + 1) s.heap.objs.size 0 .none := by
    have q := Heap.get?_push_size (s.heap.push o) (o := { cls := .type "enumerate", data := .fields #[.none, .bool false, .ref s.heap.objs.size, rawInt 0, .none, .none] }) rfl
    rw [hz] at q
    exact q
  refine ⟨⟨_, he, rfl⟩, h _ he (Heap.get?_push_of_some _ (Heap.get?_push_size _ B.free)) (by rw [Heap.size_push, hz]) fun b o' y => Heap.get?_push_of_some _ (Heap.get?_push_of_some _ y)⟩
noncomputable def ItEnT (K : PySem.W.Frag) (a : Addr) : It :=
  ⟨fun i H => ∃ (xs : List V) (x : V), SqT K H a xs ∧ xs[i]? = some x, fun i H v H' => ∃ T x, v = .ref T ∧ H T = none ∧ H' = L2.upd H T (.tup [.int (i : Nat), x]) ∧ ∀ xs, SqT K H a xs → xs[i]? = some x, fun i H => ∃ xs : List V, SqT K H a xs ∧ xs.length = i⟩
noncomputable def ItEnS (z : Str) : It :=
  ⟨fun i _ => i < z.cps.size, fun i H v H' => ∃ T c, v = .ref T ∧ H T = none ∧ H' = L2.upd H T (.tup [.int (i : Nat), .str ⟨#[c]⟩]) ∧ z.cps[i]? = some c, fun i _ => z.cps.size = i⟩
theorem turn_enT {P : Program} {w : World} {K : PySem.W.Frag} {elts : List Expr} {kk : Nat} {tpos : Pos} (a e it : Addr) (hei : e ≠ it) (hea : e ≠ a) (hai : a ≠ it) :
    Turn P w K (.Tuple elts kk tpos) (ItEnT K a) [e, it] e (fun i h => (∃ old, IsEnum h e it ((i : Nat) : Int) old) ∧ h.IsTupleIter it a i) where
  mem := by simp
  obj := fun i h st b hb => by
    obtain ⟨⟨old, he⟩, ⟨o, ho, hc, hd⟩⟩ := st
    have e' : b = e ∨ b = it := by simpa using hb
    rcases e' with z | z
    · rw [z]
      exact ⟨_, he, fun v q => nomatch q⟩
    · rw [z]
      exact ⟨o, ho, fun v q => by rw [hd] at q; cases q⟩
  keep := fun i h h' st k => by
    obtain ⟨⟨old, he⟩, hi⟩ := st
    exact ⟨⟨old, k e (by simp) _ he⟩, hi.at fun o q => k it (by simp) o q⟩
  item := by
    intro X hP hw hK hc i pins s σ H E I hf st hg
    subst hP hw hK
    obtain ⟨⟨old, he⟩, hit⟩ := st
    obtain ⟨xs, x, hq, hx⟩ := hg
    obtain ⟨its, rv, p, hz⟩ := I.tuple hq
    obtain ⟨u, hu, ru⟩ := rv.get hx
    have hel : e < s.heap.objs.size := Heap.lt_size he
    have hil : it < s.heap.objs.size := by
      obtain ⟨_, q, _⟩ := hit
      exact Heap.lt_size q
    have hlt : i < its.toArray.size := by
      have := (List.getElem?_eq_some_iff.mp hu).1
      simpa using this
    refine wpAny_pyNext_enum_itemD (Draws.tuple (A := X.A.in1) (show X.A.in1.handled = none from I.ok.hd hc) it a hai its.toArray) he ⟨hit, p⟩ hlt hei (by simp [hei, hea]) fun xv h' tk hxv ho hst hT hsz hk => ?_
    have exu : xv = u := by
      have h1 : its[i]? = some xv := by simpa using hxv
      rw [hu] at h1
      exact (Option.some.inj h1).symm
    subst exu
    refine ⟨_, rfl, wpAny_letOwnedTupleGo_enum (s := { s with heap := h', toks := tk + 1 }) ho fun h2 he2 sb => ?_⟩
    have hT2 : h2.get? s.heap.objs.size = some { cls := .type "tuple", data := .seq #[.int i tk, xv] } := (sb.2 _ (Nat.ne_of_gt hel)).trans hT
    have new : ObjOk X.prog X.w (L2.upd H s.heap.objs.size (.tup [.int (i : Nat), x])) h2 s.heap.objs.size (.tup [.int (i : Nat), x]) :=
      ⟨by show 2 ≤ sizeLine; decide, [.int i tk, xv], .cons ⟨_, rfl⟩ (.cons ru .nil), ⟨_, hT2, rfl, _, rfl⟩⟩
    have J : Inv X pins σ (L2.upd H s.heap.objs.size (.tup [.int (i : Nat), x])) { s with heap := h2, toks := tk + 1 } :=
      I.turnedNew (ch := [e, it]) (fun b ob hb q => (sb.2 b (fun z => hb (by simp [z]))).trans (hk b ob (fun z => hb (by simp [z])) (fun z => hb (by simp [z])) q)) hf (Nat.le_refl _) new
    refine ⟨.ref s.heap.objs.size, _, J, rfl, ⟨_, x, rfl, I.hok.fresh (Nat.le_refl _), rfl, fun ys hy => by rw [I.tuple_inj hy hq]; exact hx⟩, ⟨⟨xv, ?_⟩, hst.1.at fun o q => (sb.2 it (Ne.symm hei)).trans q⟩, fun b hb => ?_⟩
    · have e1 : ((i + 1 : Nat) : Int) = (i : Int) + 1 := by omega
      rw [e1]
      exact he2
    · have hb' : b < s.heap.objs.size := by
        have e' : b = e ∨ b = it := by simpa using hb
        rcases e' with z | z
        · rw [z]; exact hel
        · rw [z]; exact hil
      rw [upd_ne (Nat.ne_of_lt hb')]
      exact (hf b hb).1
  done := by
    intro X hP hw hK hc i pins s σ H E I hf st hg
    subst hP hw hK
    obtain ⟨⟨old, he⟩, hit⟩ := st
    obtain ⟨xs, hq, hx⟩ := hg
    obtain ⟨its, rv, p, hz⟩ := I.tuple hq
    obtain ⟨f0, f1, f2, f3, f4, f5⟩ := hf it (by simp)
    have hl := rv.length
    have hn : i = its.toArray.size := by
      rw [List.size_toArray, ← hl, hx]
    subst hn
    exact wpAny_pyNext_enum_endD (Draws.tuple (A := X.A.in1) (show X.A.in1.handled = none from I.ok.hd hc) it a hai its.toArray) he ⟨hit, p⟩ fun h' eb => ⟨rfl, I.turned (t' := s.toks) (fun b o hb q => eb b o hb q) f0 f1 f3 f4 f5⟩
  self := fun A i s Q E st h => by
    obtain ⟨⟨_, he⟩, _⟩ := st
    exact wpAny_pyIter_enum he h
theorem sit_at {h h' : Heap} {it : Addr} {n : String} {z : Str} {tz : Tok} {i : Nat} (x : h.IsStrIter it n z tz i) (e : ∀ o, h.get? it = some o → h'.get? it = some o) : h'.IsStrIter it n z tz i := by
  obtain ⟨o, ho, r⟩ := x
  exact ⟨o, e o ho, r⟩
theorem turn_enS {P : Program} {w : World} {K : PySem.W.Frag} {elts : List Expr} {kk : Nat} {tpos : Pos} (z : Str) (tz : Tok) (e it : Addr) (hei : e ≠ it) :
    Turn P w K (.Tuple elts kk tpos) (ItEnS z) [e, it] e (fun i h => (∃ old, IsEnum h e it ((i : Nat) : Int) old) ∧ h.IsStrIter it (strIterType z) z tz i) where
  mem := by simp
  obj := fun i h st b hb => by
    obtain ⟨⟨old, he⟩, ⟨o, ho, hc, hd⟩⟩ := st
    have e' : b = e ∨ b = it := by simpa using hb
    rcases e' with q | q
    · rw [q]
      exact ⟨_, he, fun v q => nomatch q⟩
    · rw [q]
      exact ⟨o, ho, fun v q => by rw [hd] at q; cases q⟩
  keep := fun i h h' st k => by
    obtain ⟨⟨old, he⟩, hi⟩ := st
    exact ⟨⟨old, k e (by simp) _ he⟩, sit_at hi fun o q => k it (by simp) o q⟩
  item := by
    intro X hP hw hK hc i pins s σ H E I hf st hg
    subst hP hw hK
    obtain ⟨⟨old, he⟩, hit⟩ := st
    have hel : e < s.heap.objs.size := Heap.lt_size he
    have hil : it < s.heap.objs.size := by
      obtain ⟨_, q, _⟩ := hit
      exact Heap.lt_size q
    refine wpAny_pyNext_enum_itemD (Draws.text (A := X.A.in1) (show X.A.in1.handled = none from I.ok.hd hc) it z tz) he hit hg hei (by simp [hei]) fun xv h' tk hxv ho hst hT hsz hk => ?_
    obtain ⟨c, tu, hc1, rfl⟩ := hxv
    refine ⟨_, rfl, wpAny_letOwnedTupleGo_enum (s := { s with heap := h', toks := tk + 1 }) ho fun h2 he2 sb => ?_⟩
    have hT2 : h2.get? s.heap.objs.size = some { cls := .type "tuple", data := .seq #[.int i tk, .str ⟨#[c]⟩ tu] } := (sb.2 _ (Nat.ne_of_gt hel)).trans hT
    have new : ObjOk X.prog X.w (L2.upd H s.heap.objs.size (.tup [.int (i : Nat), .str ⟨#[c]⟩])) h2 s.heap.objs.size (.tup [.int (i : Nat), .str ⟨#[c]⟩]) :=
      ⟨by show 2 ≤ sizeLine; decide, [.int i tk, .str ⟨#[c]⟩ tu], .cons ⟨_, rfl⟩ (.cons ⟨_, rfl⟩ .nil), ⟨_, hT2, rfl, _, rfl⟩⟩
    have J : Inv X pins σ (L2.upd H s.heap.objs.size (.tup [.int (i : Nat), .str ⟨#[c]⟩])) { s with heap := h2, toks := tk + 1 } :=
      I.turnedNew (ch := [e, it]) (fun b ob hb q => (sb.2 b (fun y => hb (by simp [y]))).trans (hk b ob (fun y => hb (by simp [y])) (fun y => hb (by simp [y])) q)) hf (Nat.le_refl _) new
    refine ⟨.ref s.heap.objs.size, _, J, rfl, ⟨_, c, rfl, I.hok.fresh (Nat.le_refl _), rfl, hc1⟩, ⟨⟨.str ⟨#[c]⟩ tu, ?_⟩, sit_at hst fun o q => (sb.2 it (Ne.symm hei)).trans q⟩, fun b hb => ?_⟩
    · have e1 : ((i + 1 : Nat) : Int) = (i : Int) + 1 := by omega
      rw [e1]
      exact he2
    · have hb' : b < s.heap.objs.size := by
        have e' : b = e ∨ b = it := by simpa using hb
        rcases e' with y | y
        · rw [y]; exact hel
        · rw [y]; exact hil
      rw [upd_ne (Nat.ne_of_lt hb')]
      exact (hf b hb).1
  done := by
    intro X hP hw hK hc i pins s σ H E I hf st hg
    subst hP hw hK
    obtain ⟨⟨old, he⟩, hit⟩ := st
    obtain ⟨f0, f1, f2, f3, f4, f5⟩ := hf it (by simp)
    have hn : z.cps.size = i := hg
    subst hn
    exact wpAny_pyNext_enum_endD (Draws.text (A := X.A.in1) (show X.A.in1.handled = none from I.ok.hd hc) it z tz) he hit fun h' eb => ⟨rfl, I.turned (t' := s.toks) (fun b o hb q => eb b o hb q) f0 f1 f3 f4 f5⟩
  self := fun A i s Q E st h => by
    obtain ⟨⟨_, he⟩, _⟩ := st
    exact wpAny_pyIter_enum he h
noncomputable def tEnumA (K : PySem.W.Frag) (ta : TA) : TI := fun σ H R => ta σ H fun vs H1 =>
  (∃ a xs, vs = [.ref a] ∧ SqL K H1 a xs ∧ R (Ite K a) H1) ∨ (∃ a xs, vs = [.ref a] ∧ SqT K H1 a xs ∧ R (ItEnT K a) H1) ∨ ∃ z, vs = [.str z] ∧ R (ItEnS z) H1
theorem pi_enumA {X : Cx} {e : Expr} {ta : TA} {p pos tpos : Pos} {elts : List Expr} {kk : Nat} (hg : Gl X "enumerate") (hm : X.mg "enumerate" = none) (ha : PA X [e] ta) (hs : starEach [e] X.env = [(false, eval e X.env)] := by rfl) :
    PI X (.Tuple elts kk tpos) (.Call (.Name "enumerate" p) [e] [] pos) (tEnumA X.K ta) := by
  refine ⟨fun pins s σ H R I h => ?_⟩
  refine Call_ (ld_blt I hg hm boot_enumerate (PyProof.Rows.callWith_type1 (thn (ha.run pos pins s σ H _ I h) fun us s1 ⟨vs, H1, I1, r1, q1⟩ => ?_) hs rfl))
  have fp2 : ∀ b ∈ [s1.heap.objs.size + 1, s1.heap.objs.size], FpOk X pins H1 b := fun b hb => by
    have e' : b = s1.heap.objs.size + 1 ∨ b = s1.heap.objs.size := by simpa using hb
    have hle : s1.heap.objs.size ≤ b := by
      rcases e' with z | z
      · rw [z]; exact Nat.le_add_right _ _
      · rw [z]; exact Nat.le_refl _
    exact I1.fpOk hle (I1.hok.fresh hle)
  rcases q1 with ⟨a, xs, rfl, hq, q⟩ | ⟨a, xs, rfl, hq, q⟩ | ⟨z, rfl, q⟩
  · cases r1 with
    | cons r rr =>
      cases rr
      cases r
      obtain ⟨its, rv, pl, hz⟩ := I1.list hq
      refine call_enumerate_list pl.isList fun h' he hit hsz hk => wpAny_pyIter_enum he ?_
      have J : Inv X pins σ H1 { s1 with heap := h' } := I1.kept (t' := s1.toks) hk
      exact ⟨s1.heap.objs.size + 1, [s1.heap.objs.size + 1, s1.heap.objs.size], _, _, H1, rfl, J, turn_enum a (s1.heap.objs.size + 1) s1.heap.objs.size, ⟨⟨.none, he⟩, hit, Nat.succ_ne_self _⟩, fp2, q⟩
  · cases r1 with
    | cons r rr =>
      cases rr
      cases r
      obtain ⟨its, rv, pl, hz⟩ := I1.tuple hq
      have hal : a < s1.heap.objs.size := pl.lt
      refine call_enum1 (begins_tuple a its.toArray) (show s1.heap.IsTuple a its.toArray from pl) fun h' he ho hsz hk => wpAny_pyIter_enum he ?_
      have J : Inv X pins σ H1 { s1 with heap := h' } := I1.kept (t' := s1.toks) hk
      exact ⟨s1.heap.objs.size + 1, [s1.heap.objs.size + 1, s1.heap.objs.size], _, _, H1, rfl, J, turn_enT a (s1.heap.objs.size + 1) s1.heap.objs.size (Nat.succ_ne_self _) (Nat.ne_of_gt (Nat.lt_succ_of_lt hal)) (Nat.ne_of_lt hal), ⟨⟨.none, he⟩, ⟨_, ho, rfl, rfl⟩⟩, fp2, q⟩
  · cases r1 with
    | cons r rr =>
      cases rr
      obtain ⟨tz, rfl⟩ := r
      refine call_enumerate_str fun h' he hit hsz hk => wpAny_pyIter_enum he ?_
      have J : Inv X pins σ H1 { s1 with heap := h' } := I1.kept (t' := s1.toks) hk
      exact ⟨s1.heap.objs.size + 1, [s1.heap.objs.size + 1, s1.heap.objs.size], _, _, H1, rfl, J, turn_enS z tz (s1.heap.objs.size + 1) s1.heap.objs.size (Nat.succ_ne_self _), ⟨⟨.none, he⟩, hit⟩, fp2, q⟩
/-- the items of enumerate -/
noncomputable def enumFrom : Nat → List PyData → List PyData
  | _, [] => []
  | k, x :: xs => .tuple [.int (k : Int), x] :: enumFrom (k + 1) xs
noncomputable def dEnum (w : DA) : DI := fun ρ n Q => w ρ n fun rs n1 => match rs with
  | [.d x] => onO (itemsOf x) fun ys => Q (enumFrom 0 ys) n1
  | _ => False
end Dl

namespace Dl
open PySem PySem.Spec PyProof.Rows L2
/-! ### comprehensions that reckon the same at every time -/
theorem lc_filter {wg : DG} {tt : DT} {we : DE} {vs : List Nat} {ρ : DEnv} {n : Nat} {Q : List PyData → Nat → Prop} {items : List PyData} (t : Nat → Bool) (f : Nat → PyData) (hl : items.length ≤ 10000000)
    (turn : ∀ (i : Nat) (z : PyData) (J : List PyData → Nat → Prop) (acc : List PyData), items[i]? = some z → acc.length < sizeLine → (t i = true → J (acc ++ [f i]) n) → (t i = false → J acc n) →
      wg z (wipeD ρ vs) fun ρ' => tt ρ' n fun b n2 => if b = true then we ρ' n2 fun r n3 => onO (dat r) fun y => acc.length < sizeLine ∧ J (acc ++ [y]) n3 else J acc n2)
    (hq : Q (((List.range items.length).filter t).map f) n) :
    ∃ Inv : Nat → List PyData → Nat → Prop, Inv 0 [] n ∧
      (∀ i acc n z, Inv i acc n → items[i]? = some z → wg z (wipeD ρ vs) fun ρ' => tt ρ' n fun b n2 => if b = true then we ρ' n2 fun r n3 => onO (dat r) fun y => acc.length < sizeLine ∧ Inv (i + 1) (acc ++ [y]) n3 else Inv (i + 1) acc n2) ∧
      ∀ acc n, Inv items.length acc n → Q acc n := by
  refine ⟨fun i acc m => m = n ∧ acc = ((List.range i).filter t).map f, ⟨rfl, rfl⟩, ?_, ?_⟩
  · rintro i acc m z ⟨rfl, rfl⟩ hz
    have hi : i < items.length := (List.getElem?_eq_some_iff.mp hz).1
    have hlen : (((List.range i).filter t).map f).length < sizeLine := by
      rw [List.length_map]
      have := List.length_filter_le t (List.range i)
      rw [List.length_range] at this
      exact Nat.lt_of_le_of_lt this (size_lt (by omega))
    refine turn i z (fun acc m' => m' = m ∧ acc = ((List.range (i + 1)).filter t).map f) _ hz hlen (fun ht => ⟨rfl, ?_⟩) (fun ht => ⟨rfl, ?_⟩)
    · rw [List.range_succ, List.filter_append, List.map_append]
      simp [ht]
    · rw [List.range_succ, List.filter_append, List.map_append]
      simp [ht]
  · rintro acc m ⟨rfl, rfl⟩
    exact hq
theorem lc_map {wg : DG} {tt : DT} {we : DE} {vs : List Nat} {ρ : DEnv} {n : Nat} {Q : List PyData → Nat → Prop} {items : List PyData} (f : Nat → PyData) (hl : items.length ≤ 10000000)
    (turn : ∀ (i : Nat) (z : PyData) (J : List PyData → Nat → Prop) (acc : List PyData), items[i]? = some z → acc.length < sizeLine → J (acc ++ [f i]) n →
      wg z (wipeD ρ vs) fun ρ' => tt ρ' n fun b n2 => if b = true then we ρ' n2 fun r n3 => onO (dat r) fun y => acc.length < sizeLine ∧ J (acc ++ [y]) n3 else J acc n2)
    (hq : Q ((List.range items.length).map f) n) :
    ∃ Inv : Nat → List PyData → Nat → Prop, Inv 0 [] n ∧
      (∀ i acc n z, Inv i acc n → items[i]? = some z → wg z (wipeD ρ vs) fun ρ' => tt ρ' n fun b n2 => if b = true then we ρ' n2 fun r n3 => onO (dat r) fun y => acc.length < sizeLine ∧ Inv (i + 1) (acc ++ [y]) n3 else Inv (i + 1) acc n2) ∧
      ∀ acc n, Inv items.length acc n → Q acc n := by
  refine lc_filter (fun _ => true) f hl (fun i z J acc hz ha h1 _ => turn i z J acc hz ha (h1 rfl)) ?_
  rw [List.filter_eq_self.mpr fun _ _ => rfl]
  exact hq
/-- all of the runs are right -/
theorem lc_all_true {wg : DG} {we : DE} {vs : List Nat} {ρ : DEnv} {n : Nat} {Q : List PyData → Nat → Prop} {items : List PyData} (k : Nat) (hl : items.length ≤ 10000)
    (turn : ∀ (i : Nat) (z : PyData) (J : List PyData → Nat → Prop) (acc : List PyData) (m : Nat), items[i]? = some z → i < items.length → m ≤ n + k * i → acc.length < sizeLine → (∀ m', m' ≤ n + k * (i + 1) → J (acc ++ [.bool true]) m') →
      wg z (wipeD ρ vs) fun ρ' => dYes ρ' m fun b n2 => if b = true then we ρ' n2 fun r n3 => onO (dat r) fun y => acc.length < sizeLine ∧ J (acc ++ [y]) n3 else J acc n2)
    (hq : ∀ m, m ≤ n + k * items.length → Q (List.replicate items.length (.bool true)) m) :
    ∃ Inv : Nat → List PyData → Nat → Prop, Inv 0 [] n ∧
      (∀ i acc n z, Inv i acc n → items[i]? = some z → wg z (wipeD ρ vs) fun ρ' => dYes ρ' n fun b n2 => if b = true then we ρ' n2 fun r n3 => onO (dat r) fun y => acc.length < sizeLine ∧ Inv (i + 1) (acc ++ [y]) n3 else Inv (i + 1) acc n2) ∧
      ∀ acc n, Inv items.length acc n → Q acc n := by
  refine ⟨fun i acc m => m ≤ n + k * i ∧ acc = List.replicate i (.bool true), ⟨by omega, rfl⟩, ?_, ?_⟩
  · rintro i acc m z ⟨hm, rfl⟩ hz
    have hi : i < items.length := (List.getElem?_eq_some_iff.mp hz).1
    exact turn i z (fun acc m' => m' ≤ n + k * (i + 1) ∧ acc = List.replicate (i + 1) (.bool true)) _ m hz hi hm (by rw [List.length_replicate]; exact size_lt (by omega)) fun m' hm' => ⟨hm', by rw [List.replicate_succ']⟩
  · rintro acc m ⟨hm, rfl⟩
    exact hq m hm
end Dl


namespace Dl
open PySem PySem.Spec PyProof.Rows L2
/-! ### while (x := e) op f -/
/-! ### zip of two lists or two tuples -/
noncomputable def zipD : List PyData → List PyData → List PyData
  | x :: xs, y :: ys => .tuple [x, y] :: zipD xs ys
  | _, _ => []
noncomputable def dZip (w : DA) : DI := fun ρ n Q => w ρ n fun rs n1 => match rs with
  | [.d (.list xs), .d (.list ys)] => Q (zipD xs ys) n1
  | [.d (.tuple xs), .d (.tuple ys)] => Q (zipD xs ys) n1
  | _ => False
end Dl

namespace Dl
open PySem PySem.Spec PyProof.Rows L2
/-! ### x[::-1] of a list, a tuple; x[lo:hi:step] of a text -/
section
variable {prog : Program} {w : World} {A : Around} {E : Value → Shared → Prop} {s : Shared}
end
noncomputable def stepS (z : Str) (lo hi : Option Int) (st : Int) : Str := Txt.sliceBy z (lo.map (·, 0)) (hi.map (·, 0)) (st, 0)
section
variable {X : Cx}
variable {a ex : Expr} {lo hi : Option Expr} {wa : DE} {wl wh ws : DO} {pos p2 : Pos}
noncomputable def wStep (x : PyData) (lo hi : Option Int) (st : Int) (Q : RV → Prop) : Prop := match x with
  | .list xs => lo = none ∧ hi = none ∧ st = -1 ∧ Q (.new xs.reverse)
  | .tuple xs => lo = none ∧ hi = none ∧ st = -1 ∧ Q (.d (.tuple xs.reverse))
  | .str z => st ≠ 0 ∧ z.length ≤ sizeLine ∧ Q (.d (.str (stepS z lo hi st)))
  | _ => False
noncomputable def dStep (wa : DE) (wl wh ws : DO) : DE := fun ρ n Q => wa ρ n fun r n1 => wl ρ n1 fun lo n2 => wh ρ n2 fun hi n3 => ws ρ n3 fun c n4 => onO c fun st => onO (view r) fun x => wStep x lo hi st fun r' => Q r' n4
end
end Dl

namespace Dl
open PySem PySem.Spec PyProof.Rows L2
/-! ### plain data: no bools, no dicts: == is equality -/
mutual
noncomputable def plain : PyData → Bool
  | .none => true
  | .bool _ => false
  | .int _ => true
  | .str s => PyData.canLay0 (.str s)
  | .list xs => plainAll xs
  | .tuple xs => plainAll xs
  | .dict _ => false
noncomputable def plainAll : List PyData → Bool
  | [] => true
  | x :: xs => plain x && plainAll xs
end
mutual
theorem eqv_eq : ∀ (x y : PyData), plain x = true → plain y = true → PyData.eqv x y = true → x = y
  | .none, y, _, hy, h => by cases y <;> first | rfl | (cases h; done)
  | .bool _, _, hx, _, _ => by cases hx
  | .int i, y, _, hy, h => by
    cases y
    all_goals first | (cases h; done) | (cases hy; done) | skip
    rename_i j
    exact congrArg _ (eq_of_beq (show (i == j) = true from h))
  | .str i, y, _, hy, h => by
    cases y
    all_goals first | (cases h; done) | skip
    rename_i j
    exact congrArg _ (eq_of_beq (show (i == j) = true from h))
  | .list xs, y, hx, hy, h => by
    cases y
    all_goals first | (cases h; done) | (cases hy; done) | skip
    rename_i ys
    exact congrArg _ (eqvAll_eq xs ys hx hy h)
  | .tuple xs, y, hx, hy, h => by
    cases y
    all_goals first | (cases h; done) | (cases hy; done) | skip
    rename_i ys
    exact congrArg _ (eqvAll_eq xs ys hx hy h)
  | .dict _, _, hx, _, _ => by cases hx
theorem eqvAll_eq : ∀ (xs ys : List PyData), plainAll xs = true → plainAll ys = true → PyData.eqvAll xs ys = true → xs = ys
  | [], [], _, _, _ => rfl
  | [], _ :: _, _, _, h => by cases h
  | _ :: _, [], _, _, h => by cases h
  | x :: xs, y :: ys, hx, hy, h => by
    have h1 : (plain x && plainAll xs) = true := hx
    have h2 : (plain y && plainAll ys) = true := hy
    have h3 : (PyData.eqv x y && PyData.eqvAll xs ys) = true := h
    rw [Bool.and_eq_true] at h1 h2 h3
    rw [eqv_eq x y h1.1 h2.1 h3.1, eqvAll_eq xs ys h1.2 h2.2 h3.2]
end
mutual
theorem eqv_refl : ∀ (x : PyData), plain x = true → PyData.eqv x x = true
  | .none, _ => rfl
  | .bool _, hx => by cases hx
  | .int i, _ => show (i == i) = true from beq_self_eq_true i
  | .str i, _ => show (i == i) = true from beq_self_eq_true i
  | .list xs, hx => eqvAll_refl xs hx
  | .tuple xs, hx => eqvAll_refl xs hx
  | .dict _, hx => by cases hx
theorem eqvAll_refl : ∀ (xs : List PyData), plainAll xs = true → PyData.eqvAll xs xs = true
  | [], _ => rfl
  | x :: xs, hx => by
    have h1 : (plain x && plainAll xs) = true := hx
    rw [Bool.and_eq_true] at h1
    show (PyData.eqv x x && PyData.eqvAll xs xs) = true
    rw [eqv_refl x h1.1, eqvAll_refl xs h1.2]
    rfl
end
/-! shaped: no dicts, shallow -/
mutual
theorem lay_plain : ∀ x : PyData, plain x = true → PyData.canLay0 x = true
  | .none, _ => rfl
  | .bool _, h => by cases h
  | .int _, _ => rfl
  | .str _, h => h
  | .list xs, h => by
    unfold PyData.canLay0
    exact lay_plainAll xs h
  | .tuple xs, h => by
    unfold PyData.canLay0
    exact lay_plainAll xs h
  | .dict _, h => by cases h
theorem lay_plainAll : ∀ xs : List PyData, plainAll xs = true → PyData.canLayAll0 xs = true
  | [], _ => rfl
  | x :: xs, h => by
    have h1 : (plain x && plainAll xs) = true := h
    rw [Bool.and_eq_true] at h1
    unfold PyData.canLayAll0
    rw [lay_plain x h1.1, lay_plainAll xs h1.2]
    rfl
end
end Dl

namespace Dl
open PySem PySem.Spec PyProof.Rows L2
section
variable {X : Cx} {o e a b c : Expr} {es : List Expr} {wo we wa wb wc : DE} {wr : DA} {pos apos : Pos}
/-! ### methods of texts -/
noncomputable def onT (r : RV) (F : Str → Prop) : Prop := match r with
  | .d (.str z) => F z
  | _ => False
noncomputable abbrev DMt := Str → List PyData → (RV → Prop) → Prop
noncomputable def dMs (w : DMt) (wo : DE) (wr : DA) : DE := fun ρ n Q => wo ρ n fun r1 n1 => onT r1 fun z => wr ρ n1 fun rs n2 => onO (views rs) fun xs => w z xs fun r => Q r n2
noncomputable def wCount : DMt := fun z xs Q => match xs with
  | [.str y] => Q (.d (.int (Txt.count z y)))
  | _ => False
/-! ### a < b < c -/
noncomputable def dChain (w w' : DOp) (wa wb wc : DE) : DE := fun ρ n Q => wa ρ n fun r1 n1 => wb ρ n1 fun r2 n2 => vw2 w r1 r2 fun z => onB z fun k => if k = true then wc ρ n2 fun r3 n3 => vw2 w' r2 r3 fun r => Q r n3 else Q (.d (.bool false)) n2
/-! ### in, not in -/
noncomputable def flatD : PyData → Bool
  | .none => true
  | .bool _ => true
  | .int _ => true
  | .str _ => true
  | _ => false
theorem flat_V {K : PySem.W.Frag} {B H : Hp} {v : V} {x : PyData} (h : DpV K B H v x) (f : flatD x = true) : flatV v = true := by
  rcases h with h | ⟨p, vs, xs, rfl, rfl, _⟩
  · cases h <;> first | rfl | cases f
  · cases f
theorem flat_all {K : PySem.W.Frag} {B : Hp} : ∀ {xs : List PyData} {vs : List V}, DpAll K B vs xs → xs.all flatD = true → vs.all flatV = true
  | [], vs, h, _ => by cases h; rfl
  | x :: xs, vs, h, f => by
    cases h with
    | cons h1 h2 =>
      rw [List.all_cons, Bool.and_eq_true] at f ⊢
      exact ⟨flat_V (H := B) (.inl h1) f.1, flat_all h2 f.2⟩
theorem flat_eq {K : PySem.W.Frag} {B H : Hp} {v u : V} {x y : PyData} (h : Dp K B v x) (g : DpV K B H u y) (f : flatD x = true) (k : flatD y = true) : eqV v u = PyData.eqv x y := by
  rcases g with g | ⟨p, vs, xs, rfl, rfl, _⟩
  · cases h <;> cases g <;> first | rfl | (cases f; done) | (cases k; done)
  · cases k
theorem flat_in {K : PySem.W.Frag} {B H : Hp} {u : V} {y : PyData} (g : DpV K B H u y) (k : flatD y = true) : ∀ {xs : List PyData} {vs : List V}, DpAll K B vs xs → xs.all flatD = true → inV u vs = xs.any fun z => PyData.eqv z y
  | [], vs, h, _ => by cases h; rfl
  | x :: xs, vs, h, f => by
    cases h with
    | cons h1 h2 =>
      rw [List.all_cons, Bool.and_eq_true] at f
      show (eqV _ u || inV u _) = _
      rw [List.any_cons, flat_eq h1 g f.1 k, flat_in g k h2 f.2]
noncomputable def wIn : DOp := fun x y Q => match y with
  | .list ds => SeqAt.shaped x = true ∧ SeqAt.shaped (.list ds) = true ∧ Q (.d (.bool (ds.any fun z => PyData.eqv z x)))
  | .tuple ds => flatD x = true ∧ ds.all flatD = true ∧ Q (.d (.bool (ds.any fun z => PyData.eqv z x)))
  | .str z => ∃ c, x = .str ⟨#[c]⟩ ∧ Q (.d (.bool (decide (c ∈ z.cps.toList))))
  | _ => False
noncomputable def wNotIn : DOp := fun x y Q => match y with
  | .list ds => SeqAt.shaped x = true ∧ SeqAt.shaped (.list ds) = true ∧ Q (.d (.bool (!ds.any fun z => PyData.eqv z x)))
  | .tuple ds => flatD x = true ∧ ds.all flatD = true ∧ Q (.d (.bool (!ds.any fun z => PyData.eqv z x)))
  | .str z => ∃ c, x = .str ⟨#[c]⟩ ∧ Q (.d (.bool (!decide (c ∈ z.cps.toList))))
  | _ => False
theorem lo_in (hu : X.A.units + 65 < cLine) : LOp X (compareOp .In) wIn := by
  refine ⟨_, OpR.or (op_inD hu) (OpR.or op_in_seq op_in_sign), fun bxs n B H x y v u Qd Q g dx dy w k => ?_⟩
  unfold wIn at w
  split at w
  · exact .inl ⟨_, _, (dx.dp g.sub).kit (shaped_nd w.1), (dy.dp g.sub).kit (shaped_nd w.2.1), w.1, w.2.1, k _ _ B H w.2.2 g.refl (.bl _) trivial⟩
  · obtain ⟨p, vs, rfl, h1, h2⟩ := dy.tuple g.sub
    refine .inr (.inl ⟨p, vs, rfl, .inr h1, flat_V dx w.1, flat_all h2 w.2.1, ?_⟩)
    show Q (.bl (inV v vs)) H
    rw [flat_in dx w.1 h2 w.2.1]
    exact k _ _ B H w.2.2 g.refl (.bl _) trivial
  · obtain ⟨c, rfl, w⟩ := w
    exact .inr (.inr ⟨c, _, dx.str, dy.str, k _ _ B H w g.refl (.bl _) trivial⟩)
  · exact w.elim
theorem un65 {k : Nat} {A : Around} (r : Room k A) : A.units + 65 < cLine := by have := r.un; omega
/-! ### list(range(..)) -/
noncomputable def dListR1 (wa : DE) : DE := fun ρ n Q => wa ρ n fun r n1 => onI r fun j => (-(2 ^ 62) ≤ j ∧ j ≤ 10000000) ∧ Q (.new (rangeD 0 j.toNat)) n1
noncomputable def dListR2 (wa wb : DE) : DE := fun ρ n Q => wa ρ n fun r n1 => wb ρ n1 fun r2 n2 => onI r fun i => onI r2 fun j => (-10000000 ≤ i ∧ i ≤ 10000000 ∧ -10000000 ≤ j ∧ j ≤ 10000000) ∧ (j - i).toNat ≤ 10000000 ∧ Q (.new (rangeD i (j - i).toNat)) n2
/-! ### extend of an own list by a new one -/
noncomputable def dExtend (i : Nat) (we : DE) : DS := fun D ρ n => onS ρ[i]? fun xs => we ρ n fun r n1 => onN r fun ys => xs.length + ys.length ≤ sizeLine ∧ D.nx (ρ.set i (some (.new (xs ++ ys)))) n1
end
section
variable {X : Cx} {E : Ent} {pos apos cpos p1 p2 : Pos} {e : Expr} {we : DE} {x : Str}
end
/-! ### calls by keywords -/
structure DefK (P : Program) (w : World) (K : PySem.W.Frag) (mg : Str → Option Value) (base : Heap) (k : Nat) (x : Str) (ps : List Str) (st : Stmt) (c : DSp) : Prop where
  ex : ∃ (f : Addr) (fd : FuncData), FnG P w K mg base k f fd ps (lift K c) ∧ mg x = some (.ref f) ∧ Fun K x x st f fd
noncomputable def pick {α : Type} (idx : List Nat) (l : List α) : List α := idx.filterMap fun i => l[i]?
theorem pick_nil {α : Type} (l : List α) : pick [] l = [] := rfl
theorem pick_cons {α : Type} (i : Nat) (idx : List Nat) (l : List α) : pick (i :: idx) l = match l[i]? with
    | none => pick idx l
    | some x => x :: pick idx l := by
  unfold pick
  rw [List.filterMap_cons]
  cases l[i]? <;> rfl
theorem pk_imp {X : Cx} {e : List Keyword} {t t' : TA} (h : PK X e t) (i : ∀ σ H Q, t' σ H Q → t σ H Q) : PK X e t' := ⟨fun p pins s σ H Q I q => h.run p pins s σ H Q I (i σ H Q q)⟩
section
variable {X : Cx} {a : Expr} {wa : DE} {wr wk : DA} {kws : List Keyword} {nm : Option Str} {kpos : Pos}
noncomputable def dCallK (idx : List Nat) (c : DSp) (wr : DA) : DE := fun ρ n Q => wr ρ n fun rs n1 => argsOk (pick idx rs) ∧ c ((pick idx rs).map asArg) n1 Q
noncomputable def dCat (wr wk : DA) : DA := fun ρ n Q => wr ρ n fun rs n1 => wk ρ n1 fun ks n2 => Q (rs ++ ks) n2
end
end Dl

namespace Dl
open PySem PySem.Spec PyProof.Rows L2
/-! ### texts of 0 and 1 -/
noncomputable def bc (b : Bool) : Nat := if b then 49 else 48
noncomputable def bs (l : List Bool) : Str := ⟨(l.map bc).toArray⟩
/-! ### parities of the places that are a modulo w -/
noncomputable def par (f : Nat → Bool) (w a : Nat) : Nat → Bool
  | 0 => false
  | n + 1 => par f w a n ^^ (n % w == a && f n)
end Dl

namespace Dl
open PySem PySem.Spec PyProof.Rows L2
/-! ### traces, schemes, histories -/
inductive Wd where
  | own
  | split
  | shared
  | folded
  deriving DecidableEq
noncomputable def Wd.str : Wd → Str
  | .own => Str.ofString "own"
  | .split => Str.ofString "split"
  | .shared => Str.ofString "shared"
  | .folded => Str.ofString "folded"
structure Sc where
  w : Wd
  L : Nat
  b : Nat
noncomputable def Sc.items (s : Sc) : List PyData := match s.w with
  | .folded => [.str (Str.ofString "folded"), .int (s.L : Int), .int (s.b : Int)]
  | w => [.str w.str, .int (s.L : Int)]
noncomputable abbrev Sc.data (s : Sc) : PyData := .tuple s.items
/-! ### numbers of digits -/
end Dl

namespace Dl
open PySem PySem.Spec PyProof.Rows L2
/-! ### a, b = x, [] : some of the names own their new lists -/
noncomputable def setO (o : Bool) (r : RV) (F : RV → Prop) : Prop := match r with
  | .d x => F (.d x)
  | .new xs => if o = true then F (.new xs) else F (.d (.list xs))
  | .own T => o = true ∧ F (.own T)
  | _ => False
noncomputable def dPar2o (i j : Nat) (o1 o2 : Bool) (wa wb : DE) : DS := fun D ρ n => wa ρ n fun r n1 => setO o1 r fun r' => wb ρ n1 fun r2 n2 => setO o2 r2 fun r2' => D.nx ((ρ.set i (some r')).set j (some r2')) n2
noncomputable def dPar3o (i j l : Nat) (o1 o2 o3 : Bool) (wa wb wc : DE) : DS := fun D ρ n => wa ρ n fun r n1 => setO o1 r fun r' => wb ρ n1 fun r2 n2 => setO o2 r2 fun r2' => wc ρ n2 fun r3 n3 => setO o3 r3 fun r3' => D.nx (((ρ.set i (some r')).set j (some r2')).set l (some r3')) n3
section
variable {X : Cx} {E : Ent} {pos : Pos} {x y z : Str} {px py pz pt : Pos} {wa wb wc : DE} {ea eb ec : Expr} {kt k2 : Nat} {pt2 : Pos}
end
/-! ### methods of texts: rjust with a sign -/
noncomputable def wRjust : DMt := fun z xs Q => match xs with
  | [.int i, .str f] => (0 ≤ i ∧ i ≤ 1000 ∧ f.length = 1) ∧ Q (.d (.str (Txt.rjustF z i (f.cps.getD 0 0))))
  | _ => False
/-! ### reprs of texts, schemes, traces, cells -/
end Dl

namespace Dl
open PySem PySem.Spec PyProof.Rows L2 GenW
/-! ### generators: segments of a for, an if -/
section
variable {prog : Program} {w : World} {A : Around} {R : GenEnd} {Y : Protocol} {n : Nat} {s₀ : Shared} {c : Code} {fs : List Frame} {s : Shared} {env : Env}
  {K : Flow → Sem PySem.Fin} {J : Value → Sem PySem.Fin} {gd : Bool → Bool} {lv : List Value → List Value}
end
end Dl

namespace Dl
open PySem PySem.Spec PyProof.Rows L2 GenW
/-! ### generators: up to the first item. D.rt: what is wanted of the item that is handed out -/
structure G1C (X : Cx) (A : Around) (c : Code) (fs : List Frame) (gd : Bool → Bool) : Prop where
  over : A.over c fs = X.A
  split : splitAtGen fs = none
  guard : fs.any Frame.guarded = false
  gd : gd false = false
noncomputable def Y1 (X : Cx) (Qy : VK) : Protocol := fun _ _ v s _ => ∃ x ip σ H, RelV x v ∧ Inv X ip σ H s ∧ Qy x H
noncomputable abbrev noRt (D : Ends) : Ends := { D with rt := fun _ _ => False }
structure G1K (X : Cx) (ip : List (Addr × Obj)) (A : Around) (R : GenEnd) (Qy : VK) (c : Code) (fs : List Frame) (K : Flow → Sem PySem.Fin) (D : Ends) : Prop where
  ok : ∀ (s₀ s : Shared) (f : Flow), SP X ip (noRt D) f s → Seg (model X.prog X.w) A R (Y1 X Qy) 1 s₀ c (K f) fs s
structure GS1 (X : Cx) (st : Stmt) (t : TS) : Prop where
  run : ∀ (A : Around) (ip : List (Addr × Obj)) (R : GenEnd) (s₀ : Shared) (c : Code) (fs : List Frame) (K : Flow → Sem PySem.Fin) (J : Value → Sem PySem.Fin) (gd : Bool → Bool) (lv : List Value → List Value) (s : Shared) (σ : L2.St) (H : Hp) (D : Ends),
    G1C X A c fs gd → G1K X ip A R D.rt c fs K D → Inv X ip σ H s → t D σ H → Seg (model X.prog X.w) A R (Y1 X D.rt) 1 s₀ c ((exec st X.env).wrap K J gd lv) fs s
structure GSs1 (X : Cx) (st : List Stmt) (t : TS) : Prop where
  run : ∀ (A : Around) (ip : List (Addr × Obj)) (R : GenEnd) (s₀ : Shared) (c : Code) (fs : List Frame) (K : Flow → Sem PySem.Fin) (J : Value → Sem PySem.Fin) (gd : Bool → Bool) (lv : List Value → List Value) (s : Shared) (σ : L2.St) (H : Hp) (D : Ends),
    G1C X A c fs gd → G1K X ip A R D.rt c fs K D → Inv X ip σ H s → t D σ H → Seg (model X.prog X.w) A R (Y1 X D.rt) 1 s₀ c ((execs st X.env).wrap K J gd lv) fs s
section
variable {X : Cx} {st : Stmt} {rest : List Stmt}
end
end Dl

namespace Dl
open PySem PySem.Spec PyProof.Rows L2 GenW
/-! ### a generator def's promise: its first item, or its end -/
noncomputable abbrev SpG1 := List V → Hp → VK → (Hp → Prop) → Prop
noncomputable def REnd1 (P : Program) (w : World) (outer : List Env) (H : Hp) (s : Shared) (Qe : Hp → Prop) : GenEnd := fun _ _ r s1 =>
  ((r = .ok (.ret .none) ∨ r = .ok .next) ∧ ∃ H', s1.os = s.os ∧ AllBare s1.gens ∧ Un (frs outer) [] H H' s.heap s1.heap ∧ HOk P w H' s1.heap ∧ Qe H') ∨ ∃ e, r = .error e ∧ False
noncomputable def YItem1 (P : Program) (w : World) (outer : List Env) (H : Hp) (s : Shared) (Qy : VK) : Protocol := fun _ _ v s1 _ =>
  ∃ x H', RelV x v ∧ s1.os = s.os ∧ AllBare s1.gens ∧ Un (frs outer) [] H H' s.heap s1.heap ∧ HOk P w H' s1.heap ∧ Qy x H'
noncomputable def Made1 (P : Program) (w : World) (k : Nat) (outer : List Env) (H : Hp) (s : Shared) (Qy : VK) (Qe : Hp → Prop) (u : Value) (s' : Shared) : Prop :=
  ∃ (a : Addr) (g : Nat) (c : Code), u = .ref a ∧ s'.heap.IsGen a g ∧ s'.gens[g]? = some (.fresh c) ∧ s'.heap.NoLimit ∧ AllBare s'.gens ∧ s'.os = s.os ∧
    ∀ (A : Around) (s2 : Shared), Room k A → A.guards = some [] → A.frames = some outer → s2.heap = s'.heap → s2.os = s'.os → AllBare s2.gens →
      Seg (model P w) A (REnd1 P w outer H s Qe) (YItem1 P w outer H s Qy) 1 s2 c ((model P w).den c) [] s2
structure G1Fn (P : Program) (w : World) (K : PySem.W.Frag) (mg : Str → Option Value) (base : Heap) (k : Nat) (f : Addr) (fd : FuncData) (ps : List Str) (sp : SpG1) : Prop where
  len : ∀ vs H Q E, sp vs H Q E → vs.length = ps.length
  run : ∀ (A : Around) (outer : List Env) (s : Shared) (H : Hp) (args : Args) (us : List Value) (vs : List V) (Qy : VK) (Qe : Hp → Prop), Room k A → Env0 P w K mg base A outer s H → BindsTo s fd args (ps.zip us) → Vals vs us → sp vs H Qy Qe →
    codeAny (model P w) A (.call (.ref f) args) (fun r s' => match r with | .ok (.ret u) => Made1 P w k outer H s Qy Qe u s' | _ => False) s
/-! ### for x in f(..): a body that always leaves -/
section
variable {X : Cx} {k : Nat} {f : Addr} {fd : FuncData} {ps : List Str} {sp : SpG1} {x : Str} {p pos cpos : Pos} {e : Expr} {es : List Expr} {t : TA} {tg : Expr} {gg : TG} {body : List Stmt} {tb : TS}
end
end Dl

namespace Dl
open PySem PySem.Spec PyProof.Rows L2 GenW
/-! ### generators at data level, up to the first item -/
noncomputable def dNoRt (w : DS) : DS := fun D ρ n => w { D with rt := fun _ _ => False } ρ n
section
variable {X : Cx} {E : Ent} {st : Stmt} {rest : List Stmt} {w u : DS} {pos : Pos}
variable {c e tg iter : Expr} {we : DE} {wt : DT} {a b body : List Stmt} {wa wb : DS} {yp : Pos}
end
/-! ### promises -/
noncomputable abbrev DSpG := List RV → Nat → (RV → Nat → Prop) → (Nat → Prop) → Prop
noncomputable def liftG (K : PySem.W.Frag) (c : DSpG) : SpG1 := fun vs H Qy Qe => ∃ (rs : List RV) (n : Nat) (B : Hp) (bxs : List Addr) (Qdy : RV → Nat → Prop) (Qde : Nat → Prop),
  Good bxs n B H ∧ ValsR K bxs n B H rs vs ∧ argsIn rs ∧ c rs n Qdy Qde ∧
    (∀ r n1 v B1 H1, Qdy r n1 → retOk r → Step bxs n n1 B H B1 H1 → ValR K bxs n1 B1 H1 r v → FrR H r v → Qy v H1) ∧ ∀ n1 B1 H1, Qde n1 → Step bxs n n1 B H B1 H1 → Qe H1
structure DefG (P : Program) (w : World) (K : PySem.W.Frag) (mg : Str → Option Value) (base : Heap) (k : Nat) (x : Str) (ps : List Str) (c : DSpG) : Prop where
  ex : ∃ (f : Addr) (fd : FuncData), G1Fn P w K mg base k f fd ps (liftG K c) ∧ mg x = some (.ref f) ∧ PySem.W.keepIn K (.ref f) = true ∧ Binds K fd ps []
/-! ### for x in f(..): return .. -/
noncomputable def dFirst (c : DSpG) (wr : DA) (wg : DG) (wb : DS) : DS := fun D ρ n => wr ρ n fun rs n1 => argsOk rs ∧ c (rs.map asArg) n1 (fun r n2 => onD r fun x => wg x ρ fun ρ' => wb { nx := fun _ _ => False, ct := fun _ _ => False, bk := D.nx, rt := D.rt } ρ' n2) (fun n2 => D.nx ρ n2)
end Dl

namespace Dl
open PySem PySem.Spec PyProof.Rows L2
/-! ### pairs of positions -/
section
variable (t : Nat → Nat → Bool) (n : Nat)
end
section
variable {t : Nat → Nat → Bool} {n : Nat}
end
/-! ### cells that are the same -/
/-! ### the first number -/
/-! ### == of lists -/
end Dl

namespace Dl
open PySem PySem.Spec PyProof.Rows L2
/-! ### a keyword-only parameter d with the default i, the last one -/
structure DefW (P : Program) (w : World) (K : PySem.W.Frag) (mg : Str → Option Value) (base : Heap) (k : Nat) (x : Str) (ps : List Str) (st : Stmt) (d : Str) (i : Int) (c : DSp) : Prop where
  ex : ∃ (f D : Addr) (oc : Value) (od : Option Addr) (doc pm : Value) (an : Option Addr) (cdv ct : Value) (osl : Array (Option Value)) (t : Tok),
    FnG P w K mg base k f (PySem.W.fnOf x x (defArgs st) (defBody st) (defScope st) .none (.ref D) doc pm an cdv ct) ps (lift K c) ∧ mg x = some (.ref f) ∧ PySem.W.keepIn K (.ref f) = true ∧ PySem.W.nsIn K D d = some (some (.int i t))
section
variable {X : Cx} {k : Nat} {ps ks : List Str} {st : Stmt} {c : DSp} {x d : Str} {i : Int} {p pos : Pos} {e : Expr} {es : List Expr} {kws : List Keyword} {wr wk : DA}
/-- the values, picked, the default behind them -/
noncomputable def dCallW (np : Nat) (idx : List Nat) (i : Int) (c : DSp) (wr : DA) : DE := dCallK idx c fun ρ n Q => wr ρ n fun rs n1 => rs.length = np ∧ Q (rs ++ [.d (.int i)]) n1
end
end Dl

namespace Dl
open PySem PySem.Spec PyProof.Rows L2
/-! ### histories of all but one of the outcomes are enough -/
end Dl

namespace Dl
open PySem PySem.Spec PyProof.Rows L2
/-! ### len(set(xs)) of texts or of ints -/
/-- the first i values without the ones that were met before -/
noncomputable def metK {κ : Type} [DecidableEq κ] (val : Nat → κ) : Nat → List κ
  | 0 => []
  | i + 1 => if val i ∈ metK val i then metK val i else metK val i ++ [val i]
section
variable {prog : Program} {w : World} {κ : Type} [DecidableEq κ] {knd : PySem.KeyKind prog w κ}
end
section
variable {prog : Program} {w : World} {A : Around} {E : Value → Shared → Prop} {s : Shared}
section
variable {κ : Type} [DecidableEq κ] {knd : PySem.KeyKind prog w κ} {l : Addr} {its : Array Value} {val : Nat → κ} {Q : Value → Shared → Prop}
end
end
section
variable {X : Cx}
/-- how many different ones -/
noncomputable def distN {κ : Type} [DecidableEq κ] [Inhabited κ] (l : List κ) : Nat := (metK (fun i => l.getD i default) l.length).length
end
end Dl

namespace Dl
open PySem PySem.Spec PyProof.Rows L2
/-! ### isinstance(x, T) of data, T one built-in class -/
noncomputable def tyOfD : PyData → String
  | .int _ => "int"
  | .bool _ => "bool"
  | .str _ => "str"
  | .none => "NoneType"
  | .tuple _ => "tuple"
  | .list _ => "list"
  | .dict _ => "dict"
noncomputable def isTy (T : String) (x : PyData) : Bool := tyOfD x == T || (T == "int" && tyOfD x == "bool")
structure IsT (K : PySem.W.Frag) (T : String) : Prop where
  ok : ∀ n ∈ ["int", "bool", "str", "NoneType", "tuple", "list", "dict"], PySem.W.kitOne K (.type n) (.type T) = some (n == T || (T == "int" && n == "bool"))
/-- the data with a type here -/
noncomputable def tyB : PyData → Bool
  | .int _ | .bool _ | .str _ | .none | .tuple _ | .list _ | .dict _ => true
section
variable {X : Cx}
noncomputable def dIsI (T : String) (wa : DE) : DE := fun ρ n Q => wa ρ n fun r n1 => onO (view r) fun x => tyB x = true ∧ Q (.d (.bool (isTy T x))) n1
end
end Dl

namespace Dl
open PySem PySem.Spec PyProof.Rows L2
/-! ### x << k of wide ints -/
end Dl

namespace Dl
open PySem PySem.Spec PyProof.Rows L2
/-! ### dicts whose keys are None, numbers, texts: {}, d.get(k, x), d[k] = v -/
noncomputable def lfD : Leaf → PyData
  | .none => .none
  | .num i => .int i
  | .text x => .str x
noncomputable def dLf (P : Program) (w : World) (a : Addr) (kvs : List (Leaf × V)) : HO := .ext fun h => kvs.length ≤ sizeLine ∧ (a == sysModules) = false ∧ ∃ vs, KV kvs vs ∧ h.DictOf (leafKind P w) a vs
section
variable {P : Program} {w : World}
end
section
variable {X : Cx} {pins : List (Addr × Obj)} {σ : L2.St} {H : Hp} {s : Shared} {a : Addr} {kvs : List (Leaf × V)}
end
section
variable {X : Cx} {o i e f value : Expr} {pos pos' apos cpos : Pos} {td ty tx tv : TE}
end
/-- what a table gives -/
noncomputable def OR (K : PySem.W.Frag) (B : Hp) : Option V → Option PyData → Prop
  | none, none => True
  | some v, some x => Dp K B v x
  | _, _ => False
theorem OR.mono {K : PySem.W.Frag} {B B' : Hp} (s : Same B B') {v : Option V} {x : Option PyData} (h : OR K B v x) : OR K B' v x := by
  cases v <;> cases x
  · trivial
  · exact h.elim
  · exact h.elim
  · exact dpSame s _ _ h
theorem OR.getD {K : PySem.W.Frag} {B : Hp} {v : Option V} {x : Option PyData} {u : V} {y : PyData} (h : OR K B v x) (g : Dp K B u y) : Dp K B (v.getD u) (x.getD y) := by
  cases v <;> cases x
  · exact g
  · exact h.elim
  · exact h.elim
  · exact h
noncomputable def upF (f : Leaf → Option PyData) (k : Leaf) (y : PyData) : Leaf → Option PyData := fun j => if j = k then some y else f j
/-- a dict as a function of its keys; at most m entries -/
noncomputable def dictF (P : Program) (w : World) (f : Leaf → Option PyData) (m : Nat) : OwnT where
  rel := fun K B a o => ∃ kv, o = dLf P w a kv ∧ kv.length ≤ m ∧ ∀ k, OR K B (valV kv k) (f k)
  mono := fun s ⟨kv, e, l, h⟩ => ⟨kv, e, l, fun k => (h k).mono s⟩
noncomputable def dDNew (P : Program) (w : World) : DE := fun _ n Q => Q (.own (dictF P w (fun _ => none) 0)) n
noncomputable def dDGet (P : Program) (w : World) (i : Nat) (wk wx : DE) : DE := fun ρ n Q => ∃ f m, ρ[i]? = some (some (.own (dictF P w f m))) ∧ wk ρ n fun r n1 => wx ρ n1 fun r2 n2 => ∃ k y, r = .d (lfD k) ∧ r2 = .d y ∧ Q (.d ((f k).getD y)) n2
noncomputable def dDPut (P : Program) (w : World) (i : Nat) (wk wv : DE) : DS := fun D ρ n => ∃ f m, ρ[i]? = some (some (.own (dictF P w f m))) ∧ m < sizeLine ∧ wv ρ n fun rv n1 => onO (dat rv) fun y => wk ρ n1 fun rk n2 => ∃ k, rk = .d (lfD k) ∧ D.nx (ρ.set i (some (.own (dictF P w (upF f k y) (m + 1))))) n2
section
variable {X : Cx} {E : Ent} {x : Str} {o e f value : Expr} {pos pos' apos cpos p1 p2 : Pos} {wk wx wv : DE}
end
end Dl

namespace Dl
open PySem PySem.Spec PyProof.Rows L2
/-! ### (*xs, y, ..) -/
noncomputable def seqD : PyData → Option (List PyData)
  | .list xs => some xs
  | .tuple xs => some xs
  | _ => none
noncomputable def dStar (wa : DE) (wr : DA) : DA := fun ρ n Q => wa ρ n fun r n1 => onO (dat r) fun x => onO (seqD x) fun xs => wr ρ n1 fun rs n2 => Q (xs.map RV.d ++ rs) n2
theorem datas_map : ∀ (xs : List PyData) (rs : List RV), datas (xs.map RV.d ++ rs) = (datas rs).map (xs ++ ·)
  | [], rs => by cases e : datas rs <;> (simp only [List.map_nil, List.nil_append]; rw [e]; rfl)
  | x :: xs, rs => by
    rw [List.map_cons, List.cons_append]
    show (datas (xs.map RV.d ++ rs)).map (x :: ·) = _
    rw [datas_map xs rs]
    cases datas rs <;> rfl
end Dl

namespace Dl
open PySem PySem.Spec PyProof.Rows L2
/-! ### x == (), x != () of a tuple with anything in it -/
noncomputable def wEqE : DOp := fun x y Q => match x, y with
  | .tuple xs, .tuple [] => Q (.d (.bool xs.isEmpty))
  | _, _ => False
noncomputable def wNeE : DOp := fun x y Q => match x, y with
  | .tuple xs, .tuple [] => Q (.d (.bool (!xs.isEmpty)))
  | _, _ => False
section
variable {X : Cx}
/-! ### {} and {'a': e} as data -/
variable {pos : Pos}
noncomputable def dDict0 : DE := fun _ n Q => Q (.d (.dict [])) n
theorem le_dict0 : LE X (.Dict [] [] pos) dDict0 := pe_imp pe_dnewK fun σ H Q hu => by
  obtain ⟨ρ, n, B, bxs, Qd, g, e, w1, q⟩ := hu
  intro p hp
  exact q _ _ _ _ _ w1 (g.refl.lay g hp) (.dic (kv := []) upd_same rfl .nil) trivial
theorem Step.over {bxs : List Addr} {n n1 : Nat} {B H B2 H1 : Hp} {p : Addr} {o o' : HO} (g : Good bxs n B H) (hp : H p = none) (s : Step bxs n n1 B (upd H p o) B2 H1) (hB : B2 p = none) : Step bxs n n1 B H (upd B2 p o') (upd H1 p o') := by
  have ne : ∀ {a : Addr} {u : HO}, H a = some u → a ≠ p := fun h q => by rw [q, hp] at h; cases h
  have nb : ∀ {a : Addr} {u : HO}, B a = some u → a ≠ p := fun h => ne (g.sub _ _ h)
  refine ⟨fun a u h => ?_, fun a u h => ?_, fun a h => ?_, fun a u ha h => ?_, fun b hb => ?_, s.nn⟩
  · rw [upd_ne (nb h)]
    exact s.b1 a u h
  · by_cases e : a = p
    · subst e
      rw [upd_same] at h ⊢
      exact h
    · rw [upd_ne e] at h ⊢
      exact s.b2 a u h
  · have e : a ≠ p := fun q => h (by rw [q]; exact hp)
    rw [upd_ne e]
    exact s.b3 a (by rw [upd_ne e]; exact h)
  · rw [upd_ne (ne h)]
    exact s.h1 a u ha (by rw [upd_ne (ne h)]; exact h)
  · refine (s.bx b hb).keep fun u h => ?_
    have e : b ≠ p := fun q => (g.box b hb).2.ne (by rw [q]; exact hp)
    rw [upd_ne e]
    exact h
noncomputable def dDict1 (k : Str) (wa : DE) : DE := fun ρ n Q => wa ρ n fun r n1 => onO (dat r) fun x => Q (.d (.dict [(.str k, x)])) n1
theorem le_dict1 {k : Str} {j} {p1 : Pos} {e : Expr} {wa : DE} (he : LE X e wa) : LE X (.Dict [some (.Constant (.str k) j p1)] [e] pos) (dDict1 k wa) := pe_imp (pe_disp (pps_cons pe_str he pps_nil) rfl rfl (by simp) (by show 1 ≤ 15; decide)) fun σ H Q hu => by
  obtain ⟨ρ, n, B, bxs, Qd, g, en, w1, q⟩ := hu
  intro p hp
  have fb := freshB g hp
  have s0 : Step bxs n n B H B (upd H p (.dK [])) := g.refl.lay0 hp
  have g0 := g.step s0
  refine ⟨ρ, n, B, bxs, _, g0, en.step s0, w1, fun r n1 v B1 H1 hq s1 vr fr => ?_⟩
  obtain ⟨x, e1, hq⟩ := onO_ex hq
  obtain ⟨B2, s2, vr2, sb⟩ := fix_r g0 s1 vr fr
  rw [dat_fix e1] at vr2
  have hB : B2 p = none := by
    rw [s2.b3 p (by rw [upd_same]; exact fun q => nomatch q)]
    exact fb.2
  refine ⟨s2.h1 p _ fb.1 upd_same, [(Sum.inr k, v)], rfl, (by show 1 ≤ 15; decide), ?_⟩
  exact q _ _ _ _ _ hq (Step.over g hp s2 hB) (.dic (kv := [(k, v)]) upd_same rfl (.cons (dpSame (sub_add hB) _ _ vr2) .nil)) trivial
/-! ### a module's tuple of texts -/
structure KTup (K : PySem.W.Frag) (a : Addr) (ds : List PyData) : Prop where
  ex : ∀ B, Dp K B (.ref a) (.tuple ds)
end
end Dl

namespace Dl
open PySem PySem.Spec PyProof.Rows L2
/-! ### zip whose tuple was handed out and is still held -/
section
variable {prog : Program} {w : World} {A : Around} {E : Value → Shared → Prop} {s : Shared} {z TI TO T i1 i2 : Addr} {fp1 fp2 : List Addr} {n1 n2 i : Nat} {P1 P2 : Nat → Value → Prop} {St1 St2 : Nat → Heap → Prop} {f : Bool} {oT : Obj}
end
/-! ### list(zip(x, y)) -/
section
variable {prog : Program} {w : World} {A : Around} {E : Value → Shared → Prop} {s : Shared} {z TI TO i1 i2 : Addr} {fp1 fp2 : List Addr} {n1 n2 i : Nat} {P1 P2 : Nat → Value → Prop} {St1 St2 : Nat → Heap → Prop}
end
section
variable {X : Cx} {pins : List (Addr × Obj)} {σ : L2.St} {A : Around} {R : Result → Shared → Prop} {S z TI TO i1 i2 lo : Addr} {fp1 fp2 : List Addr} {its1 its2 : List Value} {xs ys : List V} {St1 St2 : Nat → Heap → Prop} {Pv : Nat → List V → Hp → Prop}
end
structure SrcOk (P : Program) (w : World) (h : Heap) (a : Addr) (its : List Value) (o : Obj) (Hp : Heap → Prop) (St : Addr → Nat → Heap → Prop) : Prop where
  beg : Begins (.ref a) o Hp
  now : Hp h
  lt : a < h.objs.size
  st : ∀ i1 h', a ≠ i1 → h'.get? i1 = some o → (∀ c o, h.get? c = some o → h'.get? c = some o) → St i1 0 h'
  dr : ∀ (A : Around) (i1 : Addr), A.handled = none → a ≠ i1 → Draws P w A i1 [i1, a] its.length (fun j v => its[j]? = some v) (St i1)
/-- list(zip(x, y)) of lists and tuples -/
noncomputable def dListZ (wr : DA) : DE := fun ρ n Q => wr ρ n fun rs n1 => match rs with
  | [.d (.list xs), .d (.list ys)] => min xs.length ys.length < sizeLine ∧ Q (.new (zipD xs ys)) n1
  | [.d (.list xs), .d (.tuple ys)] => min xs.length ys.length < sizeLine ∧ Q (.new (zipD xs ys)) n1
  | [.d (.tuple xs), .d (.list ys)] => min xs.length ys.length < sizeLine ∧ Q (.new (zipD xs ys)) n1
  | [.d (.tuple xs), .d (.tuple ys)] => min xs.length ys.length < sizeLine ∧ Q (.new (zipD xs ys)) n1
  | _ => False
end Dl

namespace Dl
open PySem PySem.Spec PyProof.Rows L2 GenW
/-! ### generators with their consumer: contexts that begin anew at each waking -/
noncomputable def cutH (m : Nat) (h : Heap) : Heap := { h with objs := h.objs.take m }
theorem cut_lt {m : Nat} {h : Heap} {a : Nat} (ha : a < m) : (cutH m h).get? a = h.get? a := by
  unfold Heap.get? cutH
  have e : (h.objs.take m)[a]? = h.objs[a]? := by
    rw [Array.take_eq_extract, Array.getElem?_extract]
    simp only [Nat.zero_add, Nat.sub_zero]
    by_cases hs : a < h.objs.size
    · rw [if_pos (by omega)]
    · rw [if_neg (by omega), Array.getElem?_eq_none (by omega)]
  rw [e]
theorem cut_ge {m : Nat} {h : Heap} {a : Nat} (ha : m ≤ a) : (cutH m h).get? a = none := by
  unfold Heap.get? cutH
  have e : (h.objs.take m)[a]? = none := by
    rw [Array.take_eq_extract]
    exact Array.getElem?_eq_none (by rw [Array.size_extract]; omega)
  rw [e]
theorem cut_some {m : Nat} {h : Heap} {a : Addr} {o : Obj} (e : (cutH m h).get? a = some o) : a < m ∧ h.get? a = some o := by
  rcases Nat.lt_or_ge a m with q | q
  · rw [cut_lt q] at e
    exact ⟨q, e⟩
  · rw [cut_ge q] at e
    cases e
theorem cut_size (m : Nat) (h : Heap) : (cutH m h).objs.size ≤ m := by
  unfold cutH
  show (h.objs.take m).size ≤ m
  rw [Array.take_eq_extract, Array.size_extract]
  omega
theorem cut_size' {m : Nat} {h : Heap} (hm : m ≤ h.objs.size) : (cutH m h).objs.size = m := by
  unfold cutH
  show (h.objs.take m).size = m
  rw [Array.take_eq_extract, Array.size_extract]
  omega
/-- the context of a generator's body, woken at s with the abstract heap H -/
noncomputable def XR (X : Cx) (s : Shared) (H : Hp) : Cx := { X with s_0 := { s with heap := cutH X.env.locals s.heap }, H_0 := H }
theorem funs_cut {h base : Heap} {m : Nat} : ∀ {l : List Env}, (∀ b ∈ frs l, b < m) → h.FunFrames base l → (cutH m h).FunFrames base l
  | [], _, _ => trivial
  | env :: r, hb, hl => by
    obtain ⟨hk, ⟨L, o, hf, hn, ho, hd⟩, hr⟩ := hl
    have hL : L < m := hb L (by unfold frs; rw [List.filterMap_cons, hf]; exact List.mem_cons_self)
    exact ⟨hk, ⟨L, o, hf, hn, by rw [cut_lt hL]; exact ho, hd⟩, funs_cut (fun b q => hb b (by unfold frs; rw [List.filterMap_cons, hf]; exact List.mem_cons_of_mem _ q)) hr⟩
theorem rebase {X : Cx} {ip : List (Addr × Obj)} {σ : L2.St} {H H' : Hp} {s s' : Shared} (I : Inv X ip σ H s) (hc : X.env.cells = []) (hx : X.ex = []) (hp : X.pn = [])
    (os : s'.os = s.os) (bare : AllBare s'.gens) (bs : ∀ b o, X.base.get? b = some o → s'.heap.get? b = some o ∧ H' b = none)
    (funs : s'.heap.FunFrames X.base X.outer) (frf : ∀ b ∈ X.fs, H' b = none) (frl : ∀ b ∈ X.fs, b < X.env.locals)
    (loc : ∀ o, s.heap.get? X.env.locals = some o → s'.heap.get? X.env.locals = some o) (free : H' X.env.locals = none)
    (pin : ∀ p ∈ ip, s'.heap.get? p.1 = some p.2 ∧ H' p.1 = none) (hok : HOk X.prog X.w H' s'.heap) : Inv (XR X s' H') ip σ H' s' := by
  have lk : ∀ x c, X.env.cells.lookup x = some c → False := fun x c e => by rw [hc] at e; cases e
  have hlt : X.env.locals < s'.heap.objs.size := by
    obtain ⟨m, ⟨o, es, ep, ho, _⟩, _⟩ := I.loc
    exact Heap.lt_size (loc o ho)
  have bb : ∀ b o, X.base.get? b = some o → b < X.env.locals := fun b o e => Nat.lt_of_lt_of_le (Heap.lt_size e) (Nat.le_trans I.ok.bsz I.ok.above)
  refine ⟨⟨I.ok.mod, I.ok.kind, I.ok.glob, I.ok.blt, cut_size _ _, I.ok.inj, I.ok.has, fun x c _ e => (lk x c e).elim, I.ok.hd, I.ok.frames, I.ok.stk, fun b hb => ?_, fun b o e => ?_, ?_, fun b o e hb => ?_, fun b hb => ?_, ?_, frf⟩, ?_, bare, ?_, ?_, fun x c e => (lk x c e).elim, free, fun x c e => (lk x c e).elim, fun p hp' => ?_, hok, I.len⟩
  · have : b ∈ X.ex := hb
    rw [hx] at this; cases this
  · exact ⟨by show (cutH X.env.locals s'.heap).get? b = some o; rw [cut_lt (bb b o e)]; exact (bs b o e).1, (bs b o e).2⟩
  · show X.base.objs.size ≤ (cutH X.env.locals s'.heap).objs.size
    rw [cut_size' (Nat.le_of_lt hlt)]
    exact Nat.le_trans I.ok.bsz I.ok.above
  · have : b ∈ X.ex := hb
    rw [hx] at this; cases this
  · have : b ∈ X.ex := hb
    rw [hx] at this; cases this
  · exact funs_cut frl funs
  · exact rfl
  · refine ⟨fun b o e n _ _ => (cut_some e).2, fun b o e n _ _ => ⟨o.slots, (cut_some e).2⟩, fun b o e n _ => n, fun b o e _ => ⟨o, (cut_some e).2⟩, fun _ _ e => e, fun _ _ _ e => e, fun b ps e => ⟨#[], by have e : H' b = some (HO.tbl ps) := e; rw [e]; simp⟩⟩
  · obtain ⟨m, ⟨o, es, ep, ho, r⟩, hv⟩ := I.loc
    refine ⟨m, ⟨o, es, ep, loc o ho, r⟩, fun i x v e1 e2 e3 => ?_⟩
    obtain ⟨u, ru, lu⟩ := hv i x v e1 e2 e3
    refine ⟨u, ru, ?_⟩
    rcases lu with q | ⟨_, c, q, _⟩
    · exact .inl q
    · exact (lk x c q).elim
  · have hm : p ∈ ip := by
      rcases List.mem_append.mp hp' with q | q
      · have : p ∈ X.pn := q
        rw [hp] at this; cases this
      · exact q
    obtain ⟨_, _, a3, a4, a5⟩ := I.pin p (List.mem_append_right _ hm)
    exact ⟨(pin p hm).1, (pin p hm).2, a3, a4, a5⟩
/-! ### where a generator's code stands -/
structure GLC (X : Cx) (A : Around) (c : Code) (fs : List Frame) (gd : Bool → Bool) : Prop where
  over : A.over c fs = X.A
  split : splitAtGen fs = none
  guard : fs.any Frame.guarded = false
  gd : gd false = false
end Dl

namespace Dl
open PySem PySem.Spec PyProof.Rows L2
/-! ### sets whose members are tuples with texts in them -/
section
variable {P : Program} {w : World} {A : Around} {E : Value → Shared → Prop} {s : Shared}
/-! no member is of a class statement; a member's hash is or is not told by its value -/
mutual
theorem cls_key : ∀ (k : NestedKey) (v : Value) (n : Nat) (s : Shared) (A : Around) (Q : Bool → Shared → Prop), NestedIs s.heap k v → k.depth ≤ n → Q false s → wpAny (model P w) A (ofAClassStatement n v) Q E s
  | .none, _, n, s, A, Q, x, _, q => by cases x; cases n <;> exact wpAny_pure q
  | .num i, _, n, s, A, Q, x, _, q => by cases x <;> cases n <;> exact wpAny_pure q
  | .text y, _, n, s, A, Q, x, _, q => by cases x; cases n <;> exact wpAny_pure q
  | .tup ks, _, n, s, A, Q, x, hn, q => by
    cases x with
    | tup hg hc hd hk =>
      simp only [NestedKey.depth] at hn
      cases n with
      | zero => omega
      | succ n =>
        unfold ofAClassStatement
        refine wpAny_bind (wpAny_typeOf ⟨_, hg, hc⟩ ?_)
        have e : (("tuple" : String) == "tuple") = true := by decide
        simp only [e, if_true]
        refine wpAny_bind (wpAny_pure ?_)
        simp only [Bool.not_true, Bool.false_eq_true, if_false]
        refine wpAny_bind (wpAny_seqItems hg hd ?_)
        dsimp only
        refine wpAny_bind ?_
        rw [← Array.forIn_toList]
        refine wpAny_mono (cls_keys ks _ n s A hk (by omega)) (fun r s' h => ?_) fun _ _ z => z
        obtain ⟨rfl, rfl⟩ := h
        exact wpAny_pure q
theorem cls_keys : ∀ (ks : List NestedKey) (vs : List Value) (n : Nat) (s : Shared) (A : Around), NestedAll s.heap ks vs → NestedKey.depthAll ks ≤ n →
    wpAny (model P w) A (forIn vs (none, PUnit.unit) fun y _ => do
      if ← ofAClassStatement n y then return ForInStep.done (some true, PUnit.unit)
      return ForInStep.yield (none, PUnit.unit)) (fun r s' => r = ((none : Option Bool), PUnit.unit) ∧ s' = s) E s
  | [], _, n, s, A, x, _ => by
    cases x
    exact wpAny_pure ⟨rfl, rfl⟩
  | k :: ks, _, n, s, A, x, hn => by
    cases x with
    | cons x1 x2 =>
      simp only [NestedKey.depthAll] at hn
      rw [List.forIn_cons]
      refine wpAny_bind (wpAny_bind (cls_key k _ n s A _ x1 (by omega) ?_))
      simp only [Bool.false_eq_true, if_false]
      refine wpAny_pure ?_
      exact cls_keys ks _ n s A x2 (by omega)
end
mutual
theorem byv_key : ∀ (k : NestedKey) (v : Value) (n : Nat) (s : Shared) (A : Around) (Q : Bool → Shared → Prop), NestedIs s.heap k v → (∀ b, Q b s) → wpAny (model P w) A (hashByValue n v) Q E s
  | .none, _, n, s, A, Q, x, q => by cases x; cases n <;> exact wpAny_pure (q _)
  | .num i, _, n, s, A, Q, x, q => by cases x <;> cases n <;> exact wpAny_pure (q _)
  | .text y, _, n, s, A, Q, x, q => by cases x; cases n <;> exact wpAny_pure (q _)
  | .tup ks, _, n, s, A, Q, x, q => by
    cases x with
    | tup hg hc hd hk =>
      cases n with
      | zero => exact wpAny_pure (q _)
      | succ n =>
        unfold hashByValue
        refine wpAny_bind (wpAny_specialOf ⟨_, hg, hc⟩ F.slot_tuple_hash.lookup ?_)
        refine wpAny_bind (wpAny_seqItems hg hd ?_)
        dsimp only [Option.getD_some]
        refine wpAny_bind ?_
        rw [← Array.forIn_toList]
        refine wpAny_mono (byv_keys ks _ n s A hk) (fun r s' h => ?_) fun _ _ z => z
        subst h
        obtain ⟨r, _⟩ := r
        cases r with
        | none => exact wpAny_pure (q _)
        | some b => exact wpAny_pure (q _)
theorem byv_keys : ∀ (ks : List NestedKey) (vs : List Value) (n : Nat) (s : Shared) (A : Around), NestedAll s.heap ks vs →
    wpAny (model P w) A (forIn vs ((none : Option Bool), PUnit.unit) fun y _ => do
      if !(← hashByValue n y) then return ForInStep.done (some false, PUnit.unit)
      return ForInStep.yield (none, PUnit.unit)) (fun r s' => s' = s) E s
  | [], _, n, s, A, x => by
    cases x
    exact wpAny_pure rfl
  | k :: ks, _, n, s, A, x => by
    cases x with
    | cons x1 x2 =>
      rw [List.forIn_cons]
      refine wpAny_bind (wpAny_bind (byv_key k _ n s A _ x1 fun b => ?_))
      cases b with
      | true =>
        simp only [Bool.not_true, Bool.false_eq_true, if_false]
        refine wpAny_pure ?_
        exact byv_keys ks _ n s A x2
      | false =>
        simp only [Bool.not_false, if_true]
        refine wpAny_pure ?_
        exact wpAny_pure rfl
end
theorem seen_key {k : NestedKey} {b : Addr} {Q : Bool → Shared → Prop} (hk : (nestedKind P w).is s.heap k b) {ys : List Value} (hy : ∀ y ∈ ys, ∃ k' c, y = Value.ref c ∧ (nestedKind P w).is s.heap k' c) (q : Q false s) :
    wpAny (model P w) A (searchCouldBeSeen (.ref b) ys) Q E s := by
  unfold searchCouldBeSeen
  refine wpAny_bind (wpAny_forIn_list _ (fun rest r s' => s' = s ∧ r = (none, PUnit.unit) ∧ ∀ y ∈ rest, y ∈ ys) _ ?_ ?_ _ _ ⟨rfl, rfl, fun _ h => h⟩)
  · rintro v rest r s' ⟨rfl, rfl, hs⟩
    obtain ⟨k', c, rfl, hc⟩ := hy v (hs v List.mem_cons_self)
    have later : ∀ y ∈ rest, y ∈ ys := fun y h => hs y (List.mem_cons_of_mem _ h)
    dsimp only
    split
    · exact wpAny_pure ⟨rfl, rfl, later⟩
    · refine wpAny_bind ((nestedKind P w).quiet hk ?_)
      refine wp_if_neg (by decide) (wpAny_bind ((nestedKind P w).quiet hc (wp_if_neg (by decide) ?_)))
      refine wpAny_bind (cls_key k _ 8 _ _ _ hk.1 hk.2 (wp_if_neg (by decide) ?_))
      exact wpAny_bind (cls_key k' _ 8 _ _ _ hc.1 hc.2 (wp_if_neg (by decide) (wpAny_pure ⟨rfl, rfl, later⟩)))
  · rintro r s' ⟨rfl, rfl, _⟩
    exact wpAny_pure q
/-- the members are ks; the table finds each again -/
structure TSet (P : Program) (w : World) (M : NestedKey → Addr → Prop) (h : Heap) (a : Addr) (ks : List NestedKey) (es : Array (Int × Value)) (ep : Nat) (t : SetTable) : Prop where
  ob : ∃ o, h.get? a = some o ∧ o.ExactSet ∧ o.data = .set es ep t
  tab : TabOk t (es.toList.map (·.1))
  el : ∀ e ∈ es.toList, ∃ k b, e = ((nestedKind P w).hash k, Value.ref b) ∧ M k b ∧ k ∈ ks
  has : ∀ k ∈ ks, ∃ b, ((nestedKind P w).hash k, Value.ref b) ∈ es.toList ∧ M k b
  sz : es.size = ks.length
  room : es.size * 5 < t.mask * 3
  few : es.size < 64
  led : w.params.followText "set-order" = true ∨ t.led = true
theorem tab_fits {t : SetTable} {n : Nat} (h1 : t.dummies = #[]) (h2 : t.place.size = n) (h3 : n ≤ t.mask) : t.fits n = true := by
  unfold SetTable.fits SetTable.fill
  rw [h1, h2]
  simpa using h3
variable {M : NestedKey → Addr → Prop} {a : Addr} {ks : List NestedKey} {es : Array (Int × Value)} {ep : Nat} {t : SetTable}
theorem TSet.places (R : TSet P w M s.heap a ks es ep t) : t.place.size = es.size := by
  have := R.tab.sz
  rwa [List.length_map, Array.length_toList] at this
theorem TSet.fits (R : TSet P w M s.heap a ks es ep t) : t.fits es.size = true := tab_fits R.tab.dm R.places (by have := R.room; omega)
theorem probe_dm {m : Nat} : ∀ (n : Nat) (p : SetTable.Probe), p.dummy = none → (nth m p n).dummy = none
  | 0, _, h => h
  | n + 1, p, h => probe_dm n (adv m p) (by unfold adv; split <;> exact h)
noncomputable abbrev prb (m : Nat) (h : Int) (c : Nat) : SetTable.Probe := nth m (runAt m (SetTable.bits h % (m + 1)) (SetTable.bits h)) c
theorem TSet.search (R : TSet P w M s.heap a ks es ep t) {x : Addr} {k : NestedKey} {h : Int} (eh : h = (nestedKind P w).hash k) (hG : ∀ k b, M k b → (nestedKind P w).is s.heap k b) (hx : M k x) (hu : (nestedKind P w).room A) {K : Nat} (hf : K < 10 * SetTable.turns t.mask)
    (hK : way t.mask h K ∉ t.place.toList) (hb : ∀ c, c < K → way t.mask h c ∈ t.place.toList) {Q : SetFound → Shared → Prop} (hin : k ∈ ks → Q (.there none) s) (hout : k ∉ ks → Q (.free (way t.mask h K) false) s) :
    ∀ (f c : Nat) (st : Option SetTable.Probe), st.getD (t.probeStart h) = prb t.mask h c → c ≤ K → K - c < f →
      (k ∈ ks → ∃ (i c' : Nat) (b : Addr), c ≤ c' ∧ c' < K ∧ t.place.toList[i]? = some (way t.mask h c') ∧ es[i]? = some (h, Value.ref b) ∧ M k b) → wpAny (model P w) A (setSearchFrom a (.ref x) h true f st) Q E s := by
  have up : ∀ {k b}, M k b → (nestedKind P w).is s.heap k b := fun x => hG _ _ x
  intro f
  induction f with
  | zero => intro c st _ _ z _; omega
  | succ f ih =>
    intro c st e0 hc hfc ahead
    obtain ⟨o, ho, _, hd⟩ := R.ob
    have jump : ∀ q, nth t.mask (prb t.mask h c) q = prb t.mask h (c + q) := fun q => (nth_add t.mask c _ q).symm
    have jj : ∀ q, (nth t.mask (prb t.mask h c) q).j = way t.mask h (c + q) := fun q => by rw [jump]
    have endK : c + (K - c) = K := by omega
    rw [setSearchFrom_succ]
    refine wpAny_bind (wpAny_setState_of ho hd R.fits ?_)
    dsimp only
    refine wp_if_neg (by unfold SetTable.gaveWay; rw [mask_odd R.tab.mok]; decide) ?_
    have spec := go_spec t R.tab.ris R.tab.dm (fun i : Nat => (Option.map Prod.fst es[i]?).getD (0 : Int)) h (10 * SetTable.turns t.mask) (K - c) (prb t.mask h c) (probe_dm c _ rfl) (by omega)
      (fun q hq => by rw [jj]; exact hb _ (by omega)) (by rw [jj, endK]; exact hK)
    have passed : ∀ {q : Nat}, (∀ k' i', k' < q → t.place.toList[i']? = some (nth t.mask (prb t.mask h c) k').j → (fun i : Nat => (Option.map Prod.fst es[i]?).getD (0 : Int)) i' ≠ h) → ∀ {i c' : Nat} {b : Addr}, c ≤ c' → t.place.toList[i]? = some (way t.mask h c') → es[i]? = some (h, Value.ref b) → c + q ≤ c' := fun {q} no {i c' b} h1 h2 h3 => by
      refine Classical.byContradiction fun z => no (c' - c) i (by omega) (by rw [jj, show c + (c' - c) = c' by omega]; exact h2) ?_
      show (Option.map Prod.fst es[i]?).getD (0 : Int) = h
      rw [h3]; rfl
    rcases spec with ⟨q, i, hq, hi, hh, no, go⟩ | ⟨no, go⟩
    · have go : t.probe (fun i : Nat => (Option.map Prod.fst es[i]?).getD (0 : Int)) h (st.getD (t.probeStart h)) = some (.candidate (way t.mask h (c + q)) i (prb t.mask h (c + (q + 1)))) := by
        rw [e0, ← jj, ← jump]; exact go
      rw [jj] at hi
      rw [go]
      dsimp only
      have hil : i < es.size := by
        have := (List.getElem?_eq_some_iff.mp hi).1
        rw [Array.length_toList, R.places] at this
        exact this
      have eg : es[i]? = some es[i] := Array.getElem?_eq_getElem hil
      obtain ⟨k', b', ee, hk', mem⟩ := R.el es[i] (by simp)
      rw [ee] at eg
      have hh : (nestedKind P w).hash k' = h := by
        have hh : (Option.map Prod.fst es[i]?).getD (0 : Int) = h := hh
        rw [eg] at hh
        exact hh
      rw [hh] at eg
      have rest : wpAny (model P w) A (searchRest a (.ref x) h true f es t (way t.mask h (c + q)) i (prb t.mask h (c + (q + 1)))) Q E s := by
        unfold searchRest
        rw [eg]
        dsimp only
        refine wpAny_bind (wpAny_holding ((nestedKind P w).eqBool hu (up hk') (up hx) (wpAny_bind (wpAny_setState_of ho hd R.fits ?_))))
        dsimp only
        by_cases same : k' = k
        · exact wp_if_pos (by simp [same]) (wpAny_pure (hin (same ▸ mem)))
        · refine wp_if_neg (by simp [same]) ?_
          have live : t.slot (way t.mask h (c + q)) = .live i := slot_live R.tab.ris hi
          rw [sameMem]
          simp only [if_true, live, eg]
          refine wpAny_bind (wpAny_isSame_ref_self (wpAny_bind (wpAny_pure ?_)))
          simp only [if_true]
          refine wp_if_neg (by simp [same]) (ih (c + (q + 1)) _ rfl (by omega) (by omega) fun m => ?_)
          obtain ⟨i0, c', b, a1, a2, a3, a4, a5⟩ := ahead m
          refine ⟨i0, c', b, ?_, a2, a3, a4, a5⟩
          have := passed no a1 a3 a4
          rcases Nat.lt_or_ge (c + q) c' with z | z
          · omega
          · exfalso
            obtain rfl : c' = c + q := by omega
            have l2 := slot_live R.tab.ris a3
            rw [live] at l2
            injection l2 with l2
            subst l2
            rw [eg] at a4
            injection a4 with a4
            injection a4 with _ a4
            injection a4 with a4
            subst a4
            exact same ((nestedKind P w).inj (up hk') (up a5))
      by_cases led : t.led = true
      · exact wp_if_neg (by simp [led]) rest
      · refine wp_if_pos (by simp [led]) (wpAny_bind (seen_key (up hx) (fun y hy => ?_) (wp_if_neg (by decide) rest)))
        obtain ⟨e, he, rfl⟩ := List.mem_map.mp hy
        obtain ⟨k2, b2, rfl, h2, _⟩ := R.el e (by simp at he; simpa using he.1)
        exact ⟨k2, b2, rfl, up h2⟩
    · have go : t.probe (fun i : Nat => (Option.map Prod.fst es[i]?).getD (0 : Int)) h (st.getD (t.probeStart h)) = some (.empty (way t.mask h K) none) := by
        have : way t.mask h K = (nth t.mask (prb t.mask h c) (K - c)).j := by rw [jj, endK]
        rw [e0, this]; exact go
      rw [go]
      dsimp only
      refine wpAny_pure (hout fun m => ?_)
      obtain ⟨i0, c', b, a1, a2, a3, a4, a5⟩ := ahead m
      have := passed no a1 a3 a4
      omega
theorem range_gets {α : Type} : ∀ (l : List α), (List.range l.length).filterMap (fun i => l[i]?) = l
  | [] => rfl
  | x :: l => by
    rw [List.length_cons, List.range_succ_eq_map, List.filterMap_cons_some (f := fun i => (x :: l)[i]?) (a := 0) (b := x) rfl, List.filterMap_map]
    exact congrArg (x :: ·) (range_gets l)
theorem order_fst (es : Array (Int × Value)) : ∀ (l : List Nat), (∀ i ∈ l, i < es.size) → (l.filterMap (fun i => es[i]?)).map Prod.fst = l.map fun i => (es.map Prod.fst).getD i 0
  | [], _ => rfl
  | i :: l, h => by
    have hi := h i List.mem_cons_self
    rw [List.filterMap_cons_some (Array.getElem?_eq_getElem hi), List.map_cons, List.map_cons, order_fst es l fun j hj => h j (List.mem_cons_of_mem _ hj)]
    congr 1
    simp [Array.getD, hi]
theorem TSet.perm {es' : Array (Int × Value)} (el : ∀ e ∈ es.toList, ∃ k b, e = ((nestedKind P w).hash k, Value.ref b) ∧ M k b ∧ k ∈ ks) (has : ∀ k ∈ ks, ∃ b, ((nestedKind P w).hash k, Value.ref b) ∈ es.toList ∧ M k b)
    (pm : es'.toList.Perm es.toList) : (∀ e ∈ es'.toList, ∃ k b, e = ((nestedKind P w).hash k, Value.ref b) ∧ M k b ∧ k ∈ ks) ∧ ∀ k ∈ ks, ∃ b, ((nestedKind P w).hash k, Value.ref b) ∈ es'.toList ∧ M k b :=
  ⟨fun e he => el e (pm.mem_iff.mp he), fun k hk => by
    obtain ⟨b, h1, h2⟩ := has k hk
    exact ⟨b, pm.mem_iff.mpr h1, h2⟩⟩
/-- the table is laid anew -/
theorem relay_key {o : Obj} (ho : s.heap.get? a = some o) (hex : o.ExactSet) (hd : o.data = .set es ep t) (tab : TabOk t (es.toList.map (·.1))) (el : ∀ e ∈ es.toList, ∃ k b, e = ((nestedKind P w).hash k, Value.ref b) ∧ M k b ∧ k ∈ ks)
    (has : ∀ k ∈ ks, ∃ b, ((nestedKind P w).hash k, Value.ref b) ∈ es.toList ∧ M k b) (sz : es.size = ks.length) (few : es.size < 64) (ld : w.params.followText "set-order" = true ∨ t.led = true) (le : es.size ≤ t.mask) {want m : Nat} (hw : SetTable.sizeAbove want = m + 1) (hM : MaskOk m) (hn : es.size * 5 < m * 3) {Q : Unit → Shared → Prop}
    (hQ : ∀ h' es' ep' t', Heap.SameBut a s.heap h' → TSet P w M h' a ks es' ep' t' → Q () { s with heap := h' }) : wpAny (model P w) A (setRelay a want) Q E s := by
  have pl : t.place.size = es.size := by
    have := tab.sz
    rwa [List.length_map, Array.length_toList] at this
  have small : m ≤ 127 := by rcases hM with e | e | e <;> omega
  obtain ⟨t', order, e, hp, T, em, el', _, _⟩ := relaid_ok t (hs := es.map (·.1)) (wanted := want) (M := m) (by omega) hM (by rw [Array.size_map]; omega)
  rw [Array.size_map] at hp
  have inb : ∀ i ∈ order.toList, i < es.size := fun i hi => List.mem_range.mp (hp.mem_iff.mp hi)
  have el2 : (order.filterMap (es[·]?)).toList = order.toList.filterMap (fun i => es[i]?) := by simp
  have pm : (order.filterMap (es[·]?)).toList.Perm es.toList := by
    rw [el2]
    have q : (order.toList.filterMap fun i => es[i]?).Perm ((List.range es.size).filterMap fun i => es[i]?) := hp.filterMap _
    have r := range_gets es.toList
    rw [Array.length_toList] at r
    simp only [Array.getElem?_toList] at r
    rw [r] at q
    exact q
  have z2 : (order.filterMap (es[·]?)).size = es.size := by
    have := pm.length_eq
    rwa [Array.length_toList, Array.length_toList] at this
  rw [show (order.toList.map fun i => (es.map (·.1)).getD i 0) = (order.filterMap (es[·]?)).toList.map (·.1) from by rw [el2]; exact (order_fst es order.toList inb).symm] at T
  rw [setRelay_eq]
  refine wpAny_bind (wpAny_setState_of ho hd (tab_fits tab.dm pl le) ?_)
  dsimp only
  refine wp_if_neg (by rw [sizeLine_eq]; omega) ?_
  rw [e]
  dsimp only
  refine wpAny_bind (wp_if_neg (by rw [z2]; simp) (wpAny_pure ?_))
  dsimp only
  refine wpAny_storeSet_of ho hd ?_ (by rw [z2, sizeLine_eq]; omega)
  have sb : Heap.SameBut a s.heap (s.heap.update a (Obj.putSet (order.filterMap (es[·]?)) t')) := Heap.SameBut.update ..
  obtain ⟨p1, p2⟩ := TSet.perm el has pm
  exact hQ _ _ (ep + 1) t' sb ⟨⟨_, store_at ho hd, ⟨hex.1, hex.2.1, hex.2.2⟩, rfl⟩, T, p1, p2, by rw [z2]; exact sz, by rw [z2, em]; exact hn, by rw [z2]; exact few, by rw [el']; exact ld⟩
theorem TSet.find (R : TSet P w M s.heap a ks es ep t) {x : Addr} {k : NestedKey} (hG : ∀ k b, M k b → (nestedKind P w).is s.heap k b) (hx : M k x) (hu : (nestedKind P w).room A) {Q : SetFound → Shared → Prop} (hin : k ∈ ks → Q (.there none) s)
    (hout : ∀ K, k ∉ ks → way t.mask ((nestedKind P w).hash k) K ∉ t.place.toList → (∀ c, c < K → way t.mask ((nestedKind P w).hash k) c ∈ t.place.toList) → Q (.free (way t.mask ((nestedKind P w).hash k) K) false) s) :
    wpAny (model P w) A (setSearch a (.ref x) ((nestedKind P w).hash k) true) Q E s := by
  have room := R.room
  obtain ⟨K, h1, h2, h3⟩ := R.tab.first (by rw [List.length_map, Array.length_toList]; omega) ((nestedKind P w).hash k)
  have big : K < 100000 := by
    have : 10 * SetTable.turns t.mask ≤ 1420 := by
      unfold SetTable.turns
      rcases R.tab.mok with e | e | e <;> omega
    omega
  unfold setSearch
  refine R.search rfl hG hx hu h1 h2 h3 hin (fun z => hout K z h2 h3) 100000 0 none rfl (Nat.zero_le _) (by omega) fun m => ?_
  obtain ⟨b, hb, hk⟩ := R.has k m
  obtain ⟨i, hi, e⟩ := List.getElem_of_mem hb
  have ei : es.toList[i]? = some ((nestedKind P w).hash k, Value.ref b) := by rw [List.getElem?_eq_getElem hi, e]
  have hil : i < t.place.toList.length := by
    rw [Array.length_toList, R.places, ← Array.length_toList]; exact hi
  obtain ⟨c, c1, c2⟩ := R.tab.before h2 (i := i) (h := (nestedKind P w).hash k) (by rw [List.getElem?_map, ei]; rfl) (List.getElem?_eq_getElem hil)
  exact ⟨i, c, b, Nat.zero_le _, c1, by rw [List.getElem?_eq_getElem hil, c2], by rw [← Array.getElem?_toList]; exact ei, hk⟩
/-- a member more, or none -/
theorem TSet.add (R : TSet P w M s.heap a ks es ep t) {x : Addr} {k : NestedKey} (hG : ∀ k b, M k b → (nestedKind P w).is s.heap k b) (hx : M k x) (hu : (nestedKind P w).room A) (few : ks.length + 1 < 64) {Q : Bool → Shared → Prop}
    (hQ : ∀ b h' es' ep' t', Heap.SameBut a s.heap h' → TSet P w M h' a (if k ∈ ks then ks else ks ++ [k]) es' ep' t' → Q b { s with heap := h' }) : wpAny (model P w) A (setAddHashed a (.ref x) ((nestedKind P w).hash k)) Q E s := by
  obtain ⟨o, ho, hex, hd⟩ := R.ob
  have sz := R.sz
  have room := R.room
  unfold setAddHashed
  refine wpAny_holding ?_
  rw [show (100000 : Nat) = 99999 + 1 from rfl, setAddHashedIn_succ]
  refine wpAny_bind (wpAny_setState_of ho hd R.fits ?_)
  dsimp only
  refine wp_if_neg (by simp [byScan, Value.scannable]) ?_
  refine wpAny_bind (R.find hG hx hu (fun m => ?_) fun K m h1 h2 => ?_)
  · dsimp only
    exact wpAny_pure (hQ false s.heap es ep t (Heap.SameBut.refl a s.heap) (by rw [if_pos m]; exact R))
  · dsimp only
    refine wpAny_bind (wpAny_setState_of ho hd R.fits ?_)
    dsimp only
    obtain ⟨q1, q2, q3, q4, q5, _, _, _, q9⟩ := R.tab.put h1 h2
    rw [List.length_map, Array.length_toList] at q9
    generalize t.put (way t.mask ((nestedKind P w).hash k) K) = pt at q1 q3 q4 q5 q9 ⊢
    obtain ⟨t1, p⟩ := pt
    dsimp only at q1 q3 q4 q5 q9 ⊢
    subst q1
    generalize SetTable.below t.place (way t.mask ((nestedKind P w).hash k) K) = p at q2 q3 ⊢
    have e1 : (SetTable.insertAt es p ((nestedKind P w).hash k, Value.ref x)).toList = es.toList.take p ++ ((nestedKind P w).hash k, Value.ref x) :: es.toList.drop p := SetTable.toList_insertAt _ _ _
    have e2 : (SetTable.insertAt es p ((nestedKind P w).hash k, Value.ref x)).toList.map (·.1) = (es.toList.map (·.1)).take p ++ (nestedKind P w).hash k :: (es.toList.map (·.1)).drop p := by
      rw [e1, List.map_append, List.map_cons, List.map_take, List.map_drop]
    have pm : (SetTable.insertAt es p ((nestedKind P w).hash k, Value.ref x)).toList.Perm (((nestedKind P w).hash k, Value.ref x) :: es.toList) := by
      rw [e1]; exact put_perm es.toList p _
    rw [← e2] at q3
    generalize SetTable.insertAt es p ((nestedKind P w).hash k, Value.ref x) = es1 at q3 pm ⊢
    have z1 : es1.size = es.size + 1 := by
      have := pm.length_eq
      rwa [Array.length_toList, List.length_cons, Array.length_toList] at this
    have done : ∀ (t2 : SetTable), TabOk t2 (es1.toList.map (·.1)) → t2.mask = t1.mask → t2.fill = t1.fill → t2.led = t1.led → wpAny (model P w) A (storeSet a es1 t2 >>= fun _ => if (!false && t2.tooFull) = true then (setRelay a (SetTable.grown (es.size + 1)) >>= fun _ => pure true) else pure true) Q E s := fun t2 T2 em2 ef2 el2 => by
      have ld2 : w.params.followText "set-order" = true ∨ t2.led = true := by rw [el2, q5]; exact R.led
      refine wpAny_bind (wpAny_storeSet_of ho hd ?_ (by rw [z1, sizeLine_eq]; omega))
      have sb : Heap.SameBut a s.heap (s.heap.update a (Obj.putSet es1 t2)) := Heap.SameBut.update ..
      have ho1 := store_at (es' := es1) (t' := t2) ho hd
      generalize s.heap.update a (Obj.putSet es1 t2) = h1 at sb ho1 ⊢
      have el1 : ∀ e ∈ es1.toList, ∃ k' b, e = ((nestedKind P w).hash k', Value.ref b) ∧ M k' b ∧ k' ∈ ks ++ [k] := fun e he => by
        rcases List.mem_cons.mp (pm.mem_iff.mp he) with rfl | he
        · exact ⟨k, x, rfl, hx, by simp⟩
        · obtain ⟨k', b, a1, a2, a3⟩ := R.el e he
          exact ⟨k', b, a1, a2, by simp [a3]⟩
      have has1 : ∀ k' ∈ ks ++ [k], ∃ b, ((nestedKind P w).hash k', Value.ref b) ∈ es1.toList ∧ M k' b := fun k' hk' => by
        rcases List.mem_append.mp hk' with z | z
        · obtain ⟨b, a1, a2⟩ := R.has k' z
          exact ⟨b, pm.mem_iff.mpr (List.mem_cons_of_mem _ a1), a2⟩
        · obtain rfl := List.mem_singleton.mp z
          exact ⟨x, pm.mem_iff.mpr List.mem_cons_self, hx⟩
      have sz1 : es1.size = (ks ++ [k]).length := by rw [z1, sz, List.length_append]; rfl
      by_cases hf : t2.tooFull = true
      · refine wp_if_pos (by simp [hf]) (wpAny_bind ?_)
        have full : (es.size + 1) * 5 ≥ t.mask * 3 := by
          unfold SetTable.tooFull at hf
          rw [decide_eq_true_eq, ef2, q9, em2, q4] at hf
          exact hf
        have two : (t.mask = 7 ∧ es.size = 4) ∨ (t.mask = 31 ∧ es.size = 18) := by
          rcases R.tab.mok with e | e | e <;> rw [e] at full room
          · exact .inl ⟨e, by omega⟩
          · exact .inr ⟨e, by omega⟩
          · omega
        have go : ∀ M, SetTable.sizeAbove (SetTable.grown (es.size + 1)) = M + 1 → MaskOk M → (es.size + 1) * 5 < M * 3 → wpAny (model P w) A (setRelay a (SetTable.grown (es.size + 1))) (fun _ s' => wpAny (model P w) A (pure true) Q E s') E { s with heap := h1 } := fun M m1 m2 m3 => by
          refine relay_key (s := { s with heap := h1 }) (ks := ks ++ [k]) ho1 ⟨hex.1, hex.2.1, hex.2.2⟩ rfl T2 el1 has1 sz1 (by omega) ld2 (by rw [em2, q4]; omega) m1 m2 (by rw [z1]; exact m3) fun h2 es2 ep2 t3 sb2 R2 => ?_
          exact wpAny_pure (hQ true h2 es2 ep2 t3 (sb.trans sb2) (by rw [if_neg m]; exact R2))
        rcases two with ⟨_, e⟩ | ⟨_, e⟩
        · exact go 31 (by rw [e]; exact size_20) (.inr (.inl rfl)) (by omega)
        · exact go 127 (by rw [e]; exact size_76) (.inr (.inr rfl)) (by omega)
      · refine wp_if_neg (by simp [hf]) (wpAny_pure (hQ true h1 es1 (ep + 1) t2 sb ?_))
        rw [if_neg m]
        refine ⟨⟨_, ho1, ⟨hex.1, hex.2.1, hex.2.2⟩, rfl⟩, T2, el1, has1, sz1, ?_, by omega, ld2⟩
        unfold SetTable.tooFull at hf
        rw [decide_eq_true_eq, ef2, q9, em2] at hf
        rw [em2, z1]
        omega
    have both : ∀ b : Bool, wpAny (model P w) A (storeSet a es1 (if b = true then t1 else { t1 with plain := false }) >>= fun _ => if (!false && (if b = true then t1 else { t1 with plain := false }).tooFull) = true then (setRelay a (SetTable.grown (es.size + 1)) >>= fun _ => pure true) else pure true) Q E s := fun b => by
      cases b with
      | true => exact done t1 q3 rfl rfl rfl
      | false => exact done { t1 with plain := false } ⟨q3.ris, q3.dm, q3.sz, q3.mok, q3.bd, q3.reach⟩ rfl rfl rfl
    split
    · exact wpAny_bind (byv_key k _ 8 s A _ (hG _ _ hx).1 both)
    · exact wpAny_bind (wpAny_pure (both true))
theorem TSet.keep {h h' : Heap} (R : TSet P w M h a ks es ep t) (ha : ∀ o, h.get? a = some o → h'.get? a = some o) : TSet P w M h' a ks es ep t := by
  obtain ⟨o, ho, r⟩ := R.ob
  exact ⟨⟨o, ha o ho, r⟩, R.tab, R.el, R.has, R.sz, R.room, R.few, R.led⟩
end
section
variable {X : Cx}
noncomputable abbrev ckey (p : Int × Str) : NestedKey := .tup [.num p.1, .text p.2]
theorem ckey_inj {p q : Int × Str} (h : ckey p = ckey q) : p = q := by
  injection h with h
  injection h with h1 h2
  injection h2 with h2 _
  injection h1 with h1
  injection h2 with h2
  exact Prod.ext h1 h2
instance : Inhabited (Int × Str) := ⟨(0, "")⟩
noncomputable abbrev cpd (p : Int × Str) : PyData := .tuple [.int p.1, .str p.2]
theorem Inv.ckey {pins : List (Addr × Obj)} {σ : L2.St} {H : Hp} {s : Shared} {a : Addr} {p : Int × Str} (I : Inv X pins σ H s) (h : SqT X.K H a [.int p.1, .str p.2]) : (nestedKind X.prog X.w).is s.heap (ckey p) a := by
  obtain ⟨its, r, ⟨o, e, hc, n, hd⟩, _⟩ := I.tuple h
  cases r with
  | cons r1 r => cases r with
    | cons r2 r =>
      cases r
      obtain ⟨t1, rfl⟩ := r1
      obtain ⟨t2, rfl⟩ := r2
      exact ⟨.tup e hc hd (.cons (.int _ _) (.cons (.text _ _) .nil)), by simp [NestedKey.depth, NestedKey.depthAll]⟩
noncomputable def cellsN (ys : List PyData) (Q : RV → Prop) : Prop := ys.length < 64 ∧ ((∃ ks : List Str, ys = ks.map PyData.str ∧ Q (.d (.int (distN ks : Nat)))) ∨ (∃ ks : List Int, ys = ks.map PyData.int ∧ Q (.d (.int (distN ks : Nat)))) ∨ ∃ ks : List (Int × Str), ys = ks.map cpd ∧ Q (.d (.int (distN ks : Nat))))
noncomputable def wLenSetC : DCall := fun xs Q => match xs with
  | [.list ys] => cellsN ys Q
  | [.tuple ys] => cellsN ys Q
  | _ => False
end
end Dl

namespace Dl
open PySem PySem.Spec PyProof.Rows L2
/-! ### sets of things that carry their value, with what a walk through them asks -/
section
variable {P : Program} {w : World} {A : Around} {E : Value → Shared → Prop} {s : Shared} {κ : Type} [DecidableEq κ]
structure SSet (knd : PySem.KeyKind P w κ) (h : Heap) (a : Addr) (ks : List κ) (es : Array (Int × Value)) (ep : Nat) (t : SetTable) : Prop where
  ob : ∃ o, h.get? a = some o ∧ o.ExactSet ∧ o.data = .set es ep t
  el : ∀ e ∈ es.toList, ∃ k, knd.is k e.2 = true ∧ e.1 = knd.hash k ∧ e.2.scannable = true ∧ k ∈ ks
  has : ∀ k ∈ ks, ∃ e ∈ es.toList, knd.is k e.2 = true
  sz : es.size = ks.length
  fits : t.fits es.size = true
  ris : Ris t.place.toList
  led : w.params.followText "set-order" = true ∨ t.led = true
  few : es.size < scanBound
variable {knd : PySem.KeyKind P w κ} {a : Addr} {ks : List κ} {es : Array (Int × Value)} {ep : Nat} {t : SetTable}
theorem SSet.elems {h : Heap} (R : SSet knd h a ks es ep t) : ElemsOf knd es.toList := fun e he => by
  obtain ⟨k, h1, h2, h3, _⟩ := R.el e he
  exact ⟨⟨k, h1, h2⟩, h3⟩
theorem SSet.keep {h h' : Heap} (R : SSet knd h a ks es ep t) (ha : ∀ o, h.get? a = some o → h'.get? a = some o) : SSet knd h' a ks es ep t := by
  obtain ⟨o, ho, r⟩ := R.ob
  exact ⟨⟨o, ha o ho, r⟩, R.el, R.has, R.sz, R.fits, R.ris, R.led, R.few⟩
theorem SSet.put {o : Obj} (ho : s.heap.get? a = some o) (hex : o.ExactSet) (hd : o.data = .set es ep t) {es1 : Array (Int × Value)} {t1 : SetTable} (el : ∀ e ∈ es1.toList, ∃ k, knd.is k e.2 = true ∧ e.1 = knd.hash k ∧ e.2.scannable = true ∧ k ∈ ks) (has : ∀ k ∈ ks, ∃ e ∈ es1.toList, knd.is k e.2 = true)
    (sz : es1.size = ks.length) (fits : t1.fits es1.size = true) (ris : Ris t1.place.toList) (led : w.params.followText "set-order" = true ∨ t1.led = true) (few : es1.size < scanBound) : SSet knd (s.heap.update a (Obj.putSet es1 t1)) a ks es1 (ep + 1) t1 :=
  ⟨⟨_, store_at ho hd, ⟨hex.1, hex.2.1, hex.2.2⟩, rfl⟩, el, has, sz, fits, ris, led, few⟩
theorem SSet.add (R : SSet knd s.heap a ks es ep t) {x : Value} {k : κ} (hx : knd.is k x = true) (hs : x.scannable = true) (room : ks.length + 1 < scanBound) {Q : Bool → Shared → Prop}
    (hQ : ∀ b h' es' ep' t', Heap.SameBut a s.heap h' → SSet knd h' a (if k ∈ ks then ks else ks ++ [k]) es' ep' t' → Q b { s with heap := h' }) : wpAny (model P w) A (setAddHashed a x (knd.hash k)) Q E s := by
  obtain ⟨o, ho, hex, hd⟩ := R.ob
  have sz := R.sz
  unfold setAddHashed setAddHashedIn
  refine wpAny_holding (wpAny_bind (wpAny_setState_of ho hd R.fits ?_))
  dsimp only
  rw [byScan_of hs R.few R.elems]
  simp only [↓reduceIte]
  unfold setAddByScan
  refine wpAny_bind (wpAny_bind (wpAny_rule (wpAny_bind (wpAny_setScan_of hx ho hd R.fits R.elems ?_))))
  cases look : List.findIdx? (fun e => knd.is k e.2) es.toList with
  | some j =>
    obtain ⟨hj, pj, _⟩ := List.findIdx?_eq_some_iff_getElem.mp look
    obtain ⟨k', h1, _, _, h4⟩ := R.el _ (List.getElem_mem hj)
    have e : k = k' := of_decide_eq_true ((KeyKind.is_eq_decide h1 k).symm.trans pj)
    dsimp only
    exact wpAny_pure (wpAny_pure (hQ false s.heap es ep t (Heap.SameBut.refl a s.heap) (by rw [if_pos (e ▸ h4)]; exact R)))
  | none =>
    have m : k ∉ ks := fun z => by
      obtain ⟨e, he, q⟩ := R.has k z
      have c := List.findIdx?_eq_none_iff.mp look e he
      rw [q] at c
      cases c
    dsimp only
    have pm := layNew_perm t es (knd.hash k) x
    have f1 := layNew_fits t es (knd.hash k) x
    have r1 := layNew_ris t es (knd.hash k) x R.ris
    have l1 := layNew_led t es (knd.hash k) x
    generalize layNew t es (knd.hash k) x = Z at pm f1 r1 l1 ⊢
    obtain ⟨es1, t1, wasD, gave⟩ := Z
    dsimp only at pm f1 r1 l1 ⊢
    rw [Array.toList_push] at pm
    have led1 : w.params.followText "set-order" = true ∨ t1.led = true := by rw [l1]; exact R.led
    have el1 : ∀ e ∈ es1.toList, ∃ k', knd.is k' e.2 = true ∧ e.1 = knd.hash k' ∧ e.2.scannable = true ∧ k' ∈ ks ++ [k] := fun e he => by
      rcases List.mem_append.mp (pm.mem_iff.mp he) with z | z
      · obtain ⟨k', a1, a2, a3, a4⟩ := R.el e z
        exact ⟨k', a1, a2, a3, List.mem_append_left _ a4⟩
      · obtain rfl := List.mem_singleton.mp z
        exact ⟨k, hx, rfl, hs, by simp⟩
    have has1 : ∀ k' ∈ ks ++ [k], ∃ e ∈ es1.toList, knd.is k' e.2 = true := fun k' hk' => by
      rcases List.mem_append.mp hk' with z | z
      · obtain ⟨e, a1, a2⟩ := R.has k' z
        exact ⟨e, pm.mem_iff.mpr (List.mem_append_left _ a1), a2⟩
      · obtain rfl := List.mem_singleton.mp z
        exact ⟨_, pm.mem_iff.mpr (List.mem_append_right _ (List.mem_singleton.mpr rfl)), hx⟩
    have sz1 : es1.size = (ks ++ [k]).length := by
      have := pm.length_eq
      rw [Array.length_toList, List.length_append, Array.length_toList, sz] at this
      rw [this, List.length_append]
      rfl
    have few1 : es1.size < scanBound := by rw [sz1, List.length_append]; exact room
    have quiet : ∀ (b : Bool) {s₁ : Shared} {Q' : Unit → Shared → Prop}, Q' () s₁ → wpAny (model P w) A (match b with | true => rule "set.scan.the-table-gave-way" | false => pure ()) Q' E s₁ := fun b s₁ Q' q => by
      cases b
      · exact wpAny_pure q
      · exact wpAny_rule q
    have fin : ∀ (h' : Heap) (es' : Array (Int × Value)) (ep' : Nat) (t' : SetTable), Heap.SameBut a s.heap h' → SSet knd h' a (ks ++ [k]) es' ep' t' → Q true { s with heap := h' } := fun h' es' ep' t' sb S => hQ true h' es' ep' t' sb (by rw [if_neg m]; exact S)
    have tail : ∀ t2 : SetTable, t2.fits es1.size = true → Ris t2.place.toList → (w.params.followText "set-order" = true ∨ t2.led = true) → ∀ (g : Bool → Sem Unit), (∀ (b : Bool) (s₁ : Shared) (Q' : Unit → Shared → Prop), Q' () s₁ → wpAny (model P w) A (g b) Q' E s₁) →
        wpAny (model P w) A (storeSet a es1 t2 >>= fun _ => if (!wasD && t2.tooFull) = true then (g (relayAll t2 es1 (SetTable.grown es1.size)).2.2 >>= fun _ => storeSet a (relayAll t2 es1 (SetTable.grown es1.size)).1 (relayAll t2 es1 (SetTable.grown es1.size)).2.1 >>= fun _ => pure (some true)) else pure (some true))
          (fun r s' => wpAny (model P w) A (match r with | some added => pure added | none => setAddHashedIn a x (knd.hash k) 99999) Q E s') E s := fun t2 f2 r2 l2 g hg => by
      refine wpAny_bind (wpAny_storeSet_of ho hd ?_ (fits_of_scanBound few1))
      have S1 : SSet knd (s.heap.update a (Obj.putSet es1 t2)) a (ks ++ [k]) es1 (ep + 1) t2 := SSet.put ho hex hd el1 has1 sz1 f2 r2 l2 few1
      have sb1 := Heap.SameBut.update s.heap a (Obj.putSet es1 t2)
      split
      · have pm2 := relayAll_perm t2 es1 (SetTable.grown es1.size)
        have f3 := relayAll_fits t2 es1 (SetTable.grown es1.size)
        have r3 := relayAll_ris t2 es1 (SetTable.grown es1.size)
        have l3 := relayAll_led t2 es1 (SetTable.grown es1.size)
        generalize relayAll t2 es1 (SetTable.grown es1.size) = Y at pm2 f3 r3 l3 ⊢
        obtain ⟨es2, t3, gv⟩ := Y
        dsimp only at pm2 f3 r3 l3 ⊢
        have z2 : es2.size = es1.size := by
          have := pm2.length_eq
          rwa [Array.length_toList, Array.length_toList] at this
        obtain ⟨o1, ho1, hex1, hd1⟩ := S1.ob
        refine wpAny_bind (hg _ _ _ (wpAny_bind (wpAny_storeSet_of ho1 hd1 ?_ (fits_of_scanBound (by rw [z2]; exact few1)))))
        refine wpAny_pure (wpAny_pure (fin _ es2 _ t3 (sb1.trans (Heap.SameBut.update _ a _)) (SSet.put (s := { s with heap := s.heap.update a (Obj.putSet es1 t2) }) ho1 hex1 hd1 (fun e he => el1 e (pm2.mem_iff.mp he)) (fun k' hk' => ?_) (by rw [z2]; exact sz1) f3 r3 (by rw [l3]; exact l2) (by rw [z2]; exact few1))))
        obtain ⟨e, a1, a2⟩ := has1 k' hk'
        exact ⟨e, pm2.mem_iff.mpr a1, a2⟩
      · exact wpAny_pure (wpAny_pure (fin _ es1 _ t2 sb1 S1))
    refine wpAny_bind (quiet _ ?_)
    split
    · refine wpAny_bind ?_
      rw [hashByValue_scannable 8 hs]
      refine wpAny_pure ?_
      cases plainKind x
      · exact tail { t1 with plain := false } (SetTable.fits_plain_off f1) r1 led1 _ fun b s₁ Q' q => quiet b q
      · exact tail t1 f1 r1 led1 _ fun b s₁ Q' q => quiet b q
    · exact wpAny_bind (wpAny_pure (tail t1 f1 r1 led1 _ fun b s₁ Q' q => quiet b q))
end
section
variable {P : Program} {w : World} {A : Around} {E : Value → Shared → Prop} {s : Shared} {κ : Type} [DecidableEq κ] {knd : PySem.KeyKind P w κ}
variable {l : Addr} {its : Array Value} {val : Nat → κ} {Q : Value → Shared → Prop}
end
/-! ### what a set holds, in the order of its table -/
open PySem.W in
open PySem.W in
open PySem.W in
open PySem.W in
/-- the set at a holds the values us -/
noncomputable def SetVals (w : World) (h : Heap) (a : Addr) (us : List Value) : Prop := ∃ o es ep t, h.get? a = some o ∧ o.ExactSet ∧ o.data = .set es ep t ∧ t.fits es.size = true ∧ Ris t.place.toList ∧ (w.params.followText "set-order" = true ∨ t.led = true) ∧ es.size < 4000 ∧ es.toList.map (·.2) = us
section
open PySem.W
variable {P : Program} {w : World} {A : Around} {E : Value → Shared → Prop} {s : Shared} {κ : Type} [DecidableEq κ] {knd : PySem.KeyKind P w κ} {a : Addr} {es : Array (Int × Value)} {ep : Nat} {t : SetTable}
end
/-! ### the order of cells -/
section
open PySem.W
noncomputable def sortD (ds : List PyData) : List PyData := ds.mergeSort (dataLe false id)
/-- cells of one kind: texts, numbers, pairs of both -/
noncomputable def OneKind (ds : List PyData) : Prop := (∃ ks : List Str, ds = ks.map PyData.str) ∨ (∃ ks : List Int, ds = ks.map PyData.int) ∨ ∃ ks : List (Int × Str), ds = ks.map cpd
theorem OneKind.perm {ds ps : List PyData} (h : OneKind ds) (pm : ps.Perm ds) : OneKind ps := by
  have back : ∀ {α : Type} (f : α → PyData) (ks : List α), ds = ks.map f → ∃ ks' : List α, ps = ks'.map f := fun {α} f ks e => by
    have : ∀ p ∈ ps, ∃ k, p = f k := fun p hp => by
      obtain ⟨k, _, q⟩ := List.mem_map.mp (e ▸ pm.mem_iff.mp hp)
      exact ⟨k, q.symm⟩
    clear pm h
    induction ps with
    | nil => exact ⟨[], rfl⟩
    | cons p ps ih =>
      obtain ⟨k, rfl⟩ := this p List.mem_cons_self
      obtain ⟨ks', rfl⟩ := ih fun q hq => this q (List.mem_cons_of_mem _ hq)
      exact ⟨k :: ks', rfl⟩
  rcases h with ⟨ks, e⟩ | ⟨ks, e⟩ | ⟨ks, e⟩
  · exact .inl (back _ ks e)
  · exact .inr (.inl (back _ ks e))
  · exact .inr (.inr (back _ ks e))
theorem OneKind.depth {ds : List PyData} (h : OneKind ds) : ∀ d ∈ ds, d.depth ≤ 1 := fun d hd => by
  rcases h with ⟨ks, rfl⟩ | ⟨ks, rfl⟩ | ⟨ks, rfl⟩
  all_goals
    obtain ⟨k, _, rfl⟩ := List.mem_map.mp hd
    simp [PyData.depth, PyData.depthAll]
end
/-! ### sorted(set(xs)) in the layer -/
section
open PySem.W
variable {X : Cx}
noncomputable def setV (w : World) (a : Addr) (us : List Value) : HO := .ext fun h => SetVals w h a us
/-- the different ones, as they are met -/
noncomputable def metL {κ : Type} [DecidableEq κ] [Inhabited κ] (l : List κ) : List κ := metK (fun i => l.getD i default) l.length
noncomputable def DistOf (yd ds : List PyData) : Prop := (∃ ks : List Str, yd = ks.map PyData.str ∧ ds = (metL ks).map PyData.str) ∨ (∃ ks : List Int, yd = ks.map PyData.int ∧ ds = (metL ks).map PyData.int) ∨ ∃ ks : List (Int × Str), yd = ks.map cpd ∧ ds = (metL ks).map cpd
theorem DistOf.kind {yd ds : List PyData} (h : DistOf yd ds) : OneKind ds := by
  rcases h with ⟨ks, _, e⟩ | ⟨ks, _, e⟩ | ⟨ks, _, e⟩
  · exact .inl ⟨_, e⟩
  · exact .inr (.inl ⟨_, e⟩)
  · exact .inr (.inr ⟨_, e⟩)
noncomputable def wSortSet : DCall := fun xs Q => match xs with
  | [.list yd] => yd.length < 64 ∧ ∃ ds, DistOf yd ds ∧ Q (.new (sortD ds))
  | [.tuple yd] => yd.length < 64 ∧ ∃ ds, DistOf yd ds ∧ Q (.new (sortD ds))
  | _ => False
end
end Dl

namespace Dl
open PySem PySem.Spec PyProof.Rows L2
/-! ### dicts whose keys are numbers, texts, None, or pairs of a number and a text -/
noncomputable def kD : Key → PyData
  | .inl i => .int i
  | .inr x => .str x
noncomputable abbrev CK := Sum Key (Int × Str)
noncomputable def ckD : CK → PyData
  | .inl l => kD l
  | .inr k => cpd k
noncomputable def ckOk : Bool → CK → Prop
  | false, .inl _ => True
  | true, .inr _ => True
  | _, _ => False
noncomputable def Shape (P : Program) (w : World) (h : Heap) (d : Addr) (xs : List (NestedKey × Addr × Value)) : Prop :=
  ∃ o es ep, h.get? d = some o ∧ o.ExactDict ∧ o.data = .dict es ep ∧ es.toList = xs.map (entryOfKey (nestedKind P w)) ∧ (xs.map (·.1)).Nodup
noncomputable abbrev RelL : List (CK × V × V) → List (Key × Value) → Prop := Paired fun p q => p.1 = .inl q.1 ∧ p.2.1 = kV q.1 ∧ RelV p.2.2 q.2
noncomputable abbrev RelN : List (CK × V × V) → List (NestedKey × Addr × Value) → Prop := Paired fun p x => ∃ k, p.1 = .inr k ∧ x.1 = ckey k ∧ p.2.1 = .ref x.2.1 ∧ RelV p.2.2 x.2.2
noncomputable def lookV (l : List (CK × V × V)) (k : CK) : Option V := (l.find? fun p => decide (p.1 = k)).map (·.2.2)
noncomputable def putV (l : List (CK × V × V)) (k : CK) (y z : V) : List (CK × V × V) := if (lookV l k).isSome then l.map (fun p => if p.1 = k then (p.1, p.2.1, z) else p) else l ++ [(k, y, z)]
noncomputable def DORel (P : Program) (w : World) (fl : Bool) (a : Addr) (l : List (CK × V × V)) (h : Heap) : Prop := l.length ≤ sizeLine ∧ (a == sysModules) = false ∧
  ((fl = false ∧ ∃ vs, RelL l vs ∧ h.DictOf (mixKind P w) a vs) ∨ (fl = true ∧ ∃ xs, RelN l xs ∧ Shape P w h a xs))
noncomputable def dO (P : Program) (w : World) (fl : Bool) (a : Addr) (l : List (CK × V × V)) : HO := .ext (DORel P w fl a l)
theorem RelL.val {l : List (CK × V × V)} {vs : List (Key × Value)} (r : RelL l vs) (k : Key) : RelO (lookV l (.inl k)) (valueAt vs k) := by
  induction r with
  | nil => exact True.intro
  | cons h _ ih =>
    rename_i p q l vs _
    unfold lookV valueAt
    rw [List.find?_cons, List.find?_cons]
    by_cases e : q.1 = k
    · rw [show decide (p.1 = Sum.inl k) = true from decide_eq_true (by rw [h.1, e]), show decide (q.1 = k) = true from decide_eq_true e]
      exact h.2.2
    · rw [show decide (p.1 = Sum.inl k) = false from decide_eq_false (by rw [h.1]; exact fun z => e (Sum.inl.inj z)), show decide (q.1 = k) = false from decide_eq_false e]
      exact ih
theorem RelN.val {l : List (CK × V × V)} {xs : List (NestedKey × Addr × Value)} (r : RelN l xs) (k : Int × Str) : RelO (lookV l (.inr k)) ((atKey xs (ckey k)).map (·.2)) := by
  induction r with
  | nil => exact True.intro
  | cons h _ ih =>
    rename_i p q l vs _
    obtain ⟨j, h1, h2, h3, h4⟩ := h
    unfold lookV atKey
    rw [List.find?_cons, List.find?_cons]
    by_cases e : j = k
    · rw [show decide (p.1 = Sum.inr k) = true from decide_eq_true (by rw [h1, e]), show decide (q.1 = ckey k) = true from decide_eq_true (by rw [h2, e])]
      exact h4
    · rw [show decide (p.1 = Sum.inr k) = false from decide_eq_false (by rw [h1]; exact fun z => e (Sum.inr.inj z)), show decide (q.1 = ckey k) = false from decide_eq_false (by rw [h2]; exact fun z => e (ckey_inj z))]
      exact ih
theorem valueAt_any {κ : Type} [DecidableEq κ] (k : κ) : ∀ vs : List (κ × Value), (vs.any fun kv => decide (kv.1 = k)) = (valueAt vs k).isSome
  | [] => rfl
  | p :: vs => by
    unfold valueAt
    rw [List.any_cons, List.find?_cons]
    by_cases e : p.1 = k
    · rw [decide_eq_true e]; rfl
    · rw [decide_eq_false e, Bool.false_or]; exact valueAt_any k vs
theorem RelL.put {l : List (CK × V × V)} {vs : List (Key × Value)} (r : RelL l vs) (k : Key) {z : V} {u : Value} (rz : RelV z u) : RelL (putV l (.inl k) (kV k) z) (stored vs k u) := by
  unfold putV stored
  rw [valueAt_any k vs, (r.val k).isSome_eq]
  by_cases e : (valueAt vs k).isSome = true
  · rw [if_pos e, if_pos e]
    clear e
    induction r with
    | nil => exact .nil
    | cons h _ ih =>
      rename_i p q l vs _
      refine .cons ?_ ih
      dsimp only
      by_cases e : q.1 = k
      · rw [if_pos (show p.1 = Sum.inl k by rw [h.1, e]), if_pos e]
        exact ⟨h.1, h.2.1, rz⟩
      · rw [if_neg (show ¬ p.1 = Sum.inl k by rw [h.1]; exact fun z => e (Sum.inl.inj z)), if_neg e]
        exact h
  · rw [if_neg e, if_neg e]
    exact Paired.snoc r ⟨rfl, rfl, rz⟩
theorem RelN.put {l : List (CK × V × V)} {xs : List (NestedKey × Addr × Value)} (r : RelN l xs) (k : Int × Str) {b : Addr} {z : V} {u : Value} (rz : RelV z u) : RelN (putV l (.inr k) (.ref b) z) (storedH xs (ckey k) b u) := by
  unfold putV storedH
  rw [(r.val k).isSome_eq, Option.isSome_map]
  by_cases e : (atKey xs (ckey k)).isSome = true
  · rw [if_pos e, if_pos e]
    clear e
    induction r with
    | nil => exact .nil
    | cons h _ ih =>
      rename_i p q l vs _
      refine .cons ?_ ih
      obtain ⟨j, h1, h2, h3, h4⟩ := h
      unfold putAt
      dsimp only
      by_cases e : j = k
      · rw [if_pos (show p.1 = Sum.inr k by rw [h1, e]), if_pos (show q.1 = ckey k by rw [h2, e])]
        exact ⟨j, h1, h2, h3, rz⟩
      · rw [if_neg (show ¬ p.1 = Sum.inr k by rw [h1]; exact fun z => e (Sum.inr.inj z)), if_neg (show ¬ q.1 = ckey k by rw [h2]; exact fun z => e (ckey_inj z))]
        exact ⟨j, h1, h2, h3, h4⟩
  · rw [if_neg e, if_neg e]
    exact Paired.snoc r ⟨k, rfl, rfl, rfl, rz⟩
theorem Shape.of {P : Program} {w : World} {h : Heap} {d : Addr} {xs : List (NestedKey × Addr × Value)} (x : h.DictOfH (nestedKind P w) d xs) : Shape P w h d xs := by
  obtain ⟨o, es, ep, h1, h2, h3, h4, _, h5⟩ := x
  exact ⟨o, es, ep, h1, h2, h3, h4, h5⟩
section
variable {P : Program} {w : World}
end
section
variable {X : Cx} {pins : List (Addr × Obj)} {σ : L2.St} {H : Hp} {s : Shared} {a : Addr} {fl : Bool} {l : List (CK × V × V)} {A : Around} {E : Value → Shared → Prop} {k : CK} {y z : V} {u r : Value}
/-- what is known of the keys -/
noncomputable def KeysIn (K : PySem.W.Frag) (H : Hp) (l : List (CK × V × V)) : Prop := ∀ p ∈ l, Dp K H p.2.1 (ckD p.1)
end
end Dl

namespace Dl
open PySem PySem.Spec PyProof.Rows L2
/-! ### objects that are nobody's: laid, changed, taken as data -/
section
variable {K : PySem.W.Frag} {E : Ent} {M : Hp} {n : Nat} {B H : Hp} {bxs : List Addr} {σ : L2.St} {ρ : DEnv}
end
/-! ### found = {}; for at, cell in ..: found.setdefault(cell, []).append(at) -/
instance : Inhabited CK := ⟨.inl (.inl 0)⟩
noncomputable def posK (v : Nat → CK) (t : Nat) (c : CK) : List Nat := (List.range t).filter fun m => decide (v m = c)
noncomputable abbrev intsV (ms : List Nat) : List V := ms.map fun (m : Nat) => V.int (m : Int)
noncomputable abbrev intsD (ms : List Nat) : List PyData := ms.map fun (m : Nat) => PyData.int (m : Int)
section
variable {X : Cx} {o e f : Expr} {pos apos cpos : Pos} {td ty tx : TE}
end
/-- what stands while the loop runs -/
structure GrpI (P : Program) (w : World) (K : PySem.W.Frag) (fl : Bool) (p : Addr) (v : Nat → CK) (t : Nat) (bxs : List Addr) (H0 B H : Hp) (l : List (CK × V × V)) (f : CK → Addr) : Prop where
  dict : H p = some (dO P w fl p l)
  keys : l.map (·.1) = metK v t
  ents : ∀ e ∈ l, Dp K B e.2.1 (ckD e.1) ∧ e.2.2 = .ref (f e.1)
  pB : B p = none
  lists : ∀ c ∈ metK v t, f c ≠ p ∧ f c ∉ bxs ∧ B (f c) = none ∧ H0 (f c) = none ∧ H (f c) = some (.lst (intsV (posK v t c)))
  inj : ∀ c ∈ metK v t, ∀ c' ∈ metK v t, f c = f c' → c = c'
/-- a dict of lists of positions, only read from here on -/
noncomputable def dictG (P : Program) (w : World) (m : Nat) (v : Nat → CK) : OwnT where
  rel := fun K B a o => ∃ fl l, o = dO P w fl a l ∧ (∀ j < m, ckOk fl (v j)) ∧ l.map (·.1) = metK v m ∧ ∀ e ∈ l, Dp K B e.2.1 (ckD e.1) ∧ Dp K B e.2.2 (.list (intsD (posK v m e.1)))
  mono := fun s ⟨fl, l, e, ok, hk, h⟩ => ⟨fl, l, e, ok, hk, fun x hx => ⟨dpSame s _ _ (h x hx).1, dpSame s _ _ (h x hx).2⟩⟩
noncomputable def dGrp (P : Program) (w : World) (i j k : Nat) (wi : DI) (u : DS) : DS := fun D ρ n => (i < ρ.length ∧ j < ρ.length ∧ k < ρ.length) ∧ ∃ fl, wi (ρ.set i none) n fun items n1 => ∃ (m : Nat) (v : Nat → CK), items = (List.range m).map (fun t => .tuple [.int (t : Int), ckD (v t)]) ∧ (∀ t < m, ckOk fl (v t)) ∧ m < sizeLine ∧
  u D (((ρ.set i (some (.own (dictG P w m v)))).set j none).set k none) n1
end Dl

namespace Dl
open PySem PySem.Spec PyProof.Rows L2
/-! ### sorted(d), d[k] of a dict of lists -/
section
open PySem.W
section
variable {P : Program} {w : World} {A : Around} {E : Value → Shared → Prop} {s : Shared} {a d : Addr} {T : String} {n : Nat} {Pv : Nat → Value → Prop} {OK : Heap → Prop}
end
variable {X : Cx}
noncomputable def dSortO (P : Program) (w : World) (i : Nat) : DE := fun ρ n Q => ∃ v m, ρ[i]? = some (some (.own (dictG P w m v))) ∧ OneKind ((metK v m).map ckD) ∧ Q (.new (sortD ((metK v m).map ckD))) n
noncomputable def dDIx (P : Program) (w : World) (i : Nat) (we : DE) : DE := fun ρ n Q => ∃ v m, ρ[i]? = some (some (.own (dictG P w m v))) ∧ we ρ n fun r n1 => ∃ j, j < m ∧ r = .d (ckD (v j)) ∧ Q (.d (.list (intsD (posK v m (v j))))) n1
end
end Dl

namespace Dl
open PySem PySem.Spec PyProof.Rows L2
/-! ### dicts of data: cells to data, in the order of insertion -/
noncomputable abbrev AL := List (CK × PyData)
noncomputable def lookA (l : AL) (k : CK) : Option PyData := (l.find? fun p => decide (p.1 = k)).map (·.2)
noncomputable def putA (l : AL) (k : CK) (z : PyData) : AL := if (lookA l k).isSome then l.map (fun p => if p.1 = k then (p.1, z) else p) else l ++ [(k, z)]
noncomputable abbrev RelA (K : PySem.W.Frag) (B : Hp) : List (CK × V × V) → AL → Prop := Paired fun p q => p.1 = q.1 ∧ Dl.Dp K B p.2.1 (ckD p.1) ∧ Dl.Dp K B p.2.2 q.2
theorem RelA.mono {K : PySem.W.Frag} {B B' : Hp} (s : Same B B') {l : List (CK × V × V)} {al : AL} (h : RelA K B l al) : RelA K B' l al := by
  induction h with
  | nil => exact .nil
  | cons h _ ih => exact .cons ⟨h.1, dpSame s _ _ h.2.1, dpSame s _ _ h.2.2⟩ ih
theorem RelA.look {K : PySem.W.Frag} {B : Hp} {l : List (CK × V × V)} {al : AL} (h : RelA K B l al) (k : CK) : OR K B (lookV l k) (lookA al k) := by
  induction h with
  | nil => exact True.intro
  | cons h _ ih =>
    rename_i p q l al _
    unfold lookV lookA
    rw [List.find?_cons, List.find?_cons, h.1]
    by_cases e : q.1 = k
    · rw [decide_eq_true e]
      exact h.2.2
    · rw [decide_eq_false e]
      exact ih
theorem OR.isSome {K : PySem.W.Frag} {B : Hp} {v : Option V} {x : Option PyData} (h : OR K B v x) : v.isSome = x.isSome := by
  cases v <;> cases x <;> first | rfl | exact h.elim
theorem RelA.put {K : PySem.W.Frag} {B : Hp} {l : List (CK × V × V)} {al : AL} (h : RelA K B l al) (k : CK) {y z : V} {x : PyData} (hy : Dl.Dp K B y (ckD k)) (hz : Dl.Dp K B z x) : RelA K B (putV l k y z) (putA al k x) := by
  unfold putV putA
  rw [(h.look k).isSome]
  by_cases e : (lookA al k).isSome = true
  · rw [if_pos e, if_pos e]
    clear e
    induction h with
    | nil => exact .nil
    | cons h _ ih =>
      rename_i p q l al _
      refine .cons ?_ ih
      dsimp only
      rw [h.1]
      by_cases e : q.1 = k
      · rw [if_pos e, if_pos e]
        exact ⟨rfl, by rw [← h.1]; exact h.2.1, hz⟩
      · rw [if_neg e, if_neg e]
        exact h
  · rw [if_neg e, if_neg e]
    exact Paired.snoc h ⟨rfl, hy, hz⟩
theorem RelA.keysIn {K : PySem.W.Frag} {B H : Hp} {l : List (CK × V × V)} {al : AL} (h : RelA K B l al) (s : Same B H) : KeysIn K H l := by
  induction h with
  | nil => intro p hp; cases hp
  | cons h _ ih =>
    intro p hp
    rcases List.mem_cons.mp hp with e | e
    · subst e; exact dpSame s _ _ h.2.1
    · exact ih p e
/-- a dict of data -/
noncomputable def dictL (P : Program) (w : World) (fl : Bool) (al : AL) : OwnT where
  rel := fun K B a o => ∃ l, o = dO P w fl a l ∧ RelA K B l al
  mono := fun s ⟨l, e, h⟩ => ⟨l, e, h.mono s⟩
section
variable {X : Cx} {pins : List (Addr × Obj)} {σ : L2.St} {H : Hp} {s : Shared} {a : Addr} {fl : Bool} {l : List (CK × V × V)} {A : Around} {E : Value → Shared → Prop} {k : CK} {y z : V} {u r : Value}
end
section
variable {X : Cx} {o i e f value : Expr} {pos pos' apos cpos : Pos} {td ty tx tv : TE}
end
noncomputable def dLNew (P : Program) (w : World) : DE := fun _ n Q => ∃ fl, Q (.own (dictL P w fl [])) n
noncomputable def dLGet (P : Program) (w : World) (i : Nat) (wk wx : DE) : DE := fun ρ n Q => ∃ fl al, ρ[i]? = some (some (.own (dictL P w fl al))) ∧ wk ρ n fun r n1 => wx ρ n1 fun r2 n2 => ∃ k y, r = .d (ckD k) ∧ ckOk fl k ∧ r2 = .d y ∧ Q (.d ((lookA al k).getD y)) n2
noncomputable def dLIx (P : Program) (w : World) (i : Nat) (wk : DE) : DE := fun ρ n Q => ∃ fl al, ρ[i]? = some (some (.own (dictL P w fl al))) ∧ wk ρ n fun r n1 => ∃ k y, r = .d (ckD k) ∧ ckOk fl k ∧ lookA al k = some y ∧ Q (.d y) n1
noncomputable def dLPut (P : Program) (w : World) (i : Nat) (wk wv : DE) : DS := fun D ρ n => ∃ fl al, ρ[i]? = some (some (.own (dictL P w fl al))) ∧ al.length < sizeLine ∧ wv ρ n fun rv n1 => onO (dat rv) fun y => wk ρ n1 fun rk n2 => ∃ k, rk = .d (ckD k) ∧ ckOk fl k ∧ D.nx (ρ.set i (some (.own (dictL P w fl (putA al k y))))) n2
section
variable {X : Cx} {E : Ent} {x : Str} {o e f value : Expr} {pos pos' apos cpos p1 p2 : Pos} {wk wx wv : DE}
end
end Dl

namespace Dl
open PySem PySem.Spec PyProof.Rows L2
/-! ### a name's own thing is handed back -/
section
variable {X : Cx} {E : Ent} {x : Str} {p1 pos : Pos}
noncomputable def dRetOwn (i : Nat) : DS := fun D ρ n => ∃ T, ρ[i]? = some (some (.own T)) ∧ D.rt (.own T) n
end
/-! ### d.values() of a dict that was handed back -/
noncomputable def dValsO (P : Program) (w : World) (we : DE) : DI := fun ρ n Q => we ρ n fun r n1 => ∃ fl al, r = .own (dictL P w fl al) ∧ Q (al.map (·.2)) n1
/-! ### dict(pairs) -/
noncomputable def pairD (p : CK × PyData) : PyData := .tuple [ckD p.1, p.2]
noncomputable def foldA (ps : AL) : AL := ps.foldl (fun acc p => putA acc p.1 p.2) []
structure DItem where
  T : Addr
  k : CK
  kv : V
  vv : V
  ku : Value
  vu : Value
  y : PyData
structure DItem.Ok (K : PySem.W.Frag) (B : Hp) (h : Heap) (d : DItem) : Prop where
  at_ : PairAt h d.T d.ku d.vu
  rk : RelV d.kv d.ku
  rv : RelV d.vv d.vu
  dk : Dl.Dp K B d.kv (ckD d.k)
  dv : Dl.Dp K B d.vv d.y
noncomputable def wDictO (P : Program) (w : World) : DCall := fun xs Q => match xs with
  | [.list ys] => ∃ fl ps, ys = ps.map pairD ∧ (∀ q ∈ ps, ckOk fl q.1) ∧ ps.length ≤ sizeLine ∧ Q (.own (dictL P w fl (foldA ps)))
  | _ => False
end Dl

namespace Dl
open PySem PySem.Spec PyProof.Rows L2
/-! ### text.split(sep) -/
section
variable {X : Cx} {o e : Expr} {es : List Expr} {wo : DE} {wr : DA} {pos apos : Pos}
noncomputable def wSplit : DMt := fun z xs Q => match xs with
  | [.str y] => (y.length == 0) = false ∧ z.length + 2 ≤ sizeLine ∧ Q (.new ((Txt.split z y).map .str))
  | _ => False
end
/-! ### a, *b = a list -/
section
variable {prog : Program} {w : World} {A : Around} {E : Value → Shared → Prop} {s : Shared}
end
section
variable {X : Cx} {E : Ent} {e : Expr} {we : DE} {x y : Str} {px py ps pt pos : Pos} {kt : Nat}
noncomputable def dUnpStar (i j : Nat) (we : DE) : DS := fun D ρ n => we ρ n fun r n1 => onO (dat r) fun z => match z with
  | .list (x :: xs) => D.nx ((ρ.set i (some (.d x))).set j (some (.d (.list xs)))) n1
  | _ => False
end
/-! ### if A or (x := e) is None: .. ; raise that is never reached -/
section
variable {X : Cx} {E : Ent} {a b e c : Expr} {body : List Stmt} {wt : DT} {we : DE} {wb : DS} {x : Str} {p p2 p3 p4 pos : Pos} {tA : TT} {tB : TTw}
noncomputable def dIfNm (i : Nat) (wt : DT) (we : DE) (wb : DS) : DS := fun D ρ n => wt ρ n fun k n1 => if k = true then wb D ρ n1 else we ρ n1 fun r n2 => onO (dat r) fun z => if isNone z = true then wb D (ρ.set i (some (.d z))) n2 else D.nx (ρ.set i (some (.d z))) n2
noncomputable def dNever : DS := fun _ _ _ => False
end
end Dl

namespace Dl
open PySem PySem.Spec PyProof.Rows L2
/-! ### sets of numbers and texts: set(), s.add(x), x in s -/
/-- a set as a function of its members; at most m of them -/
noncomputable def setF (P : Program) (w : World) (S : Key → Bool) (m : Nat) : OwnT where
  rel := fun _ _ a o => ∃ k, o = SetK P w a S k ∧ k ≤ m
  mono := fun _ h => h
noncomputable def wSet0 (P : Program) (w : World) : DE := fun _ n Q => Q (.own (setF P w (fun _ => false) 0)) n
noncomputable def dSAdd (P : Program) (w : World) (i : Nat) (we : DE) : DS := fun D ρ n => ∃ S m, ρ[i]? = some (some (.own (setF P w S m))) ∧ m + 1 < scanBound ∧ we ρ n fun r n1 => ∃ k, r = .d (kD k) ∧ D.nx (ρ.set i (some (.own (setF P w (fun j => S j || decide (j = k)) (m + 1))))) n1
noncomputable def dSIn (P : Program) (w : World) (neg : Bool) (i : Nat) (we : DE) : DT := fun ρ n Q => ∃ S m, ρ[i]? = some (some (.own (setF P w S m))) ∧ we ρ n fun r n1 => ∃ k, r = .d (kD k) ∧ Q (if neg then !S k else S k) n1
section
variable {X : Cx} {E : Ent} {x : Str} {e : Expr} {pos apos cpos p1 p2 : Pos} {we : DE}
end
/-! ### for .. else -/
section
variable {X : Cx} {E : Ent} {tg iter : Expr} {body orelse : List Stmt} {pos : Pos} {wb wu : DS}
end
/-! ### a, b = xs.pop() -/
section
variable {X : Cx} {E : Ent} {x : Str} {tg : Expr} {pos apos cpos p1 : Pos}
noncomputable def dUnpPop (i : Nat) (wg : DG) : DS := fun D ρ n => ∃ ys y, ρ[i]? = some (some (.new (ys ++ [y]))) ∧ wg y (ρ.set i (some (.new ys))) fun ρ' => D.nx ρ' n
end
end Dl

namespace Dl
open PySem PySem.Spec PyProof.Rows L2
/-! ### a, b, c, d = e1, e2, e3, e4: a tuple is made; some of the names own their new things -/
noncomputable def dPar4o (i j l m : Nat) (o1 o2 o3 o4 : Bool) (wa wb wc wd : DE) : DS := fun D ρ n => wa ρ n fun r n1 => setO o1 r fun r' => wb ρ n1 fun r2 n2 => setO o2 r2 fun r2' => wc ρ n2 fun r3 n3 => setO o3 r3 fun r3' => wd ρ n3 fun r4 n4 => setO o4 r4 fun r4' =>
  D.nx ((((ρ.set i (some r')).set j (some r2')).set l (some r3')).set m (some r4')) n4
section
variable {X : Cx} {E : Ent} {pos : Pos} {x y z t : Str} {px py pz pt pu : Pos} {wa wb wc wd : DE} {ea eb ec ed : Expr} {kt k2 : Nat} {pt2 : Pos}
end
/-! ### a pair of data and a thing of one's own, handed back; its first item -/
noncomputable def pairT (x : PyData) : OwnT where
  rel := fun K B _ o => ∃ v y, o = .tup [v, y] ∧ Dp K B v x
  mono := fun s ⟨v, y, e, h⟩ => ⟨v, y, e, dpSame s _ _ h⟩
noncomputable def dRetPair (i : Nat) (we : DE) : DS := fun D ρ n => we ρ n fun r n1 => ∃ x T, r = .d x ∧ ρ[i]? = some (some (.own T)) ∧ D.rt (.own (pairT x)) n1
noncomputable def dFst (we : DE) : DE := fun ρ n Q => we ρ n fun r n1 => ∃ x, r = .own (pairT x) ∧ Q (.d x) n1
section
variable {X : Cx} {E : Ent} {pos p1 p2 : Pos} {x : Str} {e : Expr} {we : DE} {kt k2 : Nat}
end
/-! ### d[k], d an expression -/
noncomputable def dLIxE (P : Program) (w : World) (wd wk : DE) : DE := fun ρ n Q => wd ρ n fun rd n1 => ∃ fl al, rd = .own (dictL P w fl al) ∧ wk ρ n1 fun r n2 => ∃ k y, r = .d (ckD k) ∧ ckOk fl k ∧ lookA al k = some y ∧ Q (.d y) n2
section
variable {X : Cx} {E : Ent} {pos p1 p2 : Pos} {e f : Expr} {wd wk : DE}
end
end Dl

namespace Dl
open PySem PySem.Spec PyProof.Rows L2
/-! ### a, b = a list -/
noncomputable def gdLst (n : Nat) (u : DGs) : DG := fun x ρ Q => match x with
  | .list xs => xs.length = n ∧ u xs ρ Q
  | _ => False
section
variable {X : Cx} {pos : Pos}
end
end Dl

namespace Dl
open PySem PySem.Spec PyProof.Rows L2
/-! ### Base.__init__(self, ..), Base a class of the program over ValueError -/
section
variable {X : Cx} {o e : Expr} {es : List Expr} {te : TE} {ta : TA} {p1 p2 pos : Pos} {x : Str} {C0 : Addr} {mc : Value}
theorem pe_cinit {pl : Sem Bool} (hg : Gl X x) (hm : X.mg x = some (.ref C0)) (hr : PySem.W.readsIn X.K C0 mc = true) (hga : PySem.W.specialIn X.K (.ref C0) "__getattribute__" = some (some (.builtin "type.__getattribute__")))
    (hf : PySem.W.findCls X.K (.ref C0) mc "__init__" = some (.val (.builtin "ValueError.__init__"))) (ha : PA X (e :: es) ta)
    (hdb : (x == ("__debug__" : Str)) = false := by decide)
    (hc : eval (.Call (.Attribute (.Name x p1) "__init__" p2) (e :: es) [] pos) X.env = (do
      let ov ← eval (.Name x p1) X.env
      standAt p2.atName
      let (f, first) ← holding [ov] (getMethod ov "__init__" pl)
      callWith pos f first (backTo pos (starEach (e :: es) X.env)) (backToKw pos (keywordEach [] X.env))) := by rfl)
    (he : starEach (e :: es) X.env = (false, eval e X.env) :: starEach es X.env := by rfl) (hpl : (backTo pos (starEach es X.env)).any (·.1) = false := by rfl) :
    PE X (.Call (.Attribute (.Name x p1) "__init__" p2) (e :: es) [] pos) (tVeI X.K ta) := by
  refine ⟨fun pins s σ H Q I h => ?_⟩
  refine PySem.W.methodCall_KW (ld_glob I hg hm ?_ hdb) hc
  refine PySem.W.method_cls I.kIn hga (PySem.W.cls_value I.kIn hr hf (by decide +kernel) ?_)
  show wpAny _ _ (callWith pos (Value.builtin "ValueError.__init__") [] (backTo pos (starEach (e :: es) X.env)) []) _ _ _
  refine PyProof.Rows.callWith_method1 (thn (ha.run pos pins _ σ H _ (I.tok _) h) fun us s1 ⟨vs, H1, I1, r1, a, C, ws, ev, hl, T, ea, q⟩ => ?_) he hpl
  subst ev
  cases r1 with
  | @cons _ u0 _ ur ra rw' =>
    obtain rfl : u0 = Value.ref a := ra
    have hlen : ur.length ≤ sizeLine := by
      rw [← Paired.length rw', sizeLine_eq]
      omega
    exact oinit_ok T I1 ea hlen fun s' J => ⟨.non, H1, J, rfl, q⟩
end
end Dl

namespace Dl
open PySem PySem.Spec PyProof.Rows L2 GenW
/-! ### generators read whole (list(g)): if, for in the body -/
section
variable {X : Cx}
end
end Dl

namespace Dl
open PySem PySem.Spec PyProof.Rows L2 GenW
/-! ### a generator that nobody wakes stays as it is: the run is looked at with all sleepers struck dumb -/
noncomputable def isSus : GenState → Bool
  | .suspended .. => true
  | _ => false
/-- a sleeper that cannot be woken -/
noncomputable def dumb : GenState → GenState
  | .suspended _ l c p fs cl => .suspended (fun _ => .unsupported "") l c p fs cl
  | x => x
noncomputable def plainG : GenState → Prop
  | .suspended _ _ _ _ fs _ => splitAtGen fs = none
  | _ => True
theorem dumb_seen (x : GenState) : (dumb x).seen = x.seen := by cases x <;> rfl
structure SimG (G a b : Array GenState) : Prop where
  sz : a.size = b.size
  at_ : ∀ i : Nat, (∃ x, G[i]? = some x ∧ isSus x = true ∧ b[i]? = some x ∧ a[i]? = some (dumb x)) ∨ (a[i]? = b[i]? ∧ (∀ x, G[i]? = some x → isSus x = false) ∧ ∀ x, a[i]? = some x → plainG x)
theorem SimG.see {G a b : Array GenState} (h : SimG G a b) {g : Nat} {st : GenState} (e : a[g]? = some st) : ∃ x, b[g]? = some x ∧ x.seen = st.seen := by
  rcases h.at_ g with ⟨x, _, _, h3, h4⟩ | ⟨h1, _⟩
  · rw [e] at h4
    cases h4
    exact ⟨x, h3, (dumb_seen x).symm⟩
  · exact ⟨st, by rw [← h1]; exact e, rfl⟩
theorem SimG.set {G a b : Array GenState} (h : SimG G a b) {g : Nat} {x : GenState} (hg : ∀ x, G[g]? = some x → isSus x = false) (hx : plainG x) : SimG G (a.setIfInBounds g x) (b.setIfInBounds g x) where
  sz := by rw [Array.size_setIfInBounds, Array.size_setIfInBounds]; exact h.sz
  at_ := fun i => by
    by_cases e : g = i
    · subst e
      refine .inr ⟨?_, hg, fun y hy => ?_⟩
      · rw [Array.getElem?_setIfInBounds_self, Array.getElem?_setIfInBounds_self, h.sz]
      · rw [Array.getElem?_setIfInBounds_self] at hy
        split at hy
        · cases hy; exact hx
        · cases hy
    · rw [Array.getElem?_setIfInBounds_ne e, Array.getElem?_setIfInBounds_ne e]
      exact h.at_ i
theorem SimG.push {G a b : Array GenState} (h : SimG G a b) (hG : G.size ≤ a.size) (c : Code) : SimG G (a.push (.fresh c)) (b.push (.fresh c)) where
  sz := by rw [Array.size_push, Array.size_push, h.sz]
  at_ := fun i => by
    by_cases e : i = a.size
    · refine .inr ⟨?_, fun x hx => ?_, fun x hx => ?_⟩
      · rw [e, Array.getElem?_push_size, h.sz, Array.getElem?_push_size]
      · have := (Array.getElem?_eq_some_iff.mp hx).1
        omega
      · rw [e, Array.getElem?_push_size] at hx
        cases hx
        trivial
    · have e2 : i ≠ b.size := by rw [← h.sz]; exact e
      rw [Array.getElem?_push, Array.getElem?_push, if_neg e, if_neg e2]
      exact h.at_ i
theorem Inv.gens {X : Cx} {pins : List (Addr × Obj)} {σ : L2.St} {H : Hp} {s : Shared} (I : Inv X pins σ H s) {g : Array GenState} (hg : AllBare g) : Inv X pins σ H { s with gens := g } :=
  ⟨I.ok, I.os, hg, I.base, I.loc, I.cell, I.free, I.freeC, I.pin, I.hok, I.len⟩
end Dl

namespace Dl
open PySem PySem.Spec PyProof.Rows L2 GenW
/-! ### a run to its next stop: an end, or an item that is handed out -/
noncomputable abbrev Stop := End → Shared → Prop
noncomputable def RunE (M : Model) (A : Around) (Φ : Stop) (c : Code) (t : Sem PySem.Fin) (fs : List Frame) (s : Shared) : Prop :=
  ∀ (Γ : PySem.Ctx) (p : Pos), Γ.code = c → Γ.Woken A → ∃ e s', Runs M Γ p t fs s e s' ∧ e.quiet = true ∧ Φ e s'
section
variable {M : Model} {A : Around} {Φ : Stop} {c : Code} {fs : List Frame} {s : Shared} {K : Flow → Sem PySem.Fin} {J : Value → Sem PySem.Fin} {gd : Bool → Bool} {lv : List Value → List Value} {env : Env}
end
section
variable {P : Program} {w : World} {A : Around} {Φ : Stop} {c : Code} {fs : List Frame} {s : Shared} {K : Flow → Sem PySem.Fin} {J : Value → Sem PySem.Fin} {gd : Bool → Bool} {lv : List Value → List Value} {env : Env}
end
/-! ### waking -/
noncomputable def GoesE (M : Model) (A : Around) (Φ : Stop) (gs : GenState) (s : Shared) : Prop := match gs with
  | .fresh c => RunE M A Φ c (M.den c) [] s
  | .suspended k _ c _ fs _ => RunE M A Φ c (k (.send .none)) fs s
  | _ => False
end Dl

namespace Dl
open PySem PySem.Spec PyProof.Rows L2 GenW
/-! ### a generator's statements at data level: what is still to be handed out -/
/-- further things of one's own, that no name holds -/
noncomputable abbrev XS := List (Addr × OwnT)
/-- what a sleeping generator has -/
structure GE where
  ρ : DEnv
  xs : XS
structure ZEnds where
  nx : List PyData → XS → DEnv → Prop
  bk : List PyData → XS → DEnv → Prop := fun _ _ _ => False
  ct : List PyData → XS → DEnv → Prop := fun _ _ _ => False
noncomputable abbrev DZ := ZEnds → List PyData → XS → DEnv → Prop
structure SX (K : PySem.W.Frag) (E : Ent) (M : Hp) (n : Nat) (B H : Hp) (bxs : List Addr) (σ : L2.St) (ρ : DEnv) (xs : XS) : Prop where
  sv : SInv K E M n B H bxs σ ρ
  xo : ∀ q ∈ xs, q.1 ∉ bxs ∧ B q.1 = none ∧ E.H q.1 = none ∧ ∃ o, H q.1 = some o ∧ q.2.rel K B q.1 o
  xw : ∀ q ∈ xs, ∀ (i : Nat) (r : RV), ρ[i]? = some (some r) → isOwn r → σ[i]? ≠ some (some (.ref q.1))
  xd : xs.Pairwise fun p q => p.1 ≠ q.1
section
variable {K : PySem.W.Frag} {E : Ent} {M : Hp} {n n1 : Nat} {B H B1 H1 : Hp} {bxs : List Addr} {σ σ' : L2.St} {ρ ρ' : DEnv} {xs : XS}
theorem SX.step (h : SX K E M n B H bxs σ ρ xs) (s : Step bxs n n1 B H B1 H1) : SX K E M n1 B1 H1 bxs σ ρ xs :=
  ⟨h.sv.step s, fun q hq => by
    obtain ⟨a1, a2, a3, o, a4, a5⟩ := h.xo q hq
    exact ⟨a1, by rw [s.b3 _ (ne_none_of a4)]; exact a2, a3, o, s.h1 _ _ a1 a4, q.2.mono s.b1 a5⟩, h.xw, h.xd⟩
theorem SX.upd {vs : List Nat} (h : SX K E M n B H bxs σ ρ xs) (e : EnvR K bxs n B H σ' ρ') (u : UpdR vs σ σ' ρ ρ') : SX K E M n B H bxs σ' ρ' xs :=
  ⟨h.sv.upd e u, h.xo, fun q hq i r h1 o h2 => by
    obtain ⟨a1, a2⟩ := u.own i r h1 o
    rw [a2] at h2
    exact h.xw q hq i r a1 o h2, h.xd⟩
theorem SX.weak {M' : Hp} (h : SX K E M n B H bxs σ ρ xs) (m : Same M' M) : SX K E M' n B H bxs σ ρ xs := ⟨h.sv.weak m, h.xo, h.xw, h.xd⟩
/-- the further things stand as if they had been there before -/
noncomputable def entX (E : Ent) (xs : XS) (H : Hp) : Ent := ⟨E.B, fun a => open Classical in if ∃ q ∈ xs, q.1 = a then H a else E.H a, E.bxs, E.n⟩
theorem entX_in {q : Addr × OwnT} (h : q ∈ xs) : (entX E xs H).H q.1 = H q.1 := if_pos ⟨q, h, rfl⟩
theorem SX.old (h : SX K E M n B H bxs σ ρ xs) {a : Addr} (e : E.H a ≠ none) : (entX E xs H).H a = E.H a := if_neg fun ⟨q, hq, z⟩ => e (by rw [← z]; exact (h.xo q hq).2.2.1)
theorem SX.inner (h : SX K E M n B H bxs σ ρ xs) : SInv K (entX E xs H) B n B H bxs σ ρ := by
  have sv := h.sv
  refine ⟨⟨sv.st.b1, sv.st.b2, fun a ha => ?_, fun a o hb ha => ?_, sv.st.bx, sv.st.nn⟩, Same.refl _, sv.g, fun b hb => ?_, sv.sup, sv.env, fun i r p h1 o h2 => ?_⟩
  · by_cases c : ∃ q ∈ xs, q.1 = a
    · obtain ⟨q, hq, rfl⟩ := c
      have z := (h.xo q hq).2.1
      rw [z]
      cases e : E.B q.1 with
      | none => exact e.symm
      | some o =>
        have := sv.st.b1 _ _ e
        rw [z] at this
        cases this
    · exact sv.st.b3 a (by rw [show (entX E xs H).H a = E.H a from if_neg c] at ha; exact ha)
  · by_cases c : ∃ q ∈ xs, q.1 = a
    · rw [show (entX E xs H).H a = H a from if_pos c] at ha
      exact ha
    · rw [show (entX E xs H).H a = E.H a from if_neg c] at ha
      exact sv.st.h1 a o hb ha
  · rcases sv.bs b hb with z | z
    · exact .inl z
    · refine .inr ?_
      rw [show (entX E xs H).H b = E.H b from if_neg fun ⟨q, hq, e⟩ => (h.xo q hq).1 (by rw [e]; exact hb)]
      exact z
  · rw [show (entX E xs H).H p = E.H p from if_neg fun ⟨q, hq, e⟩ => h.xw q hq i r h1 o (by rw [e]; exact h2)]
    exact sv.ow i r p h1 o h2
theorem SX.outer {n' : Nat} {B' H' : Hp} {bxs' : List Addr} (h : SX K E M n B H bxs σ ρ xs) (g : SInv K (entX E xs H) B n' B' H' bxs' σ' ρ') : SX K E M n' B' H' bxs' σ' ρ' xs := by
  have sv := h.sv
  have nb : ∀ q ∈ xs, q.1 ∉ E.bxs := fun q hq z => (h.xo q hq).1 (sv.sup _ z)
  have hq1 : ∀ q ∈ xs, (entX E xs H).H q.1 ≠ none := fun q hq => by
    obtain ⟨o, e, _⟩ := (h.xo q hq).2.2.2
    rw [entX_in hq]
    exact ne_none_of e
  refine ⟨⟨⟨g.st.b1, g.st.b2, fun a ha => g.st.b3 a (by rw [h.old ha]; exact ha), fun a o hb ha => g.st.h1 a o hb (by rw [h.old (ne_none_of ha)]; exact ha), g.st.bx, g.st.nn⟩, sv.mb.trans g.mb, g.g, fun b hb => ?_, g.sup, g.env, fun i r p h1 o h2 => ?_⟩, fun q hq => ?_, fun q hq i r h1 o h2 => ?_, h.xd⟩
  · rcases g.bs b hb with z | z
    · exact .inl z
    · refine .inr ?_
      cases e : E.H b with
      | none => rfl
      | some u => rw [h.old (ne_none_of e), e] at z; cases z
  · have z := g.ow i r p h1 o h2
    cases e : E.H p with
    | none => rfl
    | some u => rw [h.old (ne_none_of e), e] at z; cases z
  · obtain ⟨a1, a2, a3, o, a4, a5⟩ := h.xo q hq
    refine ⟨fun z => ?_, ?_, a3, o, g.st.h1 q.1 o (nb q hq) (by rw [entX_in hq]; exact a4), q.2.mono g.mb a5⟩
    · rcases g.bs _ z with y | y
      · exact nb q hq y
      · exact hq1 q hq y
    · rw [g.st.b3 q.1 (hq1 q hq)]
      cases e : E.B q.1 with
      | none => exact e
      | some u =>
        have := sv.st.b1 _ _ e
        rw [a2] at this
        cases this
  · exact hq1 q hq (g.ow i r q.1 h1 o h2)
end
/-- what a sleeping generator may hold -/
noncomputable def gOk : DEnv → Prop
  | [] => True
  | none :: r => gOk r
  | some (.d _) :: r => gOk r
  | some (.new _) :: r => gOk r
  | some (.own _) :: r => gOk r
  | some (.bor _) :: _ => False
  | some .box :: _ => False
  | some .nbox :: _ => False
  | some (.obj _) :: _ => False
noncomputable def gSlot : RV → Prop
  | .d _ => True
  | .new _ => True
  | .own _ => True
  | _ => False
theorem gOk_slot : ∀ {ρ : DEnv} {i : Nat} {r : RV}, gOk ρ → ρ[i]? = some (some r) → gSlot r
  | none :: ρ, 0, r, _, h => by simp at h
  | some x :: ρ, 0, r, g, h => by
    have e : x = r := by simpa using h
    subst e
    cases x <;> first | trivial | exact g.elim
  | none :: ρ, i + 1, r, g, h => gOk_slot (ρ := ρ) (i := i) g (by simpa using h)
  | some x :: ρ, i + 1, r, g, h => by
    have h' : ρ[i]? = some (some r) := by simpa using h
    cases x <;> first | exact gOk_slot (ρ := ρ) (i := i) g h' | exact g.elim
/-- the addresses of its own things -/
noncomputable def OwnA (σ : L2.St) (ρ : GE) (a : Addr) : Prop := (∃ (i : Nat) (r : RV), ρ.ρ[i]? = some (some r) ∧ isOwn r ∧ σ[i]? = some (some (.ref a))) ∨ ∃ q ∈ ρ.xs, q.1 = a
open Classical in
noncomputable def entS (σ : L2.St) (ρ : GE) (B H : Hp) : Ent := ⟨B, fun a => if OwnA σ ρ a then none else H a, [], 0⟩
theorem entS_own {σ : L2.St} {ρ : GE} {B H : Hp} {a : Addr} (h : OwnA σ ρ a) : (entS σ ρ B H).H a = none := if_pos h
theorem entS_not {σ : L2.St} {ρ : GE} {B H : Hp} {a : Addr} (h : ¬ OwnA σ ρ a) : (entS σ ρ B H).H a = H a := if_neg h
structure ZInv (X : Cx) (cp its : List (Addr × Obj)) (s₀ : Shared) (H₀ : Hp) (E : Ent) (M B H : Hp) (σ : L2.St) (ρ : GE) (s : Shared) : Prop where
  inv : Inv (XR X s₀ H₀) (cp ++ its) σ H s
  sv : ∃ n bxs, SX X.K E M n B H bxs σ ρ.ρ ρ.xs
  lo : X.env.locals < s₀.heap.objs.size
  dis : ∀ p ∈ its, ∀ q ∈ cp, p.1 ≠ q.1
  hi : ∀ p ∈ its, X.env.locals ≤ p.1
/-- woken -/
noncomputable abbrev StartZ (X : Cx) (cp its : List (Addr × Obj)) (σ : L2.St) (ρ : GE) (Bs : Hp) (s : Shared) (H B : Hp) : Prop := ZInv X cp its s H (entS σ ρ B H) Bs B H σ ρ s
noncomputable def Stp (X : Cx) (A : Around) : List PyData → List (Addr × Obj) → Shared → Hp → Ent → Stop
  | [], cp, s₀, H₀, E => fun e s => ∃ r its σ ρ M B H, e = .ret r ∧ (r = .ok (.ret .none) ∨ r = .ok .next) ∧ ZInv X cp its s₀ H₀ E M B H σ ρ s
  | x :: zs, cp, s₀, H₀, E => fun e s => ∃ v gg l k c p fs, e = .susp v gg l k c p fs ∧ ∃ vx its σ ρ M B H, RelV vx v ∧ Dp X.K B vx x ∧ gOk ρ.ρ ∧ ZInv X cp its s₀ H₀ E M B H σ ρ s ∧
      ∀ s' H' B' cp', StartZ X cp' its σ ρ B s' H' B' → GoesE (model X.prog X.w) A (Stp X A zs cp' s' H' (entS σ ρ B' H')) e.genState s'
/-- asleep -/
noncomputable def Nap (X : Cx) (A : Around) (zs : List PyData) (gs : GenState) (its : List (Addr × Obj)) (σ : L2.St) (ρ : GE) (Bs : Hp) : Prop :=
  ∀ s' H' B' cp', StartZ X cp' its σ ρ Bs s' H' B' → GoesE (model X.prog X.w) A (Stp X A zs cp' s' H' (entS σ ρ B' H')) gs s'
noncomputable def ZSP (D : ZEnds) (zs : List PyData) (ρ : GE) : Flow → Prop
  | .next => D.nx zs ρ.xs ρ.ρ
  | .brk => D.bk zs ρ.xs ρ.ρ
  | .cont => D.ct zs ρ.xs ρ.ρ
  | .ret _ => False
/-- what follows -/
structure ZK (X : Cx) (A : Around) (its : List (Addr × Obj)) (M : Hp) (c : Code) (fs : List Frame) (K : Flow → Sem PySem.Fin) (D : ZEnds) : Prop where
  ok : ∀ (zs : List PyData) (cp : List (Addr × Obj)) (s₀ : Shared) (H₀ : Hp) (E : Ent) (s : Shared) (f : Flow) (B H : Hp) (σ : L2.St) (ρ : GE), ZInv X cp its s₀ H₀ E M B H σ ρ s → ZSP D zs ρ f → RunE (model X.prog X.w) A (Stp X A zs cp s₀ H₀ E) c (K f) fs s
structure LZ (X : Cx) (st : Stmt) (w : DZ) : Prop where
  run : ∀ (A : Around) (its : List (Addr × Obj)) (M : Hp) (c : Code) (fs : List Frame) (K : Flow → Sem PySem.Fin) (J : Value → Sem PySem.Fin) (gd : Bool → Bool) (lv : List Value → List Value) (D : ZEnds) (zs : List PyData) (cp : List (Addr × Obj)) (s₀ : Shared) (H₀ : Hp) (E : Ent) (s : Shared) (B H : Hp) (σ : L2.St) (ρ : GE),
    GLC X A c fs gd → ZK X A its M c fs K D → ZInv X cp its s₀ H₀ E M B H σ ρ s → w D zs ρ.xs ρ.ρ → RunE (model X.prog X.w) A (Stp X A zs cp s₀ H₀ E) c ((exec st X.env).wrap K J gd lv) fs s
structure LZs (X : Cx) (st : List Stmt) (w : DZ) : Prop where
  run : ∀ (A : Around) (its : List (Addr × Obj)) (M : Hp) (c : Code) (fs : List Frame) (K : Flow → Sem PySem.Fin) (J : Value → Sem PySem.Fin) (gd : Bool → Bool) (lv : List Value → List Value) (D : ZEnds) (zs : List PyData) (cp : List (Addr × Obj)) (s₀ : Shared) (H₀ : Hp) (E : Ent) (s : Shared) (B H : Hp) (σ : L2.St) (ρ : GE),
    GLC X A c fs gd → ZK X A its M c fs K D → ZInv X cp its s₀ H₀ E M B H σ ρ s → w D zs ρ.xs ρ.ρ → RunE (model X.prog X.w) A (Stp X A zs cp s₀ H₀ E) c ((execs st X.env).wrap K J gd lv) fs s
section
variable {X : Cx} {st : Stmt} {rest : List Stmt} {pos yp : Pos}
noncomputable def dPlainZ (w : DS) : DZ := fun D zs xs ρ => ∀ n, w { nx := fun ρ' _ => D.nx zs xs ρ', rt := fun _ _ => False, bk := fun ρ' _ => D.bk zs xs ρ', ct := fun ρ' _ => D.ct zs xs ρ' } ρ n
noncomputable def dNilZ : DZ := fun D zs xs ρ => D.nx zs xs ρ
noncomputable def dIfZ (wt : DT) (wa wb : DZ) : DZ := fun D zs xs ρ => ∀ n, wt ρ n fun b _ => if b = true then wa D zs xs ρ else wb D zs xs ρ
noncomputable def dYieldZ (we : DE) : DZ := fun D zs xs ρ => gOk ρ ∧ ∃ x zs', zs = x :: zs' ∧ (∀ n, we ρ n fun r _ => dat r = some x) ∧ D.nx zs' xs ρ
end
end Dl

namespace Dl
open PySem PySem.Spec PyProof.Rows L2 GenW
/-! ### a generator that sleeps, as its consumer keeps it -/
structure BedX (X : Cx) (A : Around) (zs : List PyData) (gs : GenState) (o : Obj) (its : List (Addr × Obj)) (σ : L2.St) (ρ : GE) (B H : Hp) : Prop where
  cells : X.env.cells = []
  ex : X.ex = []
  pn : X.pn = []
  frl : ∀ b ∈ X.fs, b < X.env.locals
  nap : Nap X A zs gs its σ ρ B
  env : EnvR X.K [] 0 B H σ ρ.ρ
  ok : gOk ρ.ρ
  xo : ∀ q ∈ ρ.xs, ∃ o, H q.1 = some o ∧ q.2.rel X.K B q.1 o
  xw : ∀ q ∈ ρ.xs, ∀ (i : Nat) (r : RV), ρ.ρ[i]? = some (some r) → isOwn r → σ[i]? ≠ some (some (.ref q.1))
  xd : ρ.xs.Pairwise fun p q => p.1 ≠ q.1
  hi : ∀ p ∈ its, X.env.locals ≤ p.1
  inv : ∃ s₁ s₀ H₀, Inv (XR X s₀ H₀) its σ H s₁ ∧ s₁.heap.get? X.env.locals = some o
theorem BedX.there {X : Cx} {A : Around} {zs : List PyData} {gs : GenState} {o : Obj} {its : List (Addr × Obj)} {σ : L2.St} {ρ : GE} {B H : Hp} (bd : BedX X A zs gs o its σ ρ B H) {b : Addr} (h : OwnA σ ρ b) : ∃ u, H b = some u := by
  rcases h with ⟨j, r, e1, e2, e3⟩ | ⟨q, hq, rfl⟩
  · obtain ⟨v, e4, e5⟩ := bd.env.val j r e1
    rw [e3] at e4
    cases e4
    cases r with
    | new xs =>
      obtain ⟨p, vs, ep, _, _, h3, _⟩ := e5
      cases ep
      exact ⟨_, h3⟩
    | own T =>
      obtain ⟨p, ob, ep, _, _, h3, _⟩ := e5
      cases ep
      exact ⟨_, h3⟩
    | d x => exact e2.elim
    | bor xs => exact e2.elim
    | box => exact e2.elim
    | obj o0 => exact e2.elim
    | nbox => exact e2.elim
  · obtain ⟨o, e, _⟩ := bd.xo q hq
    exact ⟨o, e⟩
theorem BedX.start {X : Cx} {A : Around} {zs : List PyData} {gs : GenState} {o : Obj} {its cp : List (Addr × Obj)} {σ : L2.St} {ρ : GE} {B H B' H' : Hp} {s' : Shared} (b : BedX X A zs gs o its σ ρ B H) (bare : AllBare s'.gens)
    (bs : ∀ a o, X.base.get? a = some o → s'.heap.get? a = some o ∧ H' a = none) (funs : s'.heap.FunFrames X.base X.outer) (frf : ∀ a ∈ X.fs, H' a = none) (loc : s'.heap.get? X.env.locals = some o) (free : H' X.env.locals = none)
    (pin : ∀ p ∈ its, s'.heap.get? p.1 = some p.2 ∧ H' p.1 = none) (hok : HOk X.prog X.w H' s'.heap)
    (cpk : ∀ p ∈ cp, s'.heap.get? p.1 = some p.2 ∧ H' p.1 = none ∧ p.1 ≠ X.env.locals ∧ p.1 ∉ X.fs ∧ ∀ v, p.2.data ≠ .cell v) (dis : ∀ p ∈ its, ∀ q ∈ cp, p.1 ≠ q.1)
    (sb : Same B B') (sg : Same B' H') (own : ∀ a, OwnA σ ρ a → H' a = H a ∧ B' a = none) : StartZ X cp its σ ρ B s' H' B' := by
  obtain ⟨s1, s0, H0, I, e⟩ := b.inv
  have J : Inv (XR X s' H') its σ H' s' := rebase (X := XR X s0 H0) (s' := { s' with os := s1.os }) I b.cells b.ex b.pn rfl bare bs funs frf b.frl (fun ob q => by
    have q : s1.heap.get? X.env.locals = some ob := q
    rw [e] at q
    cases q
    exact loc) free pin hok |> fun J => ⟨⟨J.ok.mod, J.ok.kind, J.ok.glob, J.ok.blt, J.ok.above, J.ok.inj, J.ok.has, J.ok.cab, J.ok.hd, J.ok.frames, J.ok.stk, J.ok.exf, J.ok.bs, J.ok.bsz, J.ok.noex, J.ok.exfs, J.ok.funs, J.ok.frf⟩, rfl, J.bare, J.base, J.loc, J.cell, J.free, J.freeC, J.pin, J.hok, J.len⟩
  refine ⟨J.pins_of fun p hp => ?_, ⟨0, [], ⟨⟨⟨Same.refl _, sg, fun _ _ => rfl, fun a u _ h => ?_, fun _ q => (by cases q), Nat.le_refl _⟩, sb, ⟨sg, fun _ q => (by cases q)⟩, fun _ q => (by cases q), fun _ q => q, ⟨b.env.len, fun i r h => ?_, b.env.own, b.env.ok⟩, fun i r p h1 h2 h3 => entS_own (.inl ⟨i, r, h1, h2, h3⟩)⟩, fun q hq => ?_, b.xw, b.xd⟩⟩, Heap.lt_size loc, dis, b.hi⟩
  · rcases List.mem_append.mp hp with z | z
    · exact cpk p z
    · exact J.pin p (List.mem_append_right _ z)
  · by_cases z : OwnA σ ρ a
    · rw [entS_own z] at h
      cases h
    · rw [entS_not z] at h
      exact h
  · obtain ⟨v, e1, e2⟩ := b.env.val i r h
    refine ⟨v, e1, ?_⟩
    have gs := gOk_slot b.ok h
    cases r with
    | d x => exact dpSame sb x v e2
    | new xs =>
      obtain ⟨p, vs, rfl, h1, h2, h3, h4⟩ := e2
      obtain ⟨o1, o2⟩ := own p (.inl ⟨i, _, h, trivial, e1⟩)
      exact ⟨p, vs, rfl, h1, o2, by rw [o1]; exact h3, dpSameAll sb xs vs h4⟩
    | own T =>
      obtain ⟨p, ob, rfl, h1, h2, h3, h4⟩ := e2
      obtain ⟨o1, o2⟩ := own p (.inl ⟨i, _, h, trivial, e1⟩)
      exact ⟨p, ob, rfl, h1, o2, by rw [o1]; exact h3, T.mono sb h4⟩
    | bor xs => exact gs.elim
    | box => exact gs.elim
    | obj o0 => exact gs.elim
    | nbox => exact gs.elim
  · obtain ⟨o, e1, e2⟩ := b.xo q hq
    obtain ⟨o1, o2⟩ := own q.1 (.inr ⟨q, hq, rfl⟩)
    exact ⟨List.not_mem_nil, o2, entS_own (.inr ⟨q, hq, rfl⟩), o, by rw [o1]; exact e1, q.2.mono sb e2⟩
/-- what a generator's turn leaves of the rest -/
structure StepO (O : Addr → Prop) (B H B1 H1 : Hp) : Prop where
  b1 : Same B B1
  b2 : Same B1 H1
  b3 : ∀ a, ¬ O a → H a ≠ none → B1 a = B a
  h1 : ∀ a o, ¬ O a → H a = some o → H1 a = some o
/-- the consumer's context, seen from the generator whose frame is m; cp: what it wants kept of the younger things -/
structure Host (Xc X : Cx) (m : Addr) (cp pins : List (Addr × Obj)) (H : Hp) (O : Addr → Prop) : Prop where
  prog : X.prog = Xc.prog
  w : X.w = Xc.w
  K : X.K = Xc.K
  base : X.base = Xc.base
  outer : X.outer = Xc.stack
  me : X.env.locals = m
  calm : Xc.calm = true
  loc : Xc.env.locals < m ∨ ∃ q ∈ cp, q.1 = Xc.env.locals
  cell : ∀ x c, Xc.env.cells.lookup x = some c → c < m
  fs : ∀ b ∈ Xc.fs, b < m
  pins : ∀ p ∈ Xc.pn ++ pins, p.1 < m ∨ ∃ q ∈ cp, q.1 = p.1
  hi : ∀ q ∈ cp, m < q.1
  ex : ∀ b, m ≤ b → (∀ q ∈ cp, q.1 ≠ b) → H b = none ∨ O b → b ∈ Xc.ex ∨ Xc.s_0.heap.objs.size ≤ b
/-- the sleeper and its consumer -/
structure Pair (Xc X : Cx) (m a g : Addr) (go : Obj) (pins : List (Addr × Obj)) (zs : List PyData) (gs : GenState) (o : Obj) (its : List (Addr × Obj)) (σ : L2.St) (ρ : GE) (Bs Hs B H : Hp) (σc : L2.St) (s : Shared) : Prop where
  bed : BedX X Xc.A.in1 zs gs o its σ ρ Bs Hs
  inv : Inv Xc (pins ++ ((m, o) :: (a, go) :: its)) σc H s
  dis : ∀ p ∈ its, p.1 ≠ a
  gen : ∀ h : Heap, h.get? a = some go → h.IsGen a g
  gs : s.gens[g]? = some gs
  sb : Same Bs B
  sg : Same B H
  own : ∀ b, OwnA σ ρ b → H b = Hs b ∧ B b = none
end Dl

namespace Dl
open PySem PySem.Spec PyProof.Rows L2 GenW
/-! ### a generator def's promise: all its items -/
noncomputable abbrev DSpY := List RV → (List PyData → Prop) → Prop
noncomputable def GMadeE (P : Program) (w : World) (K : PySem.W.Frag) (base : Heap) (k : Nat) (outer : List Env) (zs : List PyData) (B H : Hp) (s : Shared) (u : Value) (s' : Shared) : Prop :=
  ∃ (a g m : Nat) (gs : GenState) (o go : Obj) (σ : L2.St) (ρ : GE), u = .ref a ∧ (∀ h : Heap, h.get? a = some go → h.IsGen a g) ∧ s'.heap.get? a = some go ∧ (∀ v, go.data ≠ .cell v) ∧ s'.gens[g]? = some gs ∧ s'.heap.get? m = some o ∧ s.heap.objs.size ≤ m ∧ m < a ∧
    s'.os = s.os ∧ AllBare s'.gens ∧ (∀ b o, s.heap.get? b = some o → s'.heap.get? b = some o) ∧ (∀ b, ¬ OwnA σ ρ b) ∧ HOk P w H s'.heap ∧
    ∀ A : Around, Room k A → A.guards = some [] → A.frames = some outer → ∃ X : Cx, X.prog = P ∧ X.w = w ∧ X.K = K ∧ X.base = base ∧ X.outer = outer ∧ X.env.locals = m ∧ BedX X A zs gs o [] σ ρ B H
structure GFnE (P : Program) (w : World) (K : PySem.W.Frag) (mg : Str → Option Value) (base : Heap) (k : Nat) (f : Addr) (fd : FuncData) (ps : List Str) (c : DSpY) : Prop where
  len : ∀ rs Q, c rs Q → rs.length = ps.length ∧ ∀ r ∈ rs, ∃ x, r = .d x
  run : ∀ (A : Around) (outer : List Env) (s : Shared) (H : Hp) (args : Args) (us : List Value) (vs : List V) (rs : List RV) (n : Nat) (B : Hp) (bxs : List Addr) (Q : List PyData → Prop), Room k A → Env0 P w K mg base A outer s H → BindsTo s fd args (ps.zip us) → Vals vs us → Good bxs n B H → ValsR K bxs n B H rs vs → c rs Q →
    codeAny (model P w) A (.call (.ref f) args) (fun r s' => match r with | .ok (.ret u) => ∃ zs, Q zs ∧ GMadeE P w K base k outer zs B H s u s' | _ => False) s
/-- such a def, as its callers see it -/
structure DefE (P : Program) (w : World) (K : PySem.W.Frag) (mg : Str → Option Value) (base : Heap) (k : Nat) (x : Str) (ps : List Str) (c : DSpY) : Prop where
  ex : ∃ (f : Addr) (fd : FuncData), GFnE P w K mg base k f fd ps c ∧ mg x = some (.ref f) ∧ PySem.W.keepIn K (.ref f) = true ∧ Binds K fd ps []
/-- the items of a call, as of a list -/
noncomputable def dCallY (c : DSpY) (wr : DA) : DI := fun ρ n Q => wr ρ n fun rs n1 => c rs fun zs => Q zs n1
section
variable {X : Cx} {k : Nat} {ps : List Str} {c : DSpY} {x : Str} {p cpos : Pos} {e : Expr} {es : List Expr} {wr : DA}
/-- another around -/
noncomputable abbrev Cx.arnd (X : Cx) (A : Around) : Cx := { X with A := A }
theorem Inv.arnd {pins : List (Addr × Obj)} {s : Shared} {σ : L2.St} {H : Hp} {A : Around} (I : Inv X pins σ H s) (hf : A.frames = X.A.frames) (hh : A.handled = none) : Inv (Cx.arnd X A) pins σ H s :=
  ⟨⟨I.ok.mod, I.ok.kind, I.ok.glob, I.ok.blt, I.ok.above, I.ok.inj, I.ok.has, I.ok.cab, fun _ => hh, hf.trans I.ok.frames, I.ok.stk, I.ok.exf, I.ok.bs, I.ok.bsz, I.ok.noex, I.ok.exfs, I.ok.funs, I.ok.frf⟩, I.os, I.bare, I.base, I.loc, I.cell, I.free, I.freeC, I.pin, I.hok, I.len⟩
/-- an expression whose value is a generator that sleeps beside its consumer, who will wake it from A -/
structure EvE (X : Cx) (k : Nat) (it : Expr) (wi : DI) : Prop where
  run : ∀ {A : Around}, Here (k + 1) A → A.frames = X.A.frames → ∀ {pins : List (Addr × Obj)} {s : Shared} {σ : L2.St} {H B : Hp} {ρ : DEnv} {n : Nat} {bxs : List Addr} {Q : List PyData → Nat → Prop}, Inv X pins σ H s → Good bxs n B H → EnvR X.K bxs n B H σ ρ → wi ρ n Q →
    wpAny (model X.prog X.w) X.A (eval it X.env) (fun u s2 => ∃ (Xg : Cx) (m a gg : Nat) (go : Obj) (zs : List PyData) (gs : GenState) (o : Obj) (σg : L2.St) (ρg : GE) (H2 B2 : Hp) (n2 : Nat), u = .ref a ∧ Q zs n2 ∧ Step bxs n n2 B H B2 H2 ∧ (∀ b, ¬ OwnA σg ρg b) ∧
      (∀ b, m ≤ b → H2 b = none) ∧ Pair (Cx.arnd X A) Xg m a gg go pins zs gs o [] σg ρg B2 H2 B2 H2 σ s2 ∧ Host (Cx.arnd X A) Xg m [(a, go)] pins H2 (fun _ => False)) X.xe s
/-- such a def, called by names -/
structure DefEK (P : Program) (w : World) (K : PySem.W.Frag) (mg : Str → Option Value) (base : Heap) (k : Nat) (x : Str) (ps : List Str) (st : Stmt) (c : DSpY) : Prop where
  ex : ∃ (f : Addr) (fd : FuncData), GFnE P w K mg base k f fd ps c ∧ mg x = some (.ref f) ∧ Fun K x x st f fd
noncomputable def dCallYK (idx : List Nat) (c : DSpY) (wr : DA) : DI := fun ρ n Q => wr ρ n fun rs n1 => c (pick idx rs) fun zs => Q zs n1
end
end Dl

namespace Dl
open PySem PySem.Spec PyProof.Rows L2 GenW
/-! ### for over a generator -/
/-- the sleeper's own things stand apart from the consumer's -/
structure OwnF (E : Ent) (O : Addr → Prop) (B H : Hp) (bxs : List Addr) (σ : L2.St) (ρ : DEnv) : Prop where
  eh : ∀ b, O b → E.H b = none
  nb : ∀ b, O b → b ∉ bxs
  bn : ∀ b, O b → B b = none
  at_ : ∀ b, O b → ∃ u, H b = some u
  ow : ∀ b, O b → ∀ (j : Nat) (r : RV), ρ[j]? = some (some r) → isOwn r → σ[j]? ≠ some (some (.ref b))
open Classical in
section
variable {K : PySem.W.Frag} {E : Ent} {O : Addr → Prop} {M B H B1 H1 Hs : Hp} {n n1 : Nat} {bxs : List Addr} {σ : L2.St} {ρ : DEnv}
theorem BoxAt.same {H H' : Hp} {b : Addr} {n : Nat} (h : BoxAt H b n) (k : ∀ o, H b = some o → H' b = some o) : BoxAt H' b n := h.keep k
end
section
variable {X : Cx} {E : Ent} {k : Nat} {it : Expr} {wi : DI} {pos : Pos} {tg : Expr} {us : List Nat} {wg : DG} {body : List Stmt} {wb : DS}
end
end Dl

namespace Dl
open PySem PySem.Spec PyProof.Rows L2 GenW
/-! ### a list comprehension over a generator -/
/-- the sleeper's own things, seen from an expression that began at H -/
structure OwnL (O : Addr → Prop) (D : Addr) (bxs : List Addr) (H Bc Hc : Hp) : Prop where
  new : ∀ b, O b → H b = none
  nb : ∀ b, O b → b ∉ bxs
  nD : ∀ b, O b → b ≠ D
  bn : ∀ b, O b → Bc b = none
  at_ : ∀ b, O b → ∃ u, Hc b = some u
section
variable {X : Cx} {k : Nat} {it : Expr} {wi : DI} {tg : Expr} {us : List Nat} {wg : DG} {elt : Expr} {ifs : List Expr} {scope : Scope} {own : List (Str × Nat)} {tt : DT} {we : DE}
end
end Dl

namespace Dl
open PySem PySem.Spec PyProof.Rows L2 GenW
/-! ### list(g), tuple(g) -/
/-- a young thing of the consumer's -/
structure Yng (X Xg : Cx) (pins : List (Addr × Obj)) (m a S : Addr) : Prop where
  ex : S ∈ X.ex ∨ X.s_0.heap.objs.size ≤ S
  loc : S ≠ X.env.locals
  cell : ∀ x c, X.env.cells.lookup x = some c → c ≠ S
  pins : ∀ p ∈ X.pn ++ pins, p.1 ≠ S
  m : m < S
  a : a ≠ S
  fs : S ∉ Xg.fs
section
variable {X Xg : Cx} {A : Around} {k m a g S : Nat} {go : Obj} {pins : List (Addr × Obj)} {res : Value} {R : Result → Shared → Prop} {bxs : List Addr} {n n2 : Nat} {B0 H0 : Hp} {σ : L2.St} {items : List PyData}
end
/-- all items, as a list or a tuple -/
noncomputable def dListY (wi : DI) : DE := fun ρ n Q => wi ρ n fun items n1 => items.length ≤ sizeLine ∧ Q (.new items) n1
noncomputable def dTupY (wi : DI) : DE := fun ρ n Q => wi ρ n fun items n1 => items.length ≤ sizeLine ∧ Q (.d (.tuple items)) n1
section
variable {X : Cx} {k : Nat} {it : Expr} {wi : DI} {pos p1 : Pos}
end
end Dl

namespace Dl
open PySem PySem.Spec PyProof.Rows L2 GenW
/-! ### name = [.. for .. in g] on one line -/
section
variable {X : Cx} {E : Ent} {k : Nat} {it : Expr} {wi : DI} {tg : Expr} {us : List Nat} {wg : DG} {elt : Expr} {ifs : List Expr} {scope : Scope} {own : List (Str × Nat)} {tt : DT} {we : DE} {pos spos py : Pos} {y : Str}
end
end Dl

namespace Dl
open PySem PySem.Spec PyProof.Rows L2 GenW
/-! ### readings of generators, part by part -/
/-! ### x is True, x a bool -/
section
variable {X : Cx}
noncomputable def wIsB : DOp := fun x y Q => match x, y with
  | .bool a, .bool b => Q (.d (.bool (a == b)))
  | _, _ => False
end
end Dl

namespace Dl
open PySem PySem.Spec PyProof.Rows L2 GenW
/-! ### objects of the program's classes: methods and __init__ whose defs are read at data level -/
section
variable {X : Cx} {k : Nat} {C f : Addr} {fd : FuncData} {ps : List Str} {sp : Sp} {x m : Str} {p pos apos : Pos} {e o : Expr} {es : List Expr} {ta : TE} {t : TA}
/-- a field that holds data -/
noncomputable def FldOf (C : Addr) (f : Str) (T : OwnT) (x : PyData) : Prop := ∀ (K : PySem.W.Frag) (B : Hp) (a : Addr) (o : HO), T.rel K B a o → ∃ dx fs v, o = .ins C dx fs ∧ fs.lookup f = some v ∧ Dp K B v x
noncomputable def dFld (C : Addr) (f : Str) (i : Nat) : DE := fun ρ n Q => ∃ T x, ρ[i]? = some (some (.own T)) ∧ FldOf C f T x ∧ Q (.d x) n
theorem StepO.of {O : Addr → Prop} {n n1 : Nat} {B H B1 H1 : Hp} (s : Step [] n n1 B H B1 H1) : StepO O B H B1 H1 := ⟨s.b1, s.b2, fun a _ h => s.b3 a h, fun a o _ h => s.h1 a o List.not_mem_nil h⟩
theorem StepO.trans {O : Addr → Prop} {B H B1 H1 B2 H2 : Hp} (s : StepO O B H B1 H1) (t : StepO O B1 H1 B2 H2) : StepO O B H B2 H2 :=
  ⟨s.b1.trans t.b1, t.b2, fun a hn h => by
    cases e : H a with
    | none => exact absurd e h
    | some o => rw [t.b3 a hn (ne_none_of (s.h1 a o hn e)), s.b3 a hn h], fun a o hn h => t.h1 a o hn (s.h1 a o hn h)⟩
/-- an own place is written -/
theorem StepO.put {O : Addr → Prop} {B H : Hp} {a : Addr} {o : HO} (sg : Same B H) (ha : O a) (hb : B a = none) : StepO O B H B (upd H a o) :=
  ⟨Same.refl _, fun b u e => by
    rw [upd_ne (ne_of_none e hb)]
    exact sg b u e, fun _ _ _ => rfl, fun b u hn e => by
    rw [upd_ne fun z => hn (by rw [z]; exact ha)]
    exact e⟩
end
end Dl

namespace Dl
open PySem PySem.Spec PyProof.Rows L2
/-! ### a, b = a pair of data and a thing of one's own: the second name holds nothing that is read any more -/
noncomputable def dUnpPair (i j : Nat) (we : DE) : DS := fun D ρ n => we ρ n fun r n1 => ∃ x, r = .own (pairT x) ∧ D.nx ((ρ.set i (some (.d x))).set j none) n1
section
variable {X : Cx} {E : Ent} {pos : Pos} {x y : Str} {px py pu : Pos} {we : DE} {e : Expr} {kt : Nat}
end
/-! ### xs[i] += e, xs an own list -/
noncomputable def dAugIx (i : Nat) (f : Int → Int → Int) (wj we : DE) : DS := fun D ρ n => onS ρ[i]? fun xs => wj ρ n fun rj n1 => onI rj fun k => ∃ m a, ixN xs.length k = some m ∧ xs[m]? = some (.int a) ∧ we ρ n1 fun r n2 => onI r fun b => D.nx (ρ.set i (some (.new (xs.set m (.int (f a b)))))) n2
section
variable {X : Cx} {E : Ent} {pos p1 p2 : Pos} {x : Str} {wj we : DE} {ej e : Expr} {op : Operator}
end
end Dl

namespace Dl
open PySem PySem.Spec PyProof.Rows L2
/-! ### a dict of numbers with numbers, made by a comprehension: its keys stay -/
noncomputable def kvF (xs : List Int) (f : Int → Int) : List (Key × V) := xs.map fun x => (.inl x, V.int (f x))
noncomputable def dKF (xs : List Int) (f : Int → Int) : OwnT where
  rel := fun _ _ _ o => o = .dK (kvF xs f)
  mono := fun _ h => h
noncomputable def dDKnew (i j : Nat) (we : DE) : DS := fun D ρ n => j < ρ.length ∧ we ρ n fun r n1 => ∃ xs : List Int, r = .d (.tuple (xs.map .int)) ∧ xs.Nodup ∧ xs.length < 1000 ∧ D.nx (ρ.set i (some (.own (dKF xs fun _ => 0)))) n1
noncomputable def dDKaug (i : Nat) (wk we : DE) : DS := fun D ρ n => ∃ xs f, ρ[i]? = some (some (.own (dKF xs f))) ∧ xs.length < 1000 ∧ wk ρ n fun rk n1 => onI rk fun k => k ∈ xs ∧ we ρ n1 fun r n2 => onI r fun b => D.nx (ρ.set i (some (.own (dKF xs fun x => if x = k then f k + b else f x)))) n2
noncomputable def dDKix (i : Nat) (wk : DE) : DE := fun ρ n Q => ∃ xs f, ρ[i]? = some (some (.own (dKF xs f))) ∧ wk ρ n fun rk n1 => onI rk fun k => k ∈ xs ∧ Q (.d (.int (f k))) n1
noncomputable def dDKsort (i : Nat) : DE := fun ρ n Q => ∃ xs f, ρ[i]? = some (some (.own (dKF xs f))) ∧ xs.length < 64 ∧ ∀ ys : List Int, ys.Perm xs → ys.Pairwise (· ≤ ·) → Q (.new (ys.map .int)) n
section
variable {X : Cx} {E : Ent} {pos p1 p2 p3 p4 p5 : Pos} {x y : Str} {wk we : DE} {ek e iter : Expr} {scope : Scope}
end
/-! ### sorted(set(xs)) of more numbers -/
section
variable {X : Cx} {E : Ent}
noncomputable def wSortSetI : DCall := fun xs Q => match xs with
  | [.list yd] => ∃ ks : List Int, yd = ks.map PyData.int ∧ ks.length < 200 ∧ Q (.new (sortD ((metL ks).map PyData.int)))
  | [.tuple yd] => ∃ ks : List Int, yd = ks.map PyData.int ∧ ks.length < 200 ∧ Q (.new (sortD ((metL ks).map PyData.int)))
  | _ => False
end
end Dl

namespace Dl
open PySem PySem.Spec PyProof.Rows L2
/-! ### max(xs), min(xs) of a list of numbers -/
noncomputable def IsMx (m : Int) (ns : List Int) : Prop := m ∈ ns ∧ ∀ y, y ∈ ns → y ≤ m
noncomputable def IsMn (m : Int) (ns : List Int) : Prop := m ∈ ns ∧ ∀ y, y ∈ ns → m ≤ y
noncomputable def wMaxL : DCall := fun xs Q => ∃ ns : List Int, xs = [.list (ns.map .int)] ∧ 0 < ns.length ∧ ∀ m, IsMx m ns → Q (.d (.int m))
noncomputable def wMinL : DCall := fun xs Q => ∃ ns : List Int, xs = [.list (ns.map .int)] ∧ 0 < ns.length ∧ ∀ m, IsMn m ns → Q (.d (.int m))
section
variable {X : Cx}
end
end Dl

namespace Dl
open PySem PySem.Spec PyProof.Rows L2
/-! ### defs that may raise an exception of the program's own, with one field -/
structure FnX (P : Program) (w : World) (K : PySem.W.Frag) (mg : Str → Option Value) (base : Heap) (k : Nat) (f : Addr) (fd : FuncData) (ps : List Str) (sp : Sp) : Prop where
  len : ∀ vs H Q E, sp vs H Q E → vs.length = ps.length
  run : ∀ (A : Around) (outer : List Env) (s : Shared) (H : Hp) (args : Args) (us : List Value) (vs : List V) (Q : VK) (E : XK), Room k A → A.guards = some [] → Env0 P w K mg base A outer s H → BindsTo s fd args (ps.zip us) → Vals vs us → sp vs H Q E →
    codeAny (model P w) A (.call (.ref f) args) (CR (L2.CX P w) outer P w H s Q E) s
section
variable {P : Program} {w : World} {K : PySem.W.Frag} {mg : Str → Option Value} {base : Heap}
end
section
variable {X : Cx} {k : Nat} {f : Addr} {fd : FuncData} {ps : List Str} {sp : Sp} {E : L2.St → XK} {x : Str} {p pos : Pos} {e : Expr} {es : List Expr} {t : TA}
end
/-! ### the same at data level: plain data in, plain data or an exception's value out -/
noncomputable abbrev DSpX := List PyData → (PyData → Prop) → (PyData → Prop) → Prop
noncomputable def liftX (K : PySem.W.Frag) (C : Addr) (fld : Str) (c : DSpX) : Sp := fun vs H Q E => ∃ (xs : List PyData) (B : Hp) (Qd Ed : PyData → Prop), Same B H ∧ DpAll K B vs xs ∧ c xs Qd Ed ∧
  (∀ y v n B1 H1, Qd y → Step [] 0 n B H B1 H1 → Dp K B1 v y → Q v H1) ∧ (∀ y v d n B1 H1, Ed y → Step [] 0 n B H B1 H1 → Dp K B1 v y → B1 d = some (.xd [(fld, v)]) → E (.ref C) (some d) H1)
section
variable {P : Program} {w : World} {K : PySem.W.Frag} {mg : Str → Option Value} {base : Heap}
end
/-! ### the exception's own __init__, and raise C(e) -/
noncomputable def spExI (K : PySem.W.Frag) (C : Addr) (fld : Str) (ok : PyData → Prop) : Sp := fun vs H Q _ => ∃ (a : Addr) (v : V) (x : PyData) (B : Hp), vs = [.ref a, v] ∧ H a = some (exo a C none) ∧ Same B H ∧ Dp K B v x ∧ ok x ∧
  ∀ d, H d = none → d ≠ a → Q .non (upd (upd H d (exd d [(fld, v)])) a (exo a C (some d)))
/-! ### C(e, ..), C's own __init__ a def that may use repr -/
section
variable {X : Cx} {C fI : Addr} {k : Nat} {fd : FuncData} {ps : List Str} {sp : Sp}
end
/-- the class, as its users see it -/
structure ExDef (P : Program) (w : World) (K : PySem.W.Frag) (mg : Str → Option Value) (base : Heap) (k : Nat) (x : Str) (fld : Str) (ok : PyData → Prop) (C : Addr) : Prop where
  oex : OexC K C
  ex : ∃ (fI : Addr) (fdI : FuncData) (pn : Str), PySem.W.findIn K (.ref C) "__init__" = some (some (.ref fI)) ∧ PySem.W.typeIn K (.ref fI) = some (.type "function") ∧ FnG P w K mg base k fI fdI ["self", pn] (spExI K C fld ok) ∧ Binds K fdI ["self", pn] []
  mgC : mg x = some (.ref C)
  xfc : XfC K C
  nof : PySem.W.findIn K (.ref C) fld = some none
  exm : PySem.W.exmOne K (.ref C) (.ref C) = some true
noncomputable def dRaiseX (ok Ed : PyData → Prop) (we : DE) : DS := fun _ ρ n => we ρ n fun r _ => ∃ y, r = .d y ∧ ok y ∧ Ed y
/-! ### a def that may raise, as its callers see it; try: x = (c1, f(..)) except C as e: x = (c2, e.fld) -/
structure DefX (P : Program) (w : World) (K : PySem.W.Frag) (mg : Str → Option Value) (base : Heap) (k : Nat) (x : Str) (ps : List Str) (C : Addr) (fld : Str) (c : DSpX) : Prop where
  ex : ∃ (f : Addr) (fd : FuncData), FnX P w K mg base k f fd ps (liftX K C fld c) ∧ mg x = some (.ref f) ∧ PySem.W.keepIn K (.ref f) = true ∧ Binds K fd ps []
noncomputable def allD : List RV → Option (List PyData)
  | [] => some []
  | .d x :: rs => (allD rs).map (x :: ·)
  | _ => none
noncomputable def dTryX (i k : Nat) (c1 c2 : Str) (c : DSpX) (wr : DA) : DS := fun D ρ n => k < ρ.length ∧ wr ρ n fun rs n1 => ∃ xs, allD rs = some xs ∧
  c xs (fun y => D.nx (ρ.set i (some (.d (.tuple [.str c1, y])))) n1) (fun y => D.nx (((ρ.set k none).set i (some (.d (.tuple [.str c2, y])))).set k none) n1)
section
variable {X : Cx} {En : Ent} {x fn cn en : Str} {fld c1 c2 : Str} {px px2 pf pc p1 p2 p3 p4 pt pt2 ps ps2 np pos pos' : Pos} {j1 j2 kt kt2 : Nat} {e : Expr} {es : List Expr} {wr : DA}
end
end Dl

namespace Dl
open PySem PySem.Spec PyProof.Rows L2
/-! ### an exception that stays behind its handler -/
noncomputable def xobj (a : Addr) (oe : Obj) : HO := .ext fun h => h.get? a = some oe
section
variable {X : Cx} {x n : Str} {c : Value} {i : Nat} {body suite : List Stmt} {b₀ : Stmt} {np pos pos' : Pos} {tb : WX → TS} {ts : Addr → Value → Option Addr → TS}
end
end Dl

namespace Dl
open PySem PySem.Spec PyProof.Rows L2
/-! ### a kept exception as a thing of one's own -/
noncomputable def excT (C : Addr) (fld : Str) (x : PyData) : OwnT where
  rel := fun K B p o => ∃ (oe : Obj) (d : Addr) (v : V), o = xobj p oe ∧ Zc (.ref C) (some d) oe ∧ (∃ vs, oe.data = .fields vs) ∧ B d = some (.xd [(fld, v)]) ∧ Dp K B v x
  mono := fun s ⟨oe, d, v, e, h1, h2, h3, h4⟩ => ⟨oe, d, v, e, h1, h2, s d _ h3, dpSame s _ _ h4⟩
noncomputable def dTryRet (j k : Nat) (C : Addr) (fld : Str) (c : DSpX) (wr : DA) : DS := fun D ρ n => k < ρ.length ∧ wr ρ n fun rs n1 => ∃ xs, allD rs = some xs ∧
  c xs (fun y => D.rt (.d y) n1) (fun y => D.nx (((ρ.set k none).set j (some (.own (excT C fld y)))).set k none) n1)
section
variable {X : Cx} {En : Ent} {x fn cn en : Str} {fld : Str} {px pf pc p1 p2 ps ps2 np pos pos' : Pos} {e : Expr} {es : List Expr} {wr : DA}
/-! ### isinstance(x, D), x.fld -/
noncomputable def dIsX (j : Nat) (C : Addr) (b : Bool) : DE := fun ρ n Q => ∃ fld y, ρ[j]? = some (some (.own (excT C fld y))) ∧ Q (.d (.bool b)) n
theorem xobj_at {X : Cx} {pins : List (Addr × Obj)} {σ : L2.St} {H : Hp} {s : Shared} {a d C : Addr} {oe : Obj} {fs : List (Str × V)} (I : Inv X pins σ H s) (ha : H a = some (xobj a oe)) (hz : Zc (.ref C) (some d) oe) (hf : ∃ vs, oe.data = .fields vs) (hd : H d = some (.xd fs)) :
    ∃ (od : Obj) (mA : Str → Option Value), PySem.W.InstAt s.heap a oe C (some od) ∧ s.heap.get? d = some od ∧ (∀ name, PySem.W.lookIn name od = some (mA name)) ∧ ∀ f, RelO (fs.lookup f) (mA f) := by
  have e : ObjOk X.prog X.w H s.heap a (.ext fun h => h.get? a = some oe) := I.hok a _ ha
  have he := e.1
  have x : ObjOk X.prog X.w H s.heap d (.xd fs) := I.hok d _ hd
  obtain ⟨mA, hns, hr⟩ := x
  obtain ⟨od, ho, hl⟩ := lookIn_ns hns
  obtain ⟨vs, hv⟩ := hf
  exact ⟨od, mA, ⟨he, hz.1, by unfold PySem.W.notCls; rw [hv] <;> rfl, by rw [hz.2]; exact ho⟩, ho, hl, hr⟩
structure IsxC (K : PySem.W.Frag) (C : Addr) : Prop where
  hcl : PySem.W.isClsIn K C = true
  hga : PySem.W.findIn K (.ref C) "__getattribute__" = some (some (.builtin "BaseException.__getattribute__"))
  hgt : PySem.W.findIn K (.ref C) "__getattr__" = some none
  hsub : PySem.W.subIn K (.ref C) (.type "BaseException") = some true
  ha : PySem.W.findIn K (.ref C) "__class__" = some (some (.builtin "object.__class__"))
  hn : PySem.W.specialIn K (.builtin "object.__class__") "__get__" = some (some (.builtin "getset_descriptor.__get__"))
  htk : PySem.W.takesIn K (.builtin "object.__class__") = some true
  hm : PySem.W.mroIn K C (.type "object") = some true
section
variable {X : Cx} {x nm fld : Str} {p p1 p2 pos : Pos} {C : Addr}
/-- x.fld -/
noncomputable def dXFld (j : Nat) (C : Addr) (fld : Str) : DE := fun ρ n Q => ∃ y, ρ[j]? = some (some (.own (excT C fld y))) ∧ Q (.d y) n
end
end
end Dl

namespace Dl
open PySem PySem.Spec PyProof.Rows L2
/-! ### f'{x!r}', x any plain data -/
noncomputable def tFmtD (K : PySem.W.Frag) (te : TE) : TE := fun σ H Q => te σ H fun v H1 => ∃ x, Dp K H1 v x ∧ ReprOk x ∧ Q (.str x.shown) H1
section
variable {X : Cx}
theorem repr_any (hm : Sm X.base) (hg : X.A.guards = some []) (hu : X.A.units + 65 < cLine) {pins : List (Addr × Obj)} {σ : L2.St} {H : Hp} {s : Shared} {v : V} {u : Value} {x : PyData} {Q : Value → Shared → Prop} (I : Inv X pins σ H s) (hd : Dp X.K H v x) (rv : RelV v u) (ok : ReprOk x)
    (q : ∀ (t : Tok) (tk : Nat) (h' : Heap), (∀ b o, s.heap.get? b = some o → h'.get? b = some o) → Q (.str x.shown t) { s with heap := h', toks := tk }) : wpAny (model X.prog X.w) X.A (pyReprObj u) Q X.xe s := by
  obtain ⟨h1, h2, h3⟩ := ok
  obtain ⟨as, hr, hno⟩ := Dp.rd I hm hd rv
  cases x with
  | none =>
    cases hd
    obtain rfl : u = Value.none := rv
    exact pyReprObj_none (q _ _ s.heap fun _ _ e => e)
  | bool b =>
    cases hd
    obtain rfl : u = Value.bool b := rv
    exact pyReprObj_bool (q _ _ s.heap fun _ _ e => e)
  | int i =>
    cases hd
    obtain ⟨t, rfl⟩ := rv
    exact pyReprObj_int (by simpa [PyData.showable] using h1) (q _ _ s.heap fun _ _ e => e)
  | str z =>
    cases hd
    obtain ⟨t, rfl⟩ := rv
    exact pyReprObj_str (q _ _ s.heap fun _ _ e => e) h2
  | list ys =>
    cases hd with
    | lst g1 g2 =>
      obtain rfl : u = Value.ref _ := rv
      exact pyReprObj_of_reads hr h1 (fun _ => hno) hg (by omega) (fun _ _ e => e) (fun h' u tk hk => q u tk h' hk) h2
  | tuple ys =>
    cases hd with
    | tup g1 g2 =>
      obtain rfl : u = Value.ref _ := rv
      exact pyReprObj_of_reads hr h1 (fun _ => hno) hg (by omega) (fun _ _ e => e) (fun h' u tk hk => q u tk h' hk) h2
  | dict kvs =>
    cases hd with
    | dic g1 g2 g3 =>
      obtain rfl : u = Value.ref _ := rv
      exact pyReprObj_of_reads hr h1 (fun _ => hno) hg (by omega) (fun _ _ e => e) (fun h' u tk hk => q u tk h' hk) h2
theorem pe_fmtD {e : Expr} {te : TE} {pos : Pos} (hm : Sm X.base) (hg : X.A.guards = some []) (hu : X.A.units + 65 < cLine) (he : PE X e te) : PE X (.FormattedValue e 114 none pos) (tFmtD X.K te) := by
  refine ⟨fun pins s σ H Q I h => ?_⟩
  refine wpAny_FormattedValue_repr (thn (he.run pins s σ H _ I h) fun u s1 hv => ?_)
  obtain ⟨v, H1, I1, r1, x, hd, ok, q⟩ := hv
  refine repr_any hm hg hu I1 hd r1 ok fun t tk h' hk => ?_
  have J : ∀ tk', Inv X pins σ H1 { s1 with heap := h', toks := tk' } := fun tk' => I1.kept (t' := tk') hk
  exact wpAny_formatField_str ⟨.str x.shown, H1, J _, ⟨_, rfl⟩, q⟩ ⟨.str x.shown, H1, J _, ⟨_, rfl⟩, q⟩ ok.2.1
end
/-! ### the __init__ of an exception with a value of any kind: Base.__init__(self, f'{value!r} ..'); self.value = value -/
noncomputable def okV (x : PyData) : Prop := x.showable = true ∧ x.shown.length ≤ 60000 ∧ x.depth ≤ 60
theorem okV.repr {x : PyData} (h : okV x) : ReprOk x := ⟨h.1, Nat.le_trans h.2.1 (by rw [sizeLine_eq]; decide), h.2.2⟩
end Dl

namespace Dl
open PySem PySem.Spec PyProof.Rows L2
/-! ### comprehensions with two for clauses -/
theorem del_upd2 {H : Hp} {D : Addr} {x : HO} : L2.del (L2.upd H D x) D = L2.del H D := by
  funext c
  by_cases q : c = D
  · rw [q, del_same, del_same]
  · rw [del_ne q, upd_ne q, del_ne q]
theorem del_none {H : Hp} {D c : Addr} (h : H c = none) : L2.del H D c = none := by
  by_cases q : c = D
  · rw [q, del_same]
  · rw [del_ne q, h]
theorem of_del {H : Hp} {D c : Addr} {o : HO} (h : L2.del H D c = some o) : c ≠ D ∧ H c = some o := by
  by_cases q : c = D
  · rw [q, del_same] at h
    cases h
  · rw [del_ne q] at h
    exact ⟨q, h⟩
theorem same_del {B H : Hp} {D : Addr} (s : Same B H) (h : B D = none) : Same B (L2.del H D) := fun c o e => by
  rw [del_ne (fun q => by rw [q, h] at e; cases e)]
  exact s c o e
theorem Step.del {bxs : List Addr} {n n' : Nat} {B H B' H' : Hp} {D : Addr} (s : Step bxs n n' B H B' H') (nD : D ∉ bxs) (bD : B' D = none) : Step bxs n n' B (L2.del H D) B' (L2.del H' D) where
  b1 := s.b1
  b2 := same_del s.b2 bD
  b3 := fun a h => s.b3 a fun z => h (del_none z)
  h1 := fun a o ha h => by
    obtain ⟨q, h⟩ := of_del h
    rw [del_ne q]
    exact s.h1 a o ha h
  bx := fun b hb => (s.bx b hb).keep fun o h => by
    rw [del_ne fun q => nD (by rw [← q]; exact hb)]
    exact h
  nn := s.nn
theorem EnvR.del {K : PySem.W.Frag} {bxs : List Addr} {n : Nat} {B H : Hp} {σ : L2.St} {ρ : DEnv} {D : Addr} (e : EnvR K bxs n B H σ ρ) (ho : ∀ (i : Nat) (r : RV), ρ[i]? = some (some r) → isOwn r → σ[i]? ≠ some (some (.ref D))) : EnvR K bxs n B (L2.del H D) σ ρ :=
  ⟨e.len, fun i r hr => by
    obtain ⟨u, e2, e3⟩ := e.val i r hr
    refine ⟨u, e2, ?_⟩
    cases r with
    | d x => exact e3
    | box => exact e3
    | bor ys => exact (e.ok i _ hr).elim
    | new ys =>
      obtain ⟨q, us, rfl, c1, c2, c3, c4⟩ := e3
      exact ⟨q, us, rfl, c1, c2, by rw [del_ne (show q ≠ D from fun z => ho i _ hr trivial (z ▸ e2))]; exact c3, c4⟩
    | obj o0 => exact e3
    | nbox => exact (e.ok i _ hr).elim
    | own T =>
      obtain ⟨q, us, rfl, c1, c2, c3, c4⟩ := e3
      exact ⟨q, us, rfl, c1, c2, by rw [del_ne (show q ≠ D from fun z => ho i _ hr trivial (z ▸ e2))]; exact c3, c4⟩, e.own, e.ok⟩
theorem EnvR.undel {K : PySem.W.Frag} {bxs : List Addr} {n : Nat} {B H : Hp} {σ : L2.St} {ρ : DEnv} {D : Addr} (e : EnvR K bxs n B (L2.del H D) σ ρ) : EnvR K bxs n B H σ ρ :=
  ⟨e.len, fun i r hr => by
    obtain ⟨u, e2, e3⟩ := e.val i r hr
    refine ⟨u, e2, ?_⟩
    cases r with
    | d x => exact e3
    | box => exact e3
    | bor ys => exact (e.ok i _ hr).elim
    | new ys =>
      obtain ⟨q, us, rfl, c1, c2, c3, c4⟩ := e3
      exact ⟨q, us, rfl, c1, c2, (of_del c3).2, c4⟩
    | obj o0 => exact e3
    | nbox =>
      obtain ⟨q, rfl, c1, c2, c3⟩ := e3
      exact ⟨q, rfl, c1, c2, c3.keep fun o h => (of_del h).2⟩
    | own T =>
      obtain ⟨q, us, rfl, c1, c2, c3, c4⟩ := e3
      exact ⟨q, us, rfl, c1, c2, (of_del c3).2, c4⟩, e.own, e.ok⟩
/-- the list under way at D -/
structure LSt (K : PySem.W.Frag) (bxs : List Addr) (n : Nat) (B H B1 : Hp) (D : Addr) (acc : List PyData) (nc : Nat) (Bc Hc : Hp) (av : List V) : Prop where
  st : Step bxs n nc B H Bc (L2.del Hc D)
  sb : Same B1 Bc
  bD : Bc D = none
  hD : Hc D = some (.lst av)
  da : DpAll K Bc av acc
section
variable {K : PySem.W.Frag} {bxs : List Addr} {n nc n2 : Nat} {B H B1 Bc Hc B2 H2 : Hp} {D : Addr} {acc : List PyData} {av : List V} {σ : L2.St} {ρ : DEnv}
theorem LSt.step (L : LSt K bxs n B H B1 D acc nc Bc Hc av) (nD : D ∉ bxs) (s : Step bxs nc n2 Bc Hc B2 H2) : LSt K bxs n B H B1 D acc n2 B2 H2 av := by
  have b2 : B2 D = none := by rw [s.b3 D (ne_none_of L.hD)]; exact L.bD
  exact ⟨L.st.trans (s.del nD b2), L.sb.trans s.b1, b2, s.h1 D _ nD L.hD, dpSameAll s.b1 _ _ L.da⟩
theorem LSt.env (L : LSt K bxs n B H B1 D acc nc Bc Hc av) (e : EnvR K bxs n B H σ ρ) : EnvR K bxs nc Bc Hc σ ρ := (e.step L.st).undel
theorem LSt.whole (L : LSt K bxs n B H B1 D acc nc Bc Hc av) : Step bxs n nc B H Bc Hc where
  b1 := L.st.b1
  b2 := fun c o h => (of_del (L.st.b2 c o h)).2
  b3 := L.st.b3
  h1 := fun a o ha h => (of_del (L.st.h1 a o ha h)).2
  bx := fun b hb => (L.st.bx b hb).keep fun o h => (of_del h).2
  nn := L.st.nn
end
section
variable {X : Cx} {elt tg iter tg1 iter1 : Expr} {ifs ifs1 : List Expr} {scope : Scope} {own : List (Str × Nat)} {us us1 vs1 : List Nat} {pos : Pos} {wi wi1 : DI} {wg wg1 : DG} {tt tt1 : DT} {we : DE}
end
end Dl

namespace Dl
open PySem PySem.Spec PyProof.Rows L2
/-! ### zip taken by one name: the tuple handed out may still be held -/
section
variable {prog : Program} {w : World} {A : Around} {E : Value → Shared → Prop} {s : Shared} {z TI TO T i1 i2 : Addr} {fp1 fp2 : List Addr} {n1 n2 i : Nat} {P1 P2 : Nat → Value → Prop} {St1 St2 : Nat → Heap → Prop} {f : Bool} {a1 a2 : Value}
end
/-! ### as an iterator of HandS -/
/-- zip(x, y) taken by one name -/
noncomputable def dZipX (w : DA) : DI := fun ρ n Q => w ρ n fun rs n1 => match rs with
  | [.d (.list xs), .d (.list ys)] => Q (zipD xs ys) n1
  | [.d (.tuple xs), .d (.tuple ys)] => Q (zipD xs ys) n1
  | [.d (.list xs), .d (.tuple ys)] => Q (zipD xs ys) n1
  | [.d (.tuple xs), .d (.list ys)] => Q (zipD xs ys) n1
  | _ => False
end Dl

namespace Dl
open PySem PySem.Spec PyProof.Rows L2
/-! ### defs that may raise exceptions of several classes -/
noncomputable abbrev XCs := List (Addr × Str)
noncomputable def xC (Cs : XCs) (i : Nat) : Addr := (Cs.getD i (0, Str.empty)).1
noncomputable def xF (Cs : XCs) (i : Nat) : Str := (Cs.getD i (0, Str.empty)).2
noncomputable abbrev DSpW := List PyData → (PyData → Prop) → (Nat → PyData → Prop) → Prop
noncomputable def liftY (K : PySem.W.Frag) (Cs : XCs) (c : DSpW) : Sp := fun vs H Q E => ∃ (xs : List PyData) (B : Hp) (Qd : PyData → Prop) (Ed : Nat → PyData → Prop), Same B H ∧ DpAll K B vs xs ∧ c xs Qd Ed ∧
  (∀ y v n B1 H1, Qd y → Step [] 0 n B H B1 H1 → Dp K B1 v y → Q v H1) ∧ (∀ i y v d n B1 H1, i < Cs.length → Ed i y → Step [] 0 n B H B1 H1 → Dp K B1 v y → B1 d = some (.xd [(xF Cs i, v)]) → E (.ref (xC Cs i)) (some d) H1)
structure DefY (P : Program) (w : World) (K : PySem.W.Frag) (mg : Str → Option Value) (base : Heap) (k : Nat) (x : Str) (ps : List Str) (Cs : XCs) (c : DSpW) : Prop where
  ex : ∃ (f : Addr) (fd : FuncData), FnX P w K mg base k f fd ps (liftY K Cs c) ∧ mg x = some (.ref f) ∧ PySem.W.keepIn K (.ref f) = true ∧ Binds K fd ps []
section
variable {P : Program} {w : World} {K : PySem.W.Frag} {mg : Str → Option Value} {base : Heap}
end
/-! ### a kept exception of one of several classes -/
noncomputable def xTs (Cs : XCs) (i : Nat) (y : PyData) : OwnT := excT (xC Cs i) (xF Cs i) y
noncomputable def ExmAll (K : PySem.W.Frag) (CB : Addr) : XCs → Prop
  | [] => True
  | C :: Cs => PySem.W.exmOne K (.ref C.1) (.ref CB) = some true ∧ ExmAll K CB Cs
theorem ExmAll.nil {K : PySem.W.Frag} {CB : Addr} : ExmAll K CB [] := trivial
theorem ExmAll.cons {K : PySem.W.Frag} {CB C : Addr} {fld : Str} {Cs : XCs} (h1 : PySem.W.exmOne K (.ref C) (.ref CB) = some true) (h2 : ExmAll K CB Cs) : ExmAll K CB ((C, fld) :: Cs) := ⟨h1, h2⟩
theorem ExmAll.get {K : PySem.W.Frag} {CB : Addr} : ∀ {Cs : XCs} (i : Nat), ExmAll K CB Cs → i < Cs.length → PySem.W.exmOne K (.ref (xC Cs i)) (.ref CB) = some true
  | _ :: _, 0, h, _ => h.1
  | _ :: Cs, i + 1, h, hi => ExmAll.get (Cs := Cs) i h.2 (Nat.lt_of_succ_lt_succ hi)
noncomputable def KitAll (K : PySem.W.Frag) (cv : Value) : XCs → List Bool → Prop
  | [], [] => True
  | C :: Cs, b :: bs => IsxC K C.1 ∧ PySem.W.kitOne K (.ref C.1) cv = some b ∧ KitAll K cv Cs bs
  | _, _ => False
theorem KitAll.nil {K : PySem.W.Frag} {cv : Value} : KitAll K cv [] [] := trivial
theorem KitAll.cons {K : PySem.W.Frag} {cv : Value} {C : Addr} {fld : Str} {b : Bool} {Cs : XCs} {bs : List Bool} (h : IsxC K C) (h1 : PySem.W.kitOne K (.ref C) cv = some b) (h2 : KitAll K cv Cs bs) : KitAll K cv ((C, fld) :: Cs) (b :: bs) := ⟨h, h1, h2⟩
theorem KitAll.get {K : PySem.W.Frag} {cv : Value} : ∀ {Cs : XCs} {bs : List Bool} (i : Nat), KitAll K cv Cs bs → i < Cs.length → IsxC K (xC Cs i) ∧ PySem.W.kitOne K (.ref (xC Cs i)) cv = some (bs.getD i false)
  | _ :: _, _ :: _, 0, h, _ => ⟨h.1, h.2.1⟩
  | _ :: Cs, _ :: bs, i + 1, h, hi => KitAll.get (Cs := Cs) (bs := bs) i h.2.2 (Nat.lt_of_succ_lt_succ hi)
  | _ :: _, [], _, h, _ => h.elim
  | [], _, _, _, hi => absurd hi (Nat.not_lt_zero _)
noncomputable def FldAll (K : PySem.W.Frag) (fld : Str) : XCs → Prop
  | [] => True
  | C :: Cs => XfC K C.1 ∧ PySem.W.findIn K (.ref C.1) fld = some none ∧ FldAll K fld Cs
theorem FldAll.nil {K : PySem.W.Frag} {fld : Str} : FldAll K fld [] := trivial
theorem FldAll.cons {K : PySem.W.Frag} {C : Addr} {fld f2 : Str} {Cs : XCs} (h : XfC K C) (h1 : PySem.W.findIn K (.ref C) fld = some none) (h2 : FldAll K fld Cs) : FldAll K fld ((C, f2) :: Cs) := ⟨h, h1, h2⟩
theorem FldAll.get {K : PySem.W.Frag} {fld : Str} : ∀ {Cs : XCs} (i : Nat), FldAll K fld Cs → i < Cs.length → XfC K (xC Cs i) ∧ PySem.W.findIn K (.ref (xC Cs i)) fld = some none
  | _ :: _, 0, h, _ => ⟨h.1, h.2.1⟩
  | _ :: Cs, i + 1, h, hi => FldAll.get (Cs := Cs) i h.2.2 (Nat.lt_of_succ_lt_succ hi)
noncomputable def dTryRetY (j k : Nat) (Cs : XCs) (c : DSpW) (wr : DA) : DS := fun D ρ n => k < ρ.length ∧ wr ρ n fun rs n1 => ∃ xs, allD rs = some xs ∧
  c xs (fun y => D.rt (.d y) n1) (fun i y => D.nx (((ρ.set k none).set j (some (.own (xTs Cs i y)))).set k none) n1)
section
variable {X : Cx} {En : Ent} {x fn cn en : Str} {fld : Str} {px pf pc p1 p2 ps ps2 np pos pos' : Pos} {e : Expr} {es : List Expr} {wr : DA}
end
/-! ### isinstance(x, D), x.fld -/
noncomputable def dIsY (j : Nat) (Cs : XCs) (bs : List Bool) : DE := fun ρ n Q => ∃ i y, i < Cs.length ∧ ρ[j]? = some (some (.own (xTs Cs i y))) ∧ Q (.d (.bool (bs.getD i false))) n
noncomputable def dYFld (j : Nat) (Cs : XCs) (fld : Str) : DE := fun ρ n Q => ∃ i y, i < Cs.length ∧ xF Cs i = fld ∧ ρ[j]? = some (some (.own (xTs Cs i y))) ∧ Q (.d y) n
section
variable {X : Cx} {x nm fld : Str} {p p1 p2 pos : Pos} {Cs : XCs}
end
/-! ### comprehensions with two fors, at data level -/
end Dl

namespace Dl
open PySem PySem.Spec PyProof.Rows L2
/-! ### max(t), min(t) of a tuple of numbers -/
section
variable {X : Cx}
noncomputable def wMaxT : DCall := fun xs Q => ∃ ns : List Int, xs = [.tuple (ns.map .int)] ∧ 0 < ns.length ∧ ∀ m, IsMx m ns → Q (.d (.int m))
noncomputable def wMinT : DCall := fun xs Q => ∃ ns : List Int, xs = [.tuple (ns.map .int)] ∧ 0 < ns.length ∧ ∀ m, IsMn m ns → Q (.d (.int m))
end
end Dl

namespace Dl
open PySem PySem.Spec PyProof.Rows L2
/-! ### which class an exception is of, from what the fragment answers -/
theorem kit_of {K : PySem.W.Frag} {C D : Addr} {b : Bool} (h2 : PySem.W.isClsIn K D = true) (h3 : PySem.W.typeIn K (.ref D) = some (.type "type")) (h4 : PySem.W.subIn K (.ref C) (.ref D) = some b) (h5 : PySem.W.subIn K (.ref C) (.ref C) = some true) :
    PySem.W.kitOne K (.ref C) (.ref D) = some b := by
  have e2 : ((PySem.W.clsIn K D).isSome && PySem.W.typeIn K (.ref D) == some (.type "type")) = true := by
    have h2' : (PySem.W.clsIn K D).isSome = true := h2
    rw [h2', h3] <;> rfl
  unfold PySem.W.kitOne
  by_cases q : (Value.ref C == Value.ref D) = true
  · have e : C = D := by
      have e := eq_of_beq q
      cases e
      rfl
    subst e
    rw [h5] at h4
    cases h4
    rw [if_pos q]
  · rw [if_neg q]
    show (if ((PySem.W.clsIn K D).isSome && PySem.W.typeIn K (.ref D) == some (.type "type")) = true then PySem.W.subIn K (.ref C) (.ref D) else none) = some b
    rw [if_pos e2]
    exact h4
theorem kit_ty {K : PySem.W.Frag} {C : Addr} {T : String} {b : Bool} (h0 : PySem.W.kitMeta T = true) (h4 : PySem.W.subIn K (.ref C) (.type T) = some b) : PySem.W.kitOne K (.ref C) (.type T) = some b := by
  have q : ¬ (Value.ref C == Value.type T) = true := by
    intro q
    cases eq_of_beq q
  unfold PySem.W.kitOne
  rw [if_neg q]
  show (if PySem.W.kitMeta T = true then PySem.W.subIn K (.ref C) (.type T) else none) = some b
  rw [if_pos h0]
  exact h4
end Dl

namespace Dl
open PySem PySem.Spec PyProof.Rows L2
/-! ### objects of several addresses, that names refer to -/
structure OwnM where
  as : List Addr
  rel : PySem.W.Frag → Hp → Hp → Prop
  mono : ∀ {K : PySem.W.Frag} {B B' H H' : Hp}, Same B B' → (∀ a ∈ as, ∀ o, H a = some o → H' a = some o) → rel K B H → rel K B' H'
noncomputable abbrev MS := List OwnM
noncomputable def adM (ms : MS) : List Addr := ms.flatMap OwnM.as
theorem in_adM {ms : MS} {m : OwnM} {a : Addr} (hm : m ∈ ms) (ha : a ∈ m.as) : a ∈ adM ms := List.mem_flatMap.mpr ⟨m, hm, ha⟩
structure MOk (K : PySem.W.Frag) (EH : Hp) (bxs : List Addr) (B H : Hp) (ms : MS) : Prop where
  at_ : ∀ a ∈ adM ms, a ∉ bxs ∧ B a = none ∧ H a ≠ none
  en : ∀ a ∈ adM ms, EH a = none
  rl : ∀ m ∈ ms, m.rel K B H
  nd : (adM ms).Nodup
structure MX (K : PySem.W.Frag) (E : Ent) (M : Hp) (n : Nat) (B H : Hp) (bxs : List Addr) (σ : L2.St) (ρ : DEnv) (ms : MS) : Prop where
  sv : SInv K E M n B H bxs σ ρ
  ok : MOk K E.H bxs B H ms
  ow : ∀ a ∈ adM ms, ∀ (i : Nat) (r : RV), ρ[i]? = some (some r) → isOwn r → σ[i]? ≠ some (some (.ref a))
section
variable {K : PySem.W.Frag} {E : Ent} {M EH : Hp} {n n1 : Nat} {B H B1 H1 : Hp} {bxs : List Addr} {σ σ' : L2.St} {ρ ρ' : DEnv} {ms : MS}
theorem some_of {α : Type} {x : Option α} (h : x ≠ none) : ∃ o, x = some o := by
  cases x with
  | none => exact absurd rfl h
  | some o => exact ⟨o, rfl⟩
theorem MOk.step (h : MOk K EH bxs B H ms) (s : Step bxs n n1 B H B1 H1) : MOk K EH bxs B1 H1 ms where
  at_ := fun a ha => by
    obtain ⟨a1, a2, a3⟩ := h.at_ a ha
    obtain ⟨o, e⟩ := some_of a3
    exact ⟨a1, by rw [s.b3 _ a3]; exact a2, ne_none_of (s.h1 _ _ a1 e)⟩
  en := h.en
  rl := fun m hm => m.mono s.b1 (fun a ha o e => s.h1 a o (h.at_ a (in_adM hm ha)).1 e) (h.rl m hm)
  nd := h.nd
theorem MX.step (h : MX K E M n B H bxs σ ρ ms) (s : Step bxs n n1 B H B1 H1) : MX K E M n1 B1 H1 bxs σ ρ ms := ⟨h.sv.step s, h.ok.step s, h.ow⟩
theorem MX.upd {vs : List Nat} (h : MX K E M n B H bxs σ ρ ms) (e : EnvR K bxs n B H σ' ρ') (u : UpdR vs σ σ' ρ ρ') : MX K E M n B H bxs σ' ρ' ms :=
  ⟨h.sv.upd e u, h.ok, fun a ha i r h1 o h2 => by
    obtain ⟨a1, a2⟩ := u.own i r h1 o
    rw [a2] at h2
    exact h.ow a ha i r a1 o h2⟩
theorem MX.weak {M' : Hp} (h : MX K E M n B H bxs σ ρ ms) (m : Same M' M) : MX K E M' n B H bxs σ ρ ms := ⟨h.sv.weak m, h.ok, h.ow⟩
/-- the objects stand as if they had been there before -/
noncomputable def entM (E : Ent) (ms : MS) (B H : Hp) : Ent := ⟨B, fun a => open Classical in if a ∈ adM ms then H a else E.H a, E.bxs, E.n⟩
theorem entM_in {a : Addr} (h : a ∈ adM ms) : (entM E ms B H).H a = H a := if_pos h
theorem entM_out {a : Addr} (h : a ∉ adM ms) : (entM E ms B H).H a = E.H a := if_neg h
theorem MX.old (h : MX K E M n B H bxs σ ρ ms) {a : Addr} (e : E.H a ≠ none) : (entM E ms B H).H a = E.H a := entM_out fun z => e (h.ok.en a z)
theorem MX.inner (h : MX K E M n B H bxs σ ρ ms) : SInv K (entM E ms B H) B n B H bxs σ ρ := by
  have sv := h.sv
  refine ⟨⟨Same.refl _, sv.st.b2, fun a ha => rfl, fun a o hb ha => ?_, sv.st.bx, sv.st.nn⟩, Same.refl _, sv.g, fun b hb => ?_, sv.sup, sv.env, fun i r p h1 o h2 => ?_⟩
  · by_cases c : a ∈ adM ms
    · rw [entM_in c] at ha
      exact ha
    · rw [entM_out c] at ha
      exact sv.st.h1 a o hb ha
  · rcases sv.bs b hb with z | z
    · exact .inl z
    · refine .inr ?_
      rw [entM_out fun c => (h.ok.at_ b c).1 hb]
      exact z
  · rw [entM_out fun c => h.ow p c i r h1 o h2]
    exact sv.ow i r p h1 o h2
theorem MX.back (h : MX K E M n B H bxs σ ρ ms) {n' : Nat} {B' H' : Hp} (g : Step E.bxs E.n n' B (entM E ms B H).H B' H') : Step E.bxs E.n n' E.B E.H B' H' :=
  ⟨h.sv.st.b1.trans g.b1, g.b2, fun a ha => by rw [g.b3 a (by rw [h.old ha]; exact ha), h.sv.st.b3 a ha], fun a o hb ha => g.h1 a o hb (by rw [h.old (ne_none_of ha)]; exact ha), g.bx, g.nn⟩
theorem MX.parts (h : MX K E M n B H bxs σ ρ ms) {n' : Nat} {B' H' : Hp} (g : Step E.bxs E.n n' B (entM E ms B H).H B' H') : ∀ a ∈ adM ms, B' a = none ∧ ∀ o, H a = some o → H' a = some o := fun a ha => by
  obtain ⟨a1, a2, a3⟩ := h.ok.at_ a ha
  have nb : a ∉ E.bxs := fun z => a1 (h.sv.sup _ z)
  exact ⟨by rw [g.b3 a (by rw [entM_in ha]; exact a3)]; exact a2, fun o e => g.h1 a o nb (by rw [entM_in ha]; exact e)⟩
theorem MX.outer {n' : Nat} {B' H' : Hp} {bxs' : List Addr} (h : MX K E M n B H bxs σ ρ ms) (g : SInv K (entM E ms B H) B n' B' H' bxs' σ' ρ') : MX K E M n' B' H' bxs' σ' ρ' ms := by
  have sv := h.sv
  have hE : ∀ a, (entM E ms B H).H a = none → E.H a = none := fun a z => by
    cases e : E.H a with
    | none => rfl
    | some u => rw [h.old (ne_none_of e), e] at z; cases z
  have hp := h.parts g.st
  refine ⟨⟨h.back g.st, sv.mb.trans g.mb, g.g, fun b hb => ?_, g.sup, g.env, fun i r p h1 o h2 => hE p (g.ow i r p h1 o h2)⟩, ⟨fun a ha => ?_, h.ok.en, fun m hm => m.mono g.mb (fun a ha o e => (hp a (in_adM hm ha)).2 o e) (h.ok.rl m hm), h.ok.nd⟩, fun a ha i r h1 o h2 => ?_⟩
  · rcases g.bs b hb with z | z
    · exact .inl z
    · exact .inr (hE b z)
  · obtain ⟨o, e⟩ := some_of (h.ok.at_ a ha).2.2
    refine ⟨fun z => ?_, (hp a ha).1, ne_none_of ((hp a ha).2 o e)⟩
    rcases g.bs a z with y | y
    · exact (h.ok.at_ a ha).1 (sv.sup _ y)
    · rw [entM_in ha] at y
      exact (h.ok.at_ a ha).2.2 y
  · have z := g.ow i r a h1 o h2
    rw [entM_in ha] at z
    exact (h.ok.at_ a ha).2.2 z
theorem MX.ret {n' : Nat} {B' H' : Hp} {r : RV} {v : V} (h : MX K E M n B H bxs σ ρ ms) (g : RetR K (entM E ms B H) n' B' H' r v) : RetR K E n' B' H' r v ∧ MOk K E.H E.bxs B' H' ms := by
  obtain ⟨st, vr, fr, ro⟩ := g
  have hE : ∀ a, (entM E ms B H).H a = none → E.H a = none := fun a z => by
    cases e : E.H a with
    | none => rfl
    | some u => rw [h.old (ne_none_of e), e] at z; cases z
  have hp := h.parts st
  refine ⟨⟨h.back st, vr, ?_, ro⟩, ⟨fun a ha => ?_, h.ok.en, fun m hm => m.mono st.b1 (fun a ha o e => (hp a (in_adM hm ha)).2 o e) (h.ok.rl m hm), h.ok.nd⟩⟩
  · cases r with
    | new xs => obtain ⟨p, e, q⟩ := fr; exact ⟨p, e, hE p q⟩
    | nbox => obtain ⟨p, e, q⟩ := fr; exact ⟨p, e, hE p q⟩
    | own T => obtain ⟨p, e, q⟩ := fr; exact ⟨p, e, hE p q⟩
    | obj a => trivial
    | d x => trivial
    | bor xs => trivial
    | box => trivial
  · obtain ⟨o, e⟩ := some_of (h.ok.at_ a ha).2.2
    exact ⟨fun z => (h.ok.at_ a ha).1 (h.sv.sup _ z), (hp a ha).1, ne_none_of ((hp a ha).2 o e)⟩
theorem adM_app (ms ms' : MS) : adM (ms ++ ms') = adM ms ++ adM ms' := List.flatMap_append
theorem adM_perm {ms ms' : MS} (p : ms.Perm ms') : (adM ms).Perm (adM ms') := p.flatMap_right _
theorem MOk.perm {ms ms' : MS} (h : MOk K EH bxs B H ms) (p : ms.Perm ms') : MOk K EH bxs B H ms' :=
  ⟨fun a ha => h.at_ a ((adM_perm p).mem_iff.mpr ha), fun a ha => h.en a ((adM_perm p).mem_iff.mpr ha), fun m hm => h.rl m (p.mem_iff.mpr hm), (adM_perm p).nodup_iff.mp h.nd⟩
theorem MX.perm {ms ms' : MS} (h : MX K E M n B H bxs σ ρ ms) (p : ms.Perm ms') : MX K E M n B H bxs σ ρ ms' :=
  ⟨h.sv, h.ok.perm p, fun a ha => h.ow a ((adM_perm p).mem_iff.mpr ha)⟩
end
/-! ### what a call does to the objects that it is given -/
structure StepM (bxs ads : List Addr) (n n' : Nat) (B H B' H' : Hp) : Prop where
  b1 : Same B B'
  b2 : Same B' H'
  b3 : ∀ a, a ∉ ads → H a ≠ none → B' a = B a
  h1 : ∀ a o, a ∉ bxs → a ∉ ads → H a = some o → H' a = some o
  bx : ∀ b ∈ bxs, BoxAt H' b n'
  nn : n ≤ n'
section
variable {K : PySem.W.Frag} {E : Ent} {M EH : Hp} {n n1 : Nat} {B H B1 H1 : Hp} {bxs : List Addr} {σ σ' : L2.St} {ρ ρ' : DEnv} {ma mb ma' : MS}
theorem ValR.stepM {ads : List Addr} {r : RV} {v : V} (s : StepM bxs ads n n1 B H B1 H1) (hn : ∀ p, isOwn r → v = .ref p → p ∉ ads) (hr : slotOk r) (h : ValR K bxs n B H r v) : ValR K bxs n1 B1 H1 r v := by
  cases r with
  | d x => exact dpSame s.b1 x v h
  | new xs =>
    obtain ⟨p, vs, e, h1, h2, h3, h4⟩ := h
    have np := hn p trivial e
    exact ⟨p, vs, e, h1, by rw [s.b3 p np (ne_none_of h3)]; exact h2, s.h1 p _ h1 np h3, dpSameAll s.b1 xs vs h4⟩
  | bor xs => exact hr.elim
  | box => exact h
  | nbox => exact hr.elim
  | own T =>
    obtain ⟨p, o, e, h1, h2, h3, h4⟩ := h
    have np := hn p trivial e
    exact ⟨p, o, e, h1, by rw [s.b3 p np (ne_none_of h3)]; exact h2, s.h1 p _ h1 np h3, T.mono s.b1 h4⟩
  | obj a => exact h
/-- the caller's view -/
theorem MX.call (h : MX K E M n B H bxs σ ρ (ma ++ mb)) (s : StepM bxs (adM ma) n n1 B H B1 H1) (at2 : ∀ a ∈ adM ma', a ∉ bxs ∧ B1 a = none ∧ H1 a ≠ none) (rl2 : ∀ m ∈ ma', m.rel K B1 H1) (nd2 : (adM ma').Nodup) (fr : ∀ a ∈ adM ma', a ∈ adM ma ∨ H a = none) :
    MX K E M n1 B1 H1 bxs σ ρ (ma' ++ mb) := by
  have sv := h.sv
  have en : ∀ a ∈ adM ma, E.H a = none := fun a ha => h.ok.en a (by rw [adM_app]; exact List.mem_append_left _ ha)
  have hE : ∀ a ∈ adM ma', E.H a = none := fun a ha => by
    rcases fr a ha with z | z
    · exact en a z
    · exact sv.st.free z
  have dis : ∀ a ∈ adM mb, a ∉ adM ma := fun a hb ha => by
    have := h.ok.nd
    rw [adM_app] at this
    exact (List.nodup_append.mp this).2.2 a ha a hb rfl
  have own : ∀ (i : Nat) (r : RV) (p : Addr), ρ[i]? = some (some r) → isOwn r → σ[i]? = some (some (.ref p)) → p ∉ adM ma := fun i r p h1 o h2 ha => h.ow p (by rw [adM_app]; exact List.mem_append_left _ ha) i r h1 o h2
  refine ⟨⟨⟨sv.st.b1.trans s.b1, s.b2, fun a ha => ?_, fun a o hb ha => ?_, fun b hb => s.bx b (sv.sup b hb), Nat.le_trans sv.st.nn s.nn⟩, sv.mb.trans s.b1, ⟨s.b2, fun b hb => ?_⟩, sv.bs, sv.sup, ⟨sv.env.len, fun i r hr => ?_, sv.env.own, sv.env.ok⟩, sv.ow⟩, ⟨fun a ha => ?_, fun a ha => ?_, fun m hm => ?_, ?_⟩, fun a ha i r h1 o h2 => ?_⟩
  · have na : a ∉ adM ma := fun z => ha (en a z)
    obtain ⟨o, e⟩ := some_of ha
    by_cases hb : a ∈ E.bxs
    · have := (sv.g.box a (sv.sup a hb)).2.ne
      rw [s.b3 a na this, sv.st.b3 a ha]
    · rw [s.b3 a na (ne_none_of (sv.st.h1 a o hb e)), sv.st.b3 a ha]
  · have na : a ∉ adM ma := fun z => (ne_none_of ha) (en a z)
    have e := sv.st.h1 a o hb ha
    refine s.h1 a o (fun z => ?_) na e
    rcases sv.bs a z with y | y
    · exact hb y
    · rw [y] at ha
      cases ha
  · obtain ⟨b1, b2⟩ := sv.g.box b hb
    refine ⟨?_, s.bx b hb⟩
    have nb : b ∉ adM ma := fun z => (h.ok.at_ b (by rw [adM_app]; exact List.mem_append_left _ z)).1 hb
    rw [s.b3 b nb b2.ne]
    exact b1
  · obtain ⟨v, h1, h2⟩ := sv.env.val i r hr
    exact ⟨v, h1, h2.stepM s (fun p o e => own i r p hr o (by rw [h1, e])) (sv.env.ok i r hr)⟩
  · rw [adM_app] at ha
    rcases List.mem_append.mp ha with z | z
    · exact at2 a z
    · obtain ⟨a1, a2, a3⟩ := h.ok.at_ a (by rw [adM_app]; exact List.mem_append_right _ z)
      obtain ⟨o, e⟩ := some_of a3
      exact ⟨a1, by rw [s.b3 a (dis a z) a3]; exact a2, ne_none_of (s.h1 a o a1 (dis a z) e)⟩
  · rw [adM_app] at ha
    rcases List.mem_append.mp ha with z | z
    · exact hE a z
    · exact h.ok.en a (by rw [adM_app]; exact List.mem_append_right _ z)
  · rcases List.mem_append.mp hm with z | z
    · exact rl2 m z
    · refine m.mono s.b1 (fun a ha o e => ?_) (h.ok.rl m (List.mem_append_right _ z))
      have az := in_adM z ha
      exact s.h1 a o (h.ok.at_ a (by rw [adM_app]; exact List.mem_append_right _ az)).1 (dis a az) e
  · rw [adM_app]
    refine List.nodup_append.mpr ⟨nd2, ?_, fun a ha b hb e => ?_⟩
    · have := h.ok.nd
      rw [adM_app] at this
      exact (List.nodup_append.mp this).2.1
    · subst e
      rcases fr a ha with z | z
      · exact dis a hb z
      · exact (h.ok.at_ a (by rw [adM_app]; exact List.mem_append_right _ hb)).2.2 z
  · rw [adM_app] at ha
    rcases List.mem_append.mp ha with z | z
    · rcases fr a z with y | y
      · exact own i r a h1 o h2 y
      · obtain ⟨v, e1, e2⟩ := sv.env.val i r h1
        rw [h2] at e1
        cases e1
        obtain ⟨_, _, u, e3⟩ := own_at e2 o
        rw [y] at e3
        cases e3
    · exact h.ow a (by rw [adM_app]; exact List.mem_append_right _ z) i r h1 o h2
end
end Dl

namespace Dl
open PySem PySem.Spec PyProof.Rows L2
/-! ### readings over names and objects -/
noncomputable abbrev DEM := DEnv → MS → Nat → (RV → MS → Nat → Prop) → Prop
noncomputable abbrev DTM := DEnv → MS → Nat → (Bool → MS → Nat → Prop) → Prop
noncomputable abbrev DAM := DEnv → MS → Nat → (List RV → MS → Nat → Prop) → Prop
structure MEnds where
  nx : DEnv → MS → Nat → Prop
  rt : RV → MS → Nat → Prop
  bk : DEnv → MS → Nat → Prop := fun _ _ _ => False
  ct : DEnv → MS → Nat → Prop := fun _ _ _ => False
noncomputable abbrev DSM := MEnds → DEnv → MS → Nat → Prop
noncomputable def upM (K : PySem.W.Frag) (E : Ent) (w : DEM) : TE := fun σ H Q => ∃ (ρ : DEnv) (ms : MS) (n : Nat) (B M : Hp) (bxs : List Addr) (Qd : RV → MS → Nat → Prop), MX K E M n B H bxs σ ρ ms ∧ w ρ ms n Qd ∧
  ∀ r ms1 n1 v B1 H1, Qd r ms1 n1 → MX K E M n1 B1 H1 bxs σ ρ ms1 → Same B B1 → ValR K bxs n1 B1 H1 r v → Q v H1
noncomputable def upTM (K : PySem.W.Frag) (E : Ent) (w : DTM) : TT := fun σ H Q => ∃ (ρ : DEnv) (ms : MS) (n : Nat) (B M : Hp) (bxs : List Addr) (Qd : Bool → MS → Nat → Prop), MX K E M n B H bxs σ ρ ms ∧ w ρ ms n Qd ∧
  ∀ b ms1 n1 B1 H1, Qd b ms1 n1 → MX K E M n1 B1 H1 bxs σ ρ ms1 → Same B B1 → Q b H1
noncomputable def upAM (K : PySem.W.Frag) (E : Ent) (w : DAM) : TA := fun σ H Q => ∃ (ρ : DEnv) (ms : MS) (n : Nat) (B M : Hp) (bxs : List Addr) (Qd : List RV → MS → Nat → Prop), MX K E M n B H bxs σ ρ ms ∧ w ρ ms n Qd ∧
  ∀ rs ms1 n1 vs B1 H1, Qd rs ms1 n1 → MX K E M n1 B1 H1 bxs σ ρ ms1 → Same B B1 → ValsR K bxs n1 B1 H1 rs vs → Q vs H1
structure EndsM (K : PySem.W.Frag) (E : Ent) (M : Hp) (D : Ends) (Dd : MEnds) : Prop where
  nx : ∀ n B H bxs σ ρ ms, MX K E M n B H bxs σ ρ ms → Dd.nx ρ ms n → D.nx σ H
  rt : ∀ n B H r v ms, RetR K E n B H r v → MOk K E.H E.bxs B H ms → Dd.rt r ms n → D.rt v H
  bk : ∀ n B H bxs σ ρ ms, MX K E M n B H bxs σ ρ ms → Dd.bk ρ ms n → D.bk σ H
  ct : ∀ n B H bxs σ ρ ms, MX K E M n B H bxs σ ρ ms → Dd.ct ρ ms n → D.ct σ H
noncomputable def upSM (K : PySem.W.Frag) (E : Ent) (w : DSM) : TS := fun D σ H => ∃ (ρ : DEnv) (ms : MS) (n : Nat) (B M : Hp) (bxs : List Addr) (Dd : MEnds), MX K E M n B H bxs σ ρ ms ∧ w Dd ρ ms n ∧ EndsM K E M D Dd
noncomputable abbrev LEM (X : Cx) (E : Ent) (e : Expr) (w : DEM) : Prop := PE X e (upM X.K E w)
noncomputable abbrev LTM (X : Cx) (E : Ent) (e : Expr) (w : DTM) : Prop := PT X e (upTM X.K E w)
noncomputable abbrev LAM (X : Cx) (E : Ent) (es : List Expr) (w : DAM) : Prop := PA X es (upAM X.K E w)
noncomputable abbrev LSM (X : Cx) (E : Ent) (st : Stmt) (w : DSM) : Prop := PS X st (upSM X.K E w)
noncomputable abbrev LSsM (X : Cx) (E : Ent) (st : List Stmt) (w : DSM) : Prop := PSs X st (upSM X.K E w)
/-- what an expression may leave -/
noncomputable def okM (r : RV) (F : RV → Prop) : Prop := match r with
  | .d x => F (.d x)
  | .new xs => F (.d (.list xs))
  | .obj a => F (.obj a)
  | .box => F .box
  | _ => False
/-- what stays as it is while others are reckoned -/
noncomputable def stM (r : RV) (F : RV → Prop) : Prop := match r with
  | .d x => F (.d x)
  | .obj a => F (.obj a)
  | .box => F .box
  | _ => False
section
variable {K : PySem.W.Frag} {E : Ent} {M : Hp} {n n1 : Nat} {B H B1 H1 : Hp} {bxs : List Addr} {σ : L2.St} {ρ : DEnv} {ms : MS}
theorem okM_inv {r : RV} {v : V} {F : RV → Prop} (h : MX K E M n B H bxs σ ρ ms) (s : Step bxs n n1 B H B1 H1) (vr : ValR K bxs n1 B1 H1 r v) (fr : FrR H r v) (hf : okM r F) :
    ∃ r' B2, F r' ∧ MX K E M n1 B2 H1 bxs σ ρ ms ∧ Same B B2 ∧ ValR K bxs n1 B2 H1 r' v := by
  cases r with
  | d x => exact ⟨.d x, B1, hf, h.step s, s.b1, vr⟩
  | new xs =>
    obtain ⟨B2, s2, vr2, _⟩ := fix_r h.sv.g s vr fr
    exact ⟨_, B2, hf, h.step s2, s2.b1, vr2⟩
  | obj a => exact ⟨.obj a, B1, hf, h.step s, s.b1, vr⟩
  | box => exact ⟨.box, B1, hf, h.step s, s.b1, vr⟩
  | bor xs => exact hf.elim
  | nbox => exact hf.elim
  | own T => exact hf.elim
theorem stM_ex {r : RV} {F : RV → Prop} (h : stM r F) : F r ∧ ∀ {K : PySem.W.Frag} {bxs : List Addr} {n n1 : Nat} {B H B1 H1 : Hp} {v : V}, Same B B1 → ValR K bxs n B H r v → ValR K bxs n1 B1 H1 r v := by
  cases r with
  | d x => exact ⟨h, fun s vr => dpSame s _ _ vr⟩
  | obj a => exact ⟨h, fun _ vr => vr⟩
  | box => exact ⟨h, fun _ vr => vr⟩
  | new xs => exact h.elim
  | bor xs => exact h.elim
  | nbox => exact h.elim
  | own T => exact h.elim
end
/-! ### expressions -/
noncomputable def ofE (w : DE) : DEM := fun ρ ms n Q => w ρ n fun r n1 => okM r fun r' => Q r' ms n1
noncomputable def ofT (w : DT) : DTM := fun ρ ms n Q => w ρ n fun b n1 => Q b ms n1
noncomputable def dOpM (w : DOp) (wa wb : DEM) : DEM := fun ρ ms n Q => wa ρ ms n fun r1 ms1 n1 => onD r1 fun x => wb ρ ms1 n1 fun r2 ms2 n2 => onD r2 fun y => w x y fun r => okM r fun r' => Q r' ms2 n2
noncomputable def dTestM (w : DEM) : DTM := fun ρ ms n Q => w ρ ms n fun r ms1 n1 => onB r fun b => Q b ms1 n1
noncomputable def dNotM (w : DTM) : DTM := fun ρ ms n Q => w ρ ms n fun b ms1 n1 => Q (!b) ms1 n1
noncomputable def dAndM (w u : DTM) : DTM := fun ρ ms n Q => w ρ ms n fun b ms1 n1 => if b = true then u ρ ms1 n1 Q else Q false ms1 n1
noncomputable def dOrM (w u : DTM) : DTM := fun ρ ms n Q => w ρ ms n fun b ms1 n1 => if b = true then Q true ms1 n1 else u ρ ms1 n1 Q
noncomputable def dIfM (w : DTM) (wa wb : DEM) : DEM := fun ρ ms n Q => w ρ ms n fun b ms1 n1 => if b = true then wa ρ ms1 n1 Q else wb ρ ms1 n1 Q
noncomputable def dNilM : DAM := fun _ ms n Q => Q [] ms n
noncomputable def dConsM (wa : DEM) (wr : DAM) : DAM := fun ρ ms n Q => wa ρ ms n fun r ms1 n1 => stM r fun r' => wr ρ ms1 n1 fun rs ms2 n2 => Q (r' :: rs) ms2 n2
noncomputable def dLstM (wr : DAM) : DEM := fun ρ ms n Q => wr ρ ms n fun rs ms1 n1 => onO (datas rs) fun xs => xs.length ≤ sizeLine ∧ Q (.d (.list xs)) ms1 n1
noncomputable def dTupM (wr : DAM) : DEM := fun ρ ms n Q => wr ρ ms n fun rs ms1 n1 => onO (datas rs) fun xs => xs.length ≤ sizeLine ∧ Q (.d (.tuple xs)) ms1 n1
section
variable {X : Cx} {E : Ent} {a b c e : Expr} {es rest : List Expr} {wa wb : DEM} {w u : DTM} {pos : Pos}
theorem lem_of {we : DE} (h : LE X e we) : LEM X E e (ofE we) := pe_imp h fun σ H Q hu => by
  obtain ⟨ρ, ms, n, B, M, bxs, Qd, h, w1, q⟩ := hu
  refine ⟨ρ, n, B, bxs, _, h.sv.g, h.sv.env, w1, fun r n1 v B1 H1 hq s1 vr fr => ?_⟩
  obtain ⟨r', B2, hf, h2, sb, vr2⟩ := okM_inv h s1 vr fr hq
  exact q _ _ _ _ _ _ hf h2 sb vr2
theorem up_opM {K : PySem.W.Frag} {f : Value → Value → Sem Value} {w : DOp} {r : R2} (hl : ∀ (bxs : List Addr) (n : Nat) (B H : Hp) (x y : PyData) (v u : V) (Qd : RV → Prop) (Q : VK), Good bxs n B H → DpV K B H v x → DpV K B H u y → w x y Qd →
      (∀ res v' B1 H1, Qd res → Step bxs n n B H B1 H1 → ValR K bxs n B1 H1 res v' → FrR H res v' → Q v' H1) → r v u H Q) (σ : L2.St) (H : Hp) (Q : VK) (hu : upM K E (dOpM w wa wb) σ H Q) : tOp r (upM K E wa) (upM K E wb) σ H Q := by
  obtain ⟨ρ, ms, n, B, M, bxs, Qd, h, w1, q⟩ := hu
  refine ⟨ρ, ms, n, B, M, bxs, _, h, w1, fun r1 ms1 n1 v1 B1 H1 hq1 h1 sb1 vr1 => ?_⟩
  obtain ⟨x, rfl, hq1⟩ := onD_ex hq1
  refine ⟨ρ, ms1, n1, B1, M, bxs, _, h1, hq1, fun r2 ms2 n2 v2 B2 H2 hq2 h2 sb2 vr2 => ?_⟩
  obtain ⟨y, rfl, w4⟩ := onD_ex hq2
  refine hl bxs n2 B2 H2 x y v1 v2 _ Q h2.sv.g (.inl (dpSame sb2 _ _ vr1)) (.inl vr2) w4 fun res v' B3 H3 w5 s3 r3 f3 => ?_
  obtain ⟨r', B4, hf, h4, sb, vr⟩ := okM_inv h2 s3 r3 f3 w5
  exact q _ _ _ _ _ _ hf h4 ((sb1.trans sb2).trans sb) vr
theorem lem_op {op : Operator} {w : DOp} (ho : LOp X (binaryOp op) w) (ha : LEM X E a wa) (hb : LEM X E b wb) : LEM X E (.BinOp a op b pos) (dOpM w wa wb) := by
  obtain ⟨r, h1, h2⟩ := ho
  exact pe_imp (pe_op h1 ha hb) (up_opM (f := binaryOp op) h2)
theorem up_testM {K : PySem.W.Frag} {w : DEM} (σ : L2.St) (H : Hp) (Q : Bool → Hp → Prop) (h : upTM K E (dTestM w) σ H Q) : tB (upM K E w) σ H Q := by
  obtain ⟨ρ, ms, n, B, M, bxs, Qd, h, w1, q⟩ := h
  refine ⟨ρ, ms, n, B, M, bxs, _, h, w1, fun r ms1 n1 v B1 H1 hb h1 sb vr => ?_⟩
  obtain ⟨bv, rfl, hq⟩ := onB_ex hb
  cases vr
  exact ⟨bv, rfl, q _ _ _ _ _ hq h1 sb⟩
theorem ltm_cmp {op : CmpOp} {w : DOp} (ho : LOp X (compareOp op) w) (ha : LEM X E a wa) (hb : LEM X E b wb) (hm : behindInMarks op b = false) : LTM X E (.Compare a [op] [b] pos) (dTestM (dOpM w wa wb)) := by
  obtain ⟨r, h1, h2⟩ := ho
  refine pt_imp (pt_cmpR h1 ha hb hm) fun σ H Q h => ?_
  have h3 := up_testM σ H Q h
  exact up_opM (f := compareOp op) h2 σ H _ h3
theorem lam_nil : LAM X E [] dNilM := pa_imp pa_nil fun σ H Q hu => by
  obtain ⟨ρ, ms, n, B, M, bxs, Qd, h, w1, q⟩ := hu
  exact q _ _ _ [] _ _ w1 h (Same.refl _) trivial
theorem lam_cons {wr : DAM} (ha : LEM X E a wa) (hr : LAM X E es wr) (hs : starEach (a :: es) X.env = (false, eval a X.env) :: starEach es X.env := by rfl) : LAM X E (a :: es) (dConsM wa wr) := pa_imp (pa_cons ha hr hs) fun σ H Q hu => by
  obtain ⟨ρ, ms, n, B, M, bxs, Qd, h, w1, q⟩ := hu
  refine ⟨ρ, ms, n, B, M, bxs, _, h, w1, fun r ms1 n1 v B1 H1 hq1 h1 sb1 vr => ?_⟩
  obtain ⟨hq1, st⟩ := stM_ex hq1
  refine ⟨ρ, ms1, n1, B1, M, bxs, _, h1, hq1, fun rs ms2 n2 vs B2 H2 hq2 h2 sb2 vrs => ?_⟩
  exact q _ _ _ _ _ _ hq2 h2 (sb1.trans sb2) ⟨st sb2 vr, vrs⟩
theorem lem_lst {wr : DAM} (h : LAM X E es wr) : LEM X E (.List es pos) (dLstM wr) := pe_imp (pe_lst h) fun σ H Q hu => by
  obtain ⟨ρ, ms, n, B, M, bxs, Qd, h, w1, q⟩ := hu
  refine ⟨ρ, ms, n, B, M, bxs, _, h, w1, fun rs ms1 n1 vs B1 H1 hq h1 sb vr => ?_⟩
  obtain ⟨xs, ex, hl, hq⟩ := onO_ex hq
  have da := datas_r rs vs xs vr ex
  refine ⟨by rw [dpLen _ _ da]; exact hl, fun p hp => ?_⟩
  have sl : Step bxs n1 n1 B1 H1 (upd B1 p (.lst vs)) (upd H1 p (.lst vs)) := h1.sv.g.refl.lay h1.sv.g hp
  exact q _ _ _ _ _ _ hq (h1.step sl) (sb.trans sl.b1) (.lst (.inl (.inl upd_same)) (dpSameAll sl.b1 _ _ da))
end
end Dl

namespace Dl
open PySem PySem.Spec PyProof.Rows L2
/-! ### statements over names and objects -/
noncomputable def ofS (w : DS) : DSM := fun D ρ ms n => w { nx := fun ρ' n' => D.nx ρ' ms n', rt := fun r n' => D.rt r ms n', bk := fun ρ' n' => D.bk ρ' ms n', ct := fun ρ' n' => D.ct ρ' ms n' } ρ n
noncomputable def dNextM : DSM := fun D ρ ms n => D.nx ρ ms n
noncomputable def dSeqM (w u : DSM) : DSM := fun D ρ ms n => w { D with nx := u D } ρ ms n
noncomputable def dIfSM (w : DTM) (wa wb : DSM) : DSM := fun D ρ ms n => w ρ ms n fun b ms1 n1 => if b = true then wa D ρ ms1 n1 else wb D ρ ms1 n1
noncomputable def setM (r : RV) (F : RV → Prop) : Prop := match r with
  | .d x => F (.d x)
  | .obj a => F (.obj a)
  | _ => False
noncomputable def dSetM (i : Nat) (w : DEM) : DSM := fun D ρ ms n => w ρ ms n fun r ms1 n1 => setM r fun r' => D.nx (ρ.set i (some r')) ms1 n1
noncomputable def dExprM (w : DEM) : DSM := fun D ρ ms n => w ρ ms n fun _ ms1 n1 => D.nx ρ ms1 n1
noncomputable def dRetM (w : DEM) : DSM := fun D ρ ms n => w ρ ms n fun r ms1 n1 => setM r fun r' => D.rt r' ms1 n1
theorem EnvR.setV {K : PySem.W.Frag} {bxs : List Addr} {n : Nat} {B H : Hp} {σ : L2.St} {ρ : DEnv} (e : EnvR K bxs n B H σ ρ) (i : Nat) {r0 : RV} {v0 : V} (hno : ¬ isOwn r0) (hok : slotOk r0) (h : ValR K bxs n B H r0 v0) : EnvR K bxs n B H (σ.set i (some v0)) (ρ.set i (some r0)) where
  len := by rw [List.length_set, List.length_set, e.len]
  val := fun j r hr => by
    by_cases hij : i = j
    · subst hij
      have hi : i < ρ.length := by
        have := (List.getElem?_eq_some_iff.mp hr).1
        rwa [List.length_set] at this
      rw [List.getElem?_set_self hi] at hr
      cases hr
      exact ⟨v0, List.getElem?_set_self (by rw [e.len]; exact hi), h⟩
    · rw [List.getElem?_set_ne hij] at hr
      rw [List.getElem?_set_ne hij]
      exact e.val j r hr
  own := fun j k r r' p h1 h2 o1 o2 h3 h4 => by
    have nn : ∀ (m : Nat) (z : RV), isOwn z → (ρ.set i (some r0))[m]? = some (some z) → i ≠ m := fun m z o hm q => by
      subst q
      have hi : i < ρ.length := by
        have := (List.getElem?_eq_some_iff.mp hm).1
        rwa [List.length_set] at this
      rw [List.getElem?_set_self hi] at hm
      cases hm
      exact hno o
    have nj := nn j r o1 h1
    have nk := nn k r' o2 h2
    rw [List.getElem?_set_ne nj] at h1 h3
    rw [List.getElem?_set_ne nk] at h2 h4
    exact e.own j k r r' p h1 h2 o1 o2 h3 h4
  ok := ok_set e.ok hok
theorem UpdR.setV (σ : L2.St) (ρ : DEnv) (i : Nat) (v0 : V) {r0 : RV} (hno : ¬ isOwn r0) : UpdR [i] σ (σ.set i (some v0)) ρ (ρ.set i (some r0)) where
  out := fun j hj => List.getElem?_set_ne (fun q => hj (by rw [q]; exact List.mem_singleton.mpr rfl))
  len := List.length_set
  own := fun j r hr o => by
    have nj : i ≠ j := fun q => by
      subst q
      have hi : i < ρ.length := by
        have := (List.getElem?_eq_some_iff.mp hr).1
        rwa [List.length_set] at this
      rw [List.getElem?_set_self hi] at hr
      cases hr
      exact hno o
    rw [List.getElem?_set_ne nj] at hr
    exact ⟨hr, List.getElem?_set_ne nj⟩
theorem setM_ex {r : RV} {F : RV → Prop} (h : setM r F) : F r ∧ ¬ isOwn r ∧ slotOk r ∧ retOk r := by
  cases r with
  | d x => exact ⟨h, fun z => z, trivial, trivial⟩
  | obj a => exact ⟨h, fun z => z, trivial, trivial⟩
  | new xs => exact h.elim
  | bor xs => exact h.elim
  | nbox => exact h.elim
  | own T => exact h.elim
  | box => exact h.elim
section
variable {X : Cx} {E : Ent} {st : Stmt} {rest body sa sb : List Stmt} {c e tg iter : Expr} {w u : DSM} {wt : DTM} {we : DEM} {pos pos' : Pos} {x : Str}
theorem lsm_of {ws : DS} (h : ∀ E', LS X E' st ws) : LSM X E st (ofS ws) := ⟨fun pins s σ H D I hu => by
  obtain ⟨ρ, ms, n, B, M, bxs, Dd, h0, w1, q⟩ := hu
  refine (h (entM E ms B H)).run pins s σ H D I ⟨ρ, n, B, B, bxs, _, h0.inner, w1, ⟨fun n1 B1 H1 b1 σ1 ρ1 g w2 => q.nx _ _ _ _ _ _ _ (h0.outer g) w2, fun n1 B1 H1 r v g w2 => ?_, fun n1 B1 H1 b1 σ1 ρ1 g w2 => q.bk _ _ _ _ _ _ _ (h0.outer g) w2, fun n1 B1 H1 b1 σ1 ρ1 g w2 => q.ct _ _ _ _ _ _ _ (h0.outer g) w2⟩⟩
  obtain ⟨a, b⟩ := h0.ret g
  exact q.rt _ _ _ _ _ _ a b w2⟩
theorem lssm_nil : LSsM X E [] dNextM := pss_imp pss_nil fun D σ H hu => by
  obtain ⟨ρ, ms, n, B, M, bxs, Dd, h, w1, q⟩ := hu
  exact q.nx _ _ _ _ _ _ _ h w1
theorem lssm_one (h1 : LSM X E st w) : LSsM X E [st] w := pss_one h1
theorem lssm_cons (h1 : LSM X E st w) (h2 : LSsM X E rest u) : LSsM X E (st :: rest) (dSeqM w u) := pss_imp (pss_cons h1 h2) fun D σ H hu => by
  obtain ⟨ρ, ms, n, B, M, bxs, Dd, h, w1, q⟩ := hu
  exact ⟨ρ, ms, n, B, M, bxs, { Dd with nx := u Dd }, h, w1, ⟨fun n1 B1 H1 b1 σ1 ρ1 ms1 h1 w2 => ⟨ρ1, ms1, n1, B1, M, b1, Dd, h1, w2, q⟩, q.rt, q.bk, q.ct⟩⟩
theorem lsm_if (hc : LTM X E c wt) (ha : LSsM X E sa w) (hb : LSsM X E sb u) : LSM X E (.If c sa sb pos) (dIfSM wt w u) := ps_imp (ps_if hc ha hb) fun D σ H hu => by
  obtain ⟨ρ, ms, n, B, M, bxs, Dd, h, w1, q⟩ := hu
  refine ⟨ρ, ms, n, B, M, bxs, _, h, w1, fun bv ms1 n1 B1 H1 hq h1 sb => ?_⟩
  cases bv with
  | true => exact iteT ⟨ρ, ms1, n1, B1, M, bxs, Dd, h1, hq, q⟩
  | false => exact iteF ⟨ρ, ms1, n1, B1, M, bxs, Dd, h1, hq, q⟩
theorem lsm_set (i : Nat) (hN : X.N.Nodup) (he : LEM X E e we) (hi : X.N[i]? = some x := by rfl) (hx : Loc X.env.scope x := by first | exact Or.inl rfl | exact Or.inr rfl) (hs : swapsWith e (some (.Name x pos')) pos.line X.env = pure false := by rfl)
    (hf : X.fn x = true ∨ X.env.scope.names.lookup x = some .local := by first | exact .inl rfl | exact .inr rfl) : LSM X E (.Assign [.Name x pos'] e pos) (dSetM i we) := ps_imp (ps_set hN hi hx he hs hf) fun D σ H hu => by
  obtain ⟨ρ, ms, n, B, M, bxs, Dd, h, w1, q⟩ := hu
  refine ⟨ρ, ms, n, B, M, bxs, _, h, w1, fun r ms1 n1 v B1 H1 hq h1 sb vr => ?_⟩
  obtain ⟨hq, no, so, _⟩ := setM_ex hq
  exact q.nx _ _ _ _ _ _ _ (h1.upd (h1.sv.env.setV i no so vr) (UpdR.setV σ ρ i v no)) hq
theorem lsm_ret (he : LEM X E e we) : LSM X E (.Return (some e) pos) (dRetM we) := ps_imp (ps_ret he) fun D σ H hu => by
  obtain ⟨ρ, ms, n, B, M, bxs, Dd, h, w1, q⟩ := hu
  refine ⟨ρ, ms, n, B, M, bxs, _, h, w1, fun r ms1 n1 v B1 H1 hq h1 sb vr => ?_⟩
  obtain ⟨hq, no, so, ro⟩ := setM_ex hq
  have ok : MOk X.K E.H E.bxs B1 H1 ms1 := ⟨fun a ha => by
    obtain ⟨a1, a2, a3⟩ := h1.ok.at_ a ha
    exact ⟨fun z => a1 (h1.sv.sup _ z), a2, a3⟩, h1.ok.en, h1.ok.rl, h1.ok.nd⟩
  refine q.rt _ _ _ _ _ _ ⟨h1.sv.st, ?_, ?_, ro⟩ ok hq
  · cases r with
    | d x => exact vr
    | obj a => exact vr
    | box => exact ro.elim
    | bor xs => exact so.elim
    | nbox => exact so.elim
    | new xs => exact (no trivial).elim
    | own T => exact (no trivial).elim
  · cases r with
    | d x => trivial
    | obj a => trivial
    | box => trivial
    | bor xs => trivial
    | nbox => exact so.elim
    | new xs => exact (no trivial).elim
    | own T => exact (no trivial).elim
end
/-! ### promises -/
noncomputable abbrev DSpM := List RV → MS → Nat → (RV → MS → Nat → Prop) → Prop
structure AftM (K : PySem.W.Frag) (bxs : List Addr) (ms ms1 : MS) (n n1 : Nat) (B H B1 H1 : Hp) : Prop where
  st : StepM bxs (adM ms) n n1 B H B1 H1
  at_ : ∀ a ∈ adM ms1, a ∉ bxs ∧ B1 a = none ∧ H1 a ≠ none
  rl : ∀ m ∈ ms1, m.rel K B1 H1
  nd : (adM ms1).Nodup
  fr : ∀ a ∈ adM ms1, a ∈ adM ms ∨ H a = none
noncomputable def liftM (K : PySem.W.Frag) (c : DSpM) : Sp := fun vs H Q _ => ∃ (rs : List RV) (ms : MS) (n : Nat) (B : Hp) (bxs : List Addr) (Qd : RV → MS → Nat → Prop),
  Good bxs n B H ∧ ValsR K bxs n B H rs vs ∧ argsIn rs ∧ MOk K (fun _ => none) bxs B H ms ∧ c rs ms n Qd ∧
    ∀ r ms1 n1 v B1 H1, Qd r ms1 n1 → AftM K bxs ms ms1 n n1 B H B1 H1 → ValR K bxs n1 B1 H1 r v → Q v H1
structure DefM (P : Program) (w : World) (K : PySem.W.Frag) (mg : Str → Option Value) (base : Heap) (k : Nat) (x : Str) (ps : List Str) (c : DSpM) : Prop where
  ex : ∃ (f : Addr) (fd : FuncData), FnG P w K mg base k f fd ps (liftM K c) ∧ mg x = some (.ref f) ∧ PySem.W.keepIn K (.ref f) = true ∧ Binds K fd ps []
section
variable {P : Program} {w : World} {K : PySem.W.Frag} {mg : Str → Option Value} {base : Heap}
theorem fnm_mk {x qual : Str} {st : Stmt} {f : Addr} {fd : FuncData} {N ps : List Str} {k : Nat} {c : DSpM} {wb : DSM} (F : Fun K x qual st f fd) (S : FnScope N ps (defScope st))
    (hlen : ∀ rs ms n Q, c rs ms n Q → rs.length = ps.length)
    (hbody : ∀ (cdv : Value) (A : Around) (outer : List Env) (s : Shared) (H : Hp) (E : Ent), Here k (A.deeper (envOfC qual (defScope st) s.heap.objs.size f cdv)) → LSsM (cxOf CX0 P w K mg base N qual (defScope st) f cdv A outer s H E0).nox E (defBody st) wb)
    (hd : ∀ rs ms n Qd, argsIn rs → c rs ms n Qd → wb { nx := fun _ ms' n' => Qd (.d .none) ms' n', rt := fun r ms' n' => setM r fun r' => Qd r' ms' n' } (startD N rs) ms n) : FnG P w K mg base (k + 1) f fd ps (liftM K c) := by
  refine fng_of F S (fun vs H Q E h => ?_) (fun cdv A outer s H vs Q hr hg h => ?_)
  · obtain ⟨rs, ms, n, B, bxs, Qd, g, vr, ai, mo, hc, q⟩ := h
    rw [← vals_len vr]
    exact hlen _ _ _ _ hc
  · obtain ⟨rs, ms, n, B, bxs, Qd, g, vr, ai, mo, hc, q⟩ := h
    have hl := vals_len vr
    let EH : Hp := fun a => open Classical in if a ∈ adM ms then none else H a
    have ein : ∀ a, a ∈ adM ms → EH a = none := fun a z => if_pos z
    have eout : ∀ a, a ∉ adM ms → EH a = H a := fun a z => if_neg z
    have esub : ∀ a o, EH a = some o → a ∉ adM ms ∧ H a = some o := fun a o e => by
      by_cases z : a ∈ adM ms
      · rw [ein a z] at e
        cases e
      · exact ⟨z, by rw [← eout a z]; exact e⟩
    have fin : ∀ {n1 : Nat} {B1 H1 : Hp} {b1 : List Addr} {ms1 : MS}, Step bxs n n1 B EH B1 H1 → (∀ b ∈ bxs, b ∈ b1) → MOk K EH b1 B1 H1 ms1 → AftM K bxs ms ms1 n n1 B H B1 H1 := fun {n1 B1 H1 b1 ms1} st su ok =>
      ⟨⟨st.b1, st.b2, fun a na ha => st.b3 a (by rw [eout a na]; exact ha), fun a o nb na e => st.h1 a o nb (by rw [eout a na]; exact e), st.bx, st.nn⟩, fun a ha => by
        obtain ⟨a1, a2, a3⟩ := ok.at_ a ha
        exact ⟨fun z => a1 (su a z), a2, a3⟩, ok.rl, ok.nd, fun a ha => by
        by_cases z : a ∈ adM ms
        · exact .inl z
        · refine .inr ?_
          rw [← eout a z]
          exact ok.en a ha⟩
    refine ⟨_, hbody cdv A outer s H ⟨B, EH, bxs, n⟩ ⟨hr, hg⟩, ?_⟩
    refine ⟨startD N rs, ms, n, B, B, bxs, _, ⟨⟨⟨Same.refl _, g.sub, fun _ _ => rfl, fun a o _ e => (esub a o e).2, fun b hb => (g.box b hb).2, Nat.le_refl _⟩, Same.refl _, g, fun b hb => .inl hb, fun b hb => hb, ⟨?_, ?_, ?_, ?_⟩, ?_⟩, ⟨mo.at_, ein, mo.rl, mo.nd⟩, ?_⟩, hd rs ms n Qd ai hc, ⟨?_, ?_, ?_, ?_⟩⟩
    · unfold startD L2.start
      rw [List.length_append, List.length_append, List.length_map, List.length_map, List.length_replicate, List.length_replicate, hl]
    · intro i r h
      obtain ⟨v, e1, e2⟩ := vals_get vr (startD_get h)
      refine ⟨v, ?_, e2⟩
      unfold L2.start
      have hi : i < vs.length := (List.getElem?_eq_some_iff.mp e1).1
      rw [List.getElem?_append_left (by simpa using hi), List.getElem?_map, e1]
      rfl
    · intro i j r r' p h1 h2 o1 o2 h3 h4
      have := argIn_get ai (startD_get h1)
      cases r <;> first | exact o1.elim | exact this.elim
    · intro i r h
      have := argIn_get ai (startD_get h)
      cases r <;> first | trivial | exact this.elim
    · intro i r p h1 o1 h2
      have := argIn_get ai (startD_get h1)
      cases r <;> first | exact o1.elim | exact this.elim
    · intro a ha i r h1 o1
      have := argIn_get ai (startD_get h1)
      cases r <;> first | exact o1.elim | exact this.elim
    · intro n1 B1 H1 b1 σ1 ρ1 ms1 h1 w1
      exact q _ _ _ _ _ _ w1 (fin h1.sv.st h1.sv.sup h1.ok) .non
    · intro n1 B1 H1 r v ms1 h1 ok w1
      have w1 : setM r fun r' => Qd r' ms1 n1 := w1
      obtain ⟨w1, no, so, ro⟩ := setM_ex w1
      exact q _ _ _ _ _ _ w1 (fin h1.1 (fun _ z => z) ok) h1.2.1
    · intro n1 B1 H1 b1 σ1 ρ1 ms1 h1 w1
      exact w1.elim
    · intro n1 B1 H1 b1 σ1 ρ1 ms1 h1 w1
      exact w1.elim
theorem defm_mk {x qual : Str} {st : Stmt} {f : Addr} {fd : FuncData} {N ps : List Str} {k : Nat} {c : DSpM} {wb : DSM} (F : Fun K x qual st f fd) (S : FnScope N ps (defScope st)) (hm : mg x = some (.ref f)) (hb : Binds K fd ps [])
    (hlen : ∀ rs ms n Q, c rs ms n Q → rs.length = ps.length)
    (hbody : ∀ (cdv : Value) (A : Around) (outer : List Env) (s : Shared) (H : Hp) (E : Ent), Here k (A.deeper (envOfC qual (defScope st) s.heap.objs.size f cdv)) → LSsM (cxOf CX0 P w K mg base N qual (defScope st) f cdv A outer s H E0).nox E (defBody st) wb)
    (hd : ∀ rs ms n Qd, argsIn rs → c rs ms n Qd → wb { nx := fun _ ms' n' => Qd (.d .none) ms' n', rt := fun r ms' n' => setM r fun r' => Qd r' ms' n' } (startD N rs) ms n) : DefM P w K mg base (k + 1) x ps c :=
  ⟨f, fd, fnm_mk F S hlen hbody hd, hm, F.kp, hb⟩
end
/-! ### calls -/
noncomputable def dCallM (c : DSpM) (wr : DAM) : DEM := fun ρ ms n Q => wr ρ ms n fun rs ms1 n1 => ∃ ma mb, ms1.Perm (ma ++ mb) ∧ argsIn rs ∧ c rs ma n1 fun r ma' n2 => Q r (ma' ++ mb) n2
section
variable {K : PySem.W.Frag} {E : Ent} {M EH : Hp} {n n1 : Nat} {B H B1 H1 : Hp} {bxs : List Addr} {σ : L2.St} {ρ : DEnv} {ma mb ma' : MS}
theorem MOk.left (h : MOk K EH bxs B H (ma ++ mb)) : MOk K (fun _ => none) bxs B H ma :=
  ⟨fun a ha => h.at_ a (by rw [adM_app]; exact List.mem_append_left _ ha), fun _ _ => rfl, fun m hm => h.rl m (List.mem_append_left _ hm), by
    have := h.nd
    rw [adM_app] at this
    exact (List.nodup_append.mp this).1⟩
theorem MX.after (h : MX K E M n B H bxs σ ρ (ma ++ mb)) (a : AftM K bxs ma ma' n n1 B H B1 H1) : MX K E M n1 B1 H1 bxs σ ρ (ma' ++ mb) := h.call a.st a.at_ a.rl a.nd a.fr
end
section
variable {X : Cx} {E : Ent} {k : Nat} {ps : List Str} {c : DSpM} {x : Str} {p pos : Pos} {e : Expr} {es : List Expr} {wr : DAM}
theorem call_inv {K : PySem.W.Frag} {E : Ent} {M : Hp} {n : Nat} {B H B0 : Hp} {bxs : List Addr} {σ : L2.St} {ρ : DEnv} {ms : MS} {rs : List RV} {vs : List V} {Qd : RV → MS → Nat → Prop} {Q : VK} (h : MX K E M n B H bxs σ ρ ms) (sb : Same B0 B) (vr : ValsR K bxs n B H rs vs)
    (hq : ∃ ma mb, ms.Perm (ma ++ mb) ∧ argsIn rs ∧ c rs ma n fun r ma' n2 => Qd r (ma' ++ mb) n2)
    (q : ∀ r ms1 n1 v B1 H1, Qd r ms1 n1 → MX K E M n1 B1 H1 bxs σ ρ ms1 → Same B0 B1 → ValR K bxs n1 B1 H1 r v → Q v H1) : liftM K c vs H Q E0 := by
  obtain ⟨ma, mb, pm, ai, hc⟩ := hq
  have h2 := h.perm pm
  exact ⟨rs, ma, n, B, bxs, _, h2.sv.g, vr, ai, h2.ok.left, hc, fun r ma' n2 v B2 H2 hq2 af vr2 => q _ _ _ _ _ _ hq2 (h2.after af) (sb.trans af.st.b1) vr2⟩
theorem lem_call (D : DefM X.prog X.w X.K X.mg X.base k x ps c) (hr : Here k X.A) (hg : Gl X x) (ha : LAM X E (e :: es) wr)
    (hdb : (x == ("__debug__" : Str)) = false := by decide) (he : starEach (e :: es) X.env = (false, eval e X.env) :: starEach es X.env := by rfl) (hpl : (backTo pos (starEach es X.env)).any (·.1) = false := by rfl) :
    LEM X E (.Call (.Name x p) (e :: es) [] pos) (dCallM c wr) := by
  obtain ⟨f, fd, F, hm, hk, hb⟩ := D.ex
  refine pe_imp (pe_g F hr.room hr.gd hg hm hk hb ha hdb he hpl) fun σ H Q hu => ?_
  obtain ⟨ρ, ms, n, B, M, bxs, Qd, h, w1, q⟩ := hu
  exact ⟨ρ, ms, n, B, M, bxs, _, h, w1, fun rs ms1 n1 vs B1 H1 hq h1 sb vr => call_inv h1 sb vr hq q⟩
end
end Dl

namespace Dl
open PySem PySem.Spec PyProof.Rows L2
/-! ### objects at one address: instances, lists, dicts; fields -/
noncomputable def ownM (a : Addr) (T : OwnT) : OwnM := ⟨[a], fun K B H => ∃ o, H a = some o ∧ T.rel K B a o, fun s h ⟨o, e, r⟩ => ⟨o, h _ (List.mem_singleton.mpr rfl) o e, T.mono s r⟩⟩
noncomputable def FlR (K : PySem.W.Frag) (B : Hp) : RV → V → Prop
  | .d x, v => Dp K B v x
  | .obj a, v => v = .ref a
  | _, _ => False
noncomputable def FlsR (K : PySem.W.Frag) (B : Hp) : List (Str × RV) → List (Str × V) → Prop
  | [], [] => True
  | (f, r) :: t, (g, v) :: u => f = g ∧ FlR K B r v ∧ FlsR K B t u
  | _, _ => False
noncomputable def putR (f : Str) (r : RV) : List (Str × RV) → List (Str × RV)
  | [] => [(f, r)]
  | (g, x) :: t => if g = f then (g, r) :: t else (g, x) :: putR f r t
theorem FlR.mono {K : PySem.W.Frag} {B B' : Hp} (s : Same B B') {r : RV} {v : V} (h : FlR K B r v) : FlR K B' r v := by
  cases r with
  | d x => exact dpSame s _ _ h
  | obj a => exact h
  | new x => exact h.elim
  | bor x => exact h.elim
  | box => exact h.elim
  | nbox => exact h.elim
  | own T => exact h.elim
theorem FlsR.mono {K : PySem.W.Frag} {B B' : Hp} (s : Same B B') : ∀ {fs : List (Str × RV)} {vs : List (Str × V)}, FlsR K B fs vs → FlsR K B' fs vs
  | [], [], _ => trivial
  | (_, _) :: _, (_, _) :: _, h => ⟨h.1, h.2.1.mono s, FlsR.mono s h.2.2⟩
  | [], _ :: _, h => h.elim
  | _ :: _, [], h => h.elim
theorem FlsR.look {K : PySem.W.Frag} {B : Hp} (f : Str) : ∀ {fs : List (Str × RV)} {vs : List (Str × V)}, FlsR K B fs vs → match fs.lookup f with | some r => ∃ v, vs.lookup f = some v ∧ FlR K B r v | none => vs.lookup f = none
  | [], [], _ => rfl
  | (g, r) :: t, (g', v) :: u, h => by
    obtain ⟨e, h1, h2⟩ := h
    subst e
    have ih := FlsR.look f h2
    rw [List.lookup_cons, List.lookup_cons]
    by_cases c : (f == g) = true
    · rw [c]
      exact ⟨v, rfl, h1⟩
    · rw [Bool.not_eq_true] at c
      rw [c]
      exact ih
  | [], _ :: _, h => h.elim
  | _ :: _, [], h => h.elim
theorem FlsR.put {K : PySem.W.Frag} {B : Hp} (f : Str) {r : RV} {v : V} (hr : FlR K B r v) : ∀ {fs : List (Str × RV)} {vs : List (Str × V)}, FlsR K B fs vs → FlsR K B (putR f r fs) (putF f v vs)
  | [], [], _ => ⟨rfl, hr, trivial⟩
  | (g, x) :: t, (g', y) :: u, h => by
    obtain ⟨e, h1, h2⟩ := h
    subst e
    unfold putR putF
    by_cases c : g = f
    · rw [if_pos c, if_pos c]
      exact ⟨rfl, hr, h2⟩
    · rw [if_neg c, if_neg c]
      exact ⟨rfl, h1, FlsR.put f hr h2⟩
  | [], _ :: _, h => h.elim
  | _ :: _, [], h => h.elim
theorem FlsR.length {K : PySem.W.Frag} {B : Hp} : ∀ {fs : List (Str × RV)} {vs : List (Str × V)}, FlsR K B fs vs → vs.length = fs.length
  | [], [], _ => rfl
  | (_, _) :: _, (_, _) :: _, h => by rw [List.length_cons, List.length_cons, FlsR.length h.2.2]
  | [], _ :: _, h => h.elim
  | _ :: _, [], h => h.elim
/-- an instance -/
noncomputable def insO (C dx : Addr) (fs : List (Str × RV)) : OwnT where
  rel := fun K B _ o => ∃ vs, o = .ins C dx vs ∧ FlsR K B fs vs
  mono := fun s ⟨vs, e, h⟩ => ⟨vs, e, h.mono s⟩
/-- a list -/
noncomputable def listO (xs : List PyData) : OwnT where
  rel := fun K B _ o => ∃ vs, o = .lst vs ∧ DpAll K B vs xs
  mono := fun s ⟨vs, e, h⟩ => ⟨vs, e, dpSameAll s _ _ h⟩
section
variable {K : PySem.W.Frag} {E : Ent} {M : Hp} {n : Nat} {B H : Hp} {bxs : List Addr} {σ : L2.St} {ρ : DEnv} {ms mr : MS} {a : Addr} {T T' : OwnT} {o : HO}
theorem adM_own : adM [ownM a T] = [a] := rfl
theorem adM_cons {m : OwnM} : adM (m :: ms) = m.as ++ adM ms := List.flatMap_cons
theorem MX.get (h : MX K E M n B H bxs σ ρ ms) (hm : ownM a T ∈ ms) : ∃ o, H a = some o ∧ T.rel K B a o ∧ a ∉ bxs ∧ B a = none := by
  obtain ⟨o, e, r⟩ := h.ok.rl _ hm
  obtain ⟨a1, a2, _⟩ := h.ok.at_ a (in_adM hm (List.mem_singleton.mpr rfl))
  exact ⟨o, e, r, a1, a2⟩
/-- a new thing is laid -/
theorem mx_lay (h : MX K E M n B H bxs σ ρ mr) (ha : H a = none) (r : T.rel K B a o) : MX K E M n B (upd H a o) bxs σ ρ (ownM a T :: mr) := by
  have fb := freshB h.sv.g ha
  have h2 : MX K E M n B H bxs σ ρ ([] ++ mr) := h
  refine h2.call (ma' := [ownM a T]) ⟨Same.refl _, fun b u q => ?_, fun b _ _ => rfl, fun b u _ nb q => ?_, fun b hb => ?_, Nat.le_refl _⟩ (fun b hb => ?_) (fun m hm => ?_) (by rw [adM_own]; exact List.nodup_cons.mpr ⟨List.not_mem_nil, List.nodup_nil⟩) (fun b hb => ?_)
  · rw [upd_ne (ne_of_none q fb.2)]
    exact h.sv.g.sub b u q
  · rw [upd_ne (ne_of_none q ha)]
    exact q
  · exact ((h.sv.g.box b hb).2).keep fun o e => by
      rw [upd_ne (show b ≠ a from fun z => fb.1 (by rw [← z]; exact hb))]
      exact e
  · rw [adM_own] at hb
    cases List.mem_singleton.mp hb
    exact ⟨fb.1, fb.2, by rw [upd_same]; exact fun z => nomatch z⟩
  · cases List.mem_singleton.mp hm
    exact ⟨o, upd_same, r⟩
  · rw [adM_own] at hb
    cases List.mem_singleton.mp hb
    exact .inr ha
end
end Dl

namespace Dl
open PySem PySem.Spec PyProof.Rows L2
/-! ### specials of a class, with guards -/
structure SpcO (K : PySem.W.Frag) (C : Addr) (m : Str) (g : Addr) : Prop where
  at_ : PySem.W.findIn K (.ref C) m = some (some (.ref g))
  fn : PySem.W.isFn K (.ref g) = true
  fi : PySem.W.fnIn K g = true
section
variable {X : Cx} {k : Nat} {C f g : Addr} {fd : FuncData} {ps : List Str} {sp : Sp} {x m : Str} {p pos apos : Pos} {e o a b : Expr} {es : List Expr} {ta tb : TE} {t : TA}
end
/-! ### a dict's len and in -/
section
variable {X : Cx} {pins : List (Addr × Obj)} {σ : L2.St} {H : Hp} {s : Shared} {a : Addr} {fl : Bool} {l : List (CK × V × V)} {A : Around} {E : Value → Shared → Prop} {k : CK} {y z : V} {u r : Value}
end
end Dl

namespace Dl
open PySem PySem.Spec PyProof.Rows L2
/-! ### fields, methods, specials: read over objects -/
noncomputable def InsAt (C : Addr) (a : Addr) (ms : MS) (F : List (Str × RV) → Prop) : Prop := ∃ dx fs, ownM a (insO C dx fs) ∈ ms ∧ F fs
noncomputable def dFldM (C : Addr) (f : Str) (wo : DEM) : DEM := fun ρ ms n Q => wo ρ ms n fun r ms1 n1 => ∃ a, r = .obj a ∧ InsAt C a ms1 fun fs => ∃ r', fs.lookup f = some r' ∧ Q r' ms1 n1
noncomputable def splitM (ms : MS) (F : MS → MS → Prop) : Prop := ∃ ma mb, ms.Perm (ma ++ mb) ∧ F ma mb
noncomputable def dMethM (C : Addr) (m : Str) (c : DSpM) (wo : DEM) (wr : DAM) : DEM := fun ρ ms n Q => wo ρ ms n fun r ms1 n1 => ∃ a, r = .obj a ∧ InsAt C a ms1 fun fs => fs.lookup m = none ∧ wr ρ ms1 n1 fun rs ms2 n2 => argsIn rs ∧ splitM ms2 fun ma mb => c (.obj a :: rs) ma n2 fun r2 ma' n3 => Q r2 (ma' ++ mb) n3
noncomputable def dMeth0M (C : Addr) (m : Str) (c : DSpM) (wo : DEM) : DEM := fun ρ ms n Q => wo ρ ms n fun r ms1 n1 => ∃ a, r = .obj a ∧ InsAt C a ms1 fun fs => fs.lookup m = none ∧ splitM ms1 fun ma mb => c [.obj a] ma n1 fun r2 ma' n3 => Q r2 (ma' ++ mb) n3
noncomputable def dPropM (C : Addr) (c : DSpM) (wo : DEM) : DEM := fun ρ ms n Q => wo ρ ms n fun r ms1 n1 => ∃ a, r = .obj a ∧ InsAt C a ms1 fun _ => splitM ms1 fun ma mb => c [.obj a] ma n1 fun r2 ma' n3 => Q r2 (ma' ++ mb) n3
noncomputable def dMakeM (C : Addr) (c : DSpM) (wr : DAM) : DEM := fun ρ ms n Q => wr ρ ms n fun rs ms1 n1 => argsIn rs ∧ ∀ a dx, splitM ms1 fun ma mb => c (.obj a :: rs) (ownM a (insO C dx []) :: ma) n1 fun r ma' n2 => r = .d .none ∧ Q (.obj a) (ma' ++ mb) n2
noncomputable def dCallOM (C : Addr) (c : DSpM) (wo : DEM) (wr : DAM) : DEM := fun ρ ms n Q => wo ρ ms n fun r ms1 n1 => ∃ a, r = .obj a ∧ wr ρ ms1 n1 fun rs ms2 n2 => InsAt C a ms2 fun _ => argsIn rs ∧ splitM ms2 fun ma mb => c (.obj a :: rs) ma n2 fun r2 ma' n3 => Q r2 (ma' ++ mb) n3
/-- two things, the first stays as it is -/
noncomputable abbrev DBM := RV → RV → MS → Nat → (RV → MS → Nat → Prop) → Prop
noncomputable def dBinM (w : DBM) (wa wb : DEM) : DEM := fun ρ ms n Q => wa ρ ms n fun r1 ms1 n1 => stM r1 fun x => wb ρ ms1 n1 fun y ms2 n2 => w x y ms2 n2 Q
noncomputable def wInO (C : Addr) (c : DSpM) : DBM := fun x y ms n Q => argIn x ∧ ∃ a, y = .obj a ∧ InsAt C a ms fun _ => splitM ms fun ma mb => c [.obj a, x] ma n fun r ma' n1 => onB r fun b => Q (.d (.bool b)) (ma' ++ mb) n1
noncomputable def wNotInO (C : Addr) (c : DSpM) : DBM := fun x y ms n Q => wInO C c x y ms n fun r ms1 n1 => onB r fun b => Q (.d (.bool (!b))) ms1 n1
noncomputable def wIxO (C : Addr) (c : DSpM) : DBM := fun x y ms n Q => argIn y ∧ ∃ a, x = .obj a ∧ InsAt C a ms fun _ => splitM ms fun ma mb => c [.obj a, y] ma n fun r ma' n1 => Q r (ma' ++ mb) n1
noncomputable def DicAt (P : Program) (w : World) (a : Addr) (ms : MS) (F : Bool → AL → Prop) : Prop := ∃ fl al, ownM a (dictL P w fl al) ∈ ms ∧ F fl al
noncomputable def wInD (P : Program) (w : World) : DBM := fun x y ms n Q => ∃ a, y = .obj a ∧ DicAt P w a ms fun fl al => ∃ k, x = .d (ckD k) ∧ ckOk fl k ∧ Q (.d (.bool (lookA al k).isSome)) ms n
noncomputable def wIxD (P : Program) (w : World) : DBM := fun x y ms n Q => ∃ a, x = .obj a ∧ DicAt P w a ms fun fl al => ∃ k z, y = .d (ckD k) ∧ ckOk fl k ∧ lookA al k = some z ∧ Q (.d z) ms n
noncomputable def dLenOM (C : Addr) (c : DSpM) (wo : DEM) : DEM := fun ρ ms n Q => wo ρ ms n fun r ms1 n1 => ∃ a, r = .obj a ∧ InsAt C a ms1 fun _ => splitM ms1 fun ma mb => c [.obj a] ma n1 fun r2 ma' n3 => onI r2 fun i => 0 ≤ i ∧ i < 2 ^ 63 ∧ Q (.d (.int i)) (ma' ++ mb) n3
noncomputable def dLenDM (P : Program) (w : World) (wo : DEM) : DEM := fun ρ ms n Q => wo ρ ms n fun r ms1 n1 => ∃ a, r = .obj a ∧ DicAt P w a ms1 fun _ al => Q (.d (.int (al.length : Int))) ms1 n1
noncomputable def dGetDM (P : Program) (w : World) (wo wk wx : DEM) : DEM := fun ρ ms n Q => wo ρ ms n fun r ms1 n1 => ∃ a, r = .obj a ∧ DicAt P w a ms1 fun fl al => wk ρ ms1 n1 fun rk ms2 n2 => ∃ k, rk = .d (ckD k) ∧ ckOk fl k ∧ wx ρ ms2 n2 fun rx ms3 n3 => onD rx fun y => ownM a (dictL P w fl al) ∈ ms3 ∧ Q (.d ((lookA al k).getD y)) ms3 n3
noncomputable def dAppM (wo we : DEM) : DEM := fun ρ ms n Q => wo ρ ms n fun r ms1 n1 => ∃ a xs, r = .obj a ∧ ownM a (listO xs) ∈ ms1 ∧ we ρ ms1 n1 fun re ms2 n2 => onD re fun y => ∃ mr, ms2.Perm (ownM a (listO xs) :: mr) ∧ xs.length < sizeLine ∧ Q (.d .none) (ownM a (listO (xs ++ [y])) :: mr) n2
/-- a def of plain things, called with what was read over objects -/
noncomputable def dPlainM (c : DSp) (wr : DAM) : DEM := fun ρ ms n Q => wr ρ ms n fun rs ms1 n1 => argsIn rs ∧ c rs n1 fun r n2 => okM r fun r' => Q r' ms1 n2
/-- a method, as its callers see it -/
structure MethM (P : Program) (w : World) (K : PySem.W.Frag) (mg : Str → Option Value) (base : Heap) (k : Nat) (C : Addr) (m : Str) (ps : List Str) (c : DSpM) : Prop where
  ex : ∃ (f : Addr) (fd : FuncData), FnG P w K mg base k f fd ps (liftM K c) ∧ Meth K C m f ∧ Binds K fd ps []
structure SpecM (P : Program) (w : World) (K : PySem.W.Frag) (mg : Str → Option Value) (base : Heap) (k : Nat) (C : Addr) (m : Str) (ps : List Str) (c : DSpM) : Prop where
  ex : ∃ (f : Addr) (fd : FuncData), FnG P w K mg base k f fd ps (liftM K c) ∧ SpcO K C m f ∧ Binds K fd ps []
structure PropM (P : Program) (w : World) (K : PySem.W.Frag) (mg : Str → Option Value) (base : Heap) (k : Nat) (C : Addr) (m : Str) (ps : List Str) (c : DSpM) : Prop where
  ex : ∃ (p f : Addr) (fd : FuncData), FnG P w K mg base k f fd ps (liftM K c) ∧ PropOf K C m p f ∧ Binds K fd ps []
structure MakeM (P : Program) (w : World) (K : PySem.W.Frag) (mg : Str → Option Value) (base : Heap) (k : Nat) (C : Addr) (x : Str) (ps : List Str) (c : DSpM) : Prop where
  ex : ∃ (f : Addr) (fd : FuncData), FnG P w K mg base k f fd ps (liftM K c) ∧ Mk K C f ∧ Binds K fd ps []
  mg : mg x = some (.ref C)
section
variable {K : PySem.W.Frag} {E : Ent} {M EH : Hp} {n n1 : Nat} {B H B1 H1 : Hp} {bxs : List Addr} {σ : L2.St} {ρ : DEnv} {ms ma mb ma' : MS} {a C : Addr}
theorem MX.ins {F : List (Str × RV) → Prop} (h : MX K E M n B H bxs σ ρ ms) (hi : InsAt C a ms F) : ∃ dx fs vs, F fs ∧ H a = some (.ins C dx vs) ∧ FlsR K B fs vs := by
  obtain ⟨dx, fs, hm, hf⟩ := hi
  obtain ⟨o, e, ⟨vs, rfl, fl⟩, _⟩ := h.get hm
  exact ⟨dx, fs, vs, hf, e, fl⟩
theorem MX.dic {P : Program} {w : World} {fl : Bool} {al : AL} (h : MX K E M n B H bxs σ ρ ms) (hi : ownM a (dictL P w fl al) ∈ ms) : ∃ l, H a = some (dO P w fl a l) ∧ RelA K B l al ∧ KeysIn K H l := by
  obtain ⟨o, e, ⟨l, rfl, rl⟩, _⟩ := h.get hi
  exact ⟨l, e, rl, rl.keysIn h.sv.g.sub⟩
theorem FlR.val {r : RV} {v : V} (h : FlR K B r v) : ValR K bxs n B H r v := by
  cases r with
  | d x => exact h
  | obj a => exact h
  | new x => exact h.elim
  | bor x => exact h.elim
  | box => exact h.elim
  | nbox => exact h.elim
  | own T => exact h.elim
end
section
variable {X : Cx} {E : Ent} {a b e o : Expr} {es : List Expr} {wa wb wo we wk wx : DEM} {wr : DAM} {C : Addr} {f m x : Str} {k : Nat} {ps : List Str} {c : DSpM} {p pos apos cpos : Pos}
/-! ### dicts and lists as objects -/
/-! ### a plain def -/
end
end Dl

namespace Dl
open PySem PySem.Spec PyProof.Rows L2
/-! ### statements that write fields; a list in a field, read as data for a while -/
mutual
noncomputable def noLst : PyData → Prop
  | .list _ => False
  | .dict _ => False
  | .tuple ds => noLsts ds
  | _ => True
noncomputable def noLsts : List PyData → Prop
  | [] => True
  | d :: ds => noLst d ∧ noLsts ds
end
noncomputable def delB (B : Hp) (a : Addr) : Hp := fun b => if b = a then none else B b
theorem seqT_less {K : PySem.W.Frag} {B : Hp} {st a : Addr} {vs xs : List V} (e : B st = some (.lst vs)) (h : SqT K B a xs) : SqT K (delB B st) a xs := by
  have ne : ∀ {u : HO}, B a = some u → (∀ ys, u ≠ .lst ys) → delB B st a = some u := fun {u} q n => by
    unfold delB
    rw [if_neg]
    · exact q
    · intro z
      subst z
      rw [e] at q
      cases q
      exact n _ rfl
  rcases h with (h | ⟨o, h⟩) | h
  · exact .inl (.inl (ne h fun _ z => nomatch z))
  · exact .inl (.inr ⟨o, ne h fun _ z => nomatch z⟩)
  · exact .inr h
mutual
theorem Dp.less {K : PySem.W.Frag} {B : Hp} {st : Addr} {vs : List V} (e : B st = some (.lst vs)) : ∀ {v : V} {x : PyData}, Dp K B v x → noLst x → Dp K (delB B st) v x
  | _, _, .non, _ => .non
  | _, _, .bl b, _ => .bl b
  | _, _, .int i, _ => .int i
  | _, _, .str s, _ => .str s
  | _, _, .lst h1 h2, n => by unfold noLst at n; exact n.elim
  | _, _, .tup h1 h2, n => .tup (seqT_less e h1) (DpAll.less e h2 (by unfold noLst at n; exact n))
  | _, _, .dic h1 h2 h3, n => by unfold noLst at n; exact n.elim
theorem DpAll.less {K : PySem.W.Frag} {B : Hp} {st : Addr} {vs : List V} (e : B st = some (.lst vs)) : ∀ {us : List V} {xs : List PyData}, DpAll K B us xs → noLsts xs → DpAll K (delB B st) us xs
  | _, _, .nil, _ => .nil
  | _, _, .cons h1 h2, n => by unfold noLsts at n; exact .cons (Dp.less e h1 n.1) (DpAll.less e h2 n.2)
end
noncomputable def lendT (C : Addr) (f : Str) (xs : List PyData) : OwnT where
  rel := fun K B a o => ∃ dx fs v, o = .ins C dx fs ∧ fs.lookup f = some v ∧ Dp K B v (.list xs)
  mono := fun s ⟨dx, fs, v, e, l, h⟩ => ⟨dx, fs, v, e, l, dpSame s _ _ h⟩
noncomputable def dLendM (C : Addr) (i : Nat) (f : Str) (w : DE) : DEM := fun ρ ms n Q => ∃ p st xs, ρ[i]? = some (some (.obj p)) ∧ InsAt C p ms (fun fs => fs.lookup f = some (.obj st)) ∧ ownM st (listO xs) ∈ ms ∧
  w (ρ.set i (some (.own (lendT C f xs)))) n fun r n1 => onD r fun x => noLst x ∧ Q (.d x) ms n1
noncomputable def dSetFldM (C : Addr) (f : Str) (wo we : DEM) : DSM := fun D ρ ms n => we ρ ms n fun r ms1 n1 => setM r fun r' => wo ρ ms1 n1 fun ro ms2 n2 => ∃ a dx fs mr, ro = .obj a ∧ ms2.Perm (ownM a (insO C dx fs) :: mr) ∧ fs.length < 1000 ∧ D.nx ρ (ownM a (insO C dx (putR f r' fs)) :: mr) n2
noncomputable def dSetFld2M (C1 C2 : Addr) (f1 f2 : Str) (wo1 wo2 wa wb : DEM) : DSM := fun D ρ ms n => wa ρ ms n fun r1 ms1 n1 => stM r1 fun s1 => wb ρ ms1 n1 fun r2 ms2 n2 => setM s1 fun s1' => setM r2 fun s2' =>
  wo1 ρ ms2 n2 fun ro ms3 n3 => ∃ a dx fs mr, ro = .obj a ∧ ms3.Perm (ownM a (insO C1 dx fs) :: mr) ∧ fs.length < 1000 ∧
    wo2 ρ (ownM a (insO C1 dx (putR f1 s1' fs)) :: mr) n3 fun ro2 ms4 n4 => ∃ a2 dx2 fs2 mr2, ro2 = .obj a2 ∧ ms4.Perm (ownM a2 (insO C2 dx2 fs2) :: mr2) ∧ fs2.length < 1000 ∧ D.nx ρ (ownM a2 (insO C2 dx2 (putR f2 s2' fs2)) :: mr2) n4
noncomputable def dNewLM : DEM := fun _ ms n Q => ∀ a, Q (.obj a) (ownM a (listO []) :: ms) n
noncomputable def dPar2M (i j : Nat) (wa wb : DEM) : DSM := fun D ρ ms n => wa ρ ms n fun r1 ms1 n1 => stM r1 fun s1 => wb ρ ms1 n1 fun r2 ms2 n2 => setM s1 fun s1' => setM r2 fun s2' => D.nx ((ρ.set i (some s1')).set j (some s2')) ms2 n2
section
variable {X : Cx} {E : Ent} {o o2 e ea eb : Expr} {wo wo2 we wa wb : DEM} {w : DE} {C C1 C2 : Addr} {f f1 f2 x y : Str} {pos pos' p1 p2 pt px py : Pos} {kt k2 : Nat} {pt2 : Pos}
end
end Dl

namespace Dl
open PySem PySem.Spec PyProof.Rows L2
/-! ### some objects set aside; comprehensions over objects; match; more expressions -/
section
variable {K : PySem.W.Frag} {E : Ent} {M : Hp} {n n1 : Nat} {B H B1 H1 : Hp} {bxs : List Addr} {σ σ2 : L2.St} {ρ ρ2 : DEnv} {ms ma mb : MS} {a : Addr}
theorem MX.left (h : MX K E M n B H bxs σ ρ (ma ++ mb)) : MX K E M n B H bxs σ ρ ma := by
  have sub : ∀ x ∈ adM ma, x ∈ adM (ma ++ mb) := fun x hx => by rw [adM_app]; exact List.mem_append_left _ hx
  refine ⟨h.sv, ⟨fun x hx => h.ok.at_ x (sub x hx), fun x hx => h.ok.en x (sub x hx), fun m hm => h.ok.rl m (List.mem_append_left _ hm), ?_⟩, fun x hx => h.ow x (sub x hx)⟩
  have := h.ok.nd
  rw [adM_app] at this
  exact (List.nodup_append.mp this).1
theorem MX.drop1 (h : MX K E M n B H bxs σ ρ (ma ++ mb)) : MX K E M n B H bxs σ ρ mb := (h.perm List.perm_append_comm).left
theorem MX.wipe (h : MX K E M n B H bxs σ ρ ms) (vs : List Nat) : MX K E M n B H bxs (wipe σ vs) (wipeD ρ vs) ms := by
  have back : ∀ {i : Nat} {r : RV} {v : Option (Option V)}, (wipeD ρ vs)[i]? = some (some r) → (L2.wipe σ vs)[i]? = v → ρ[i]? = some (some r) ∧ σ[i]? = v := fun {i r v} h1 h2 => by
    obtain ⟨a1, a2⟩ := wipeD_some h1
    rw [wipe_get, if_neg a2] at h2
    exact ⟨a1, h2⟩
  refine ⟨⟨h.sv.st, h.sv.mb, h.sv.g, h.sv.bs, h.sv.sup, h.sv.env.wipe vs, fun i r p h1 o h2 => ?_⟩, h.ok, fun x hx i r h1 o h2 => ?_⟩
  · obtain ⟨a1, a2⟩ := back h1 h2
    exact h.sv.ow i r p a1 o a2
  · obtain ⟨a1, a2⟩ := back h1 h2
    exact h.ow x hx i r a1 o a2
end
noncomputable def dYesM : DTM := fun _ ms n Q => Q true ms n
section
variable {X : Cx} {E : Ent} {elt tg iter : Expr} {ifs : List Expr} {scope : Scope} {own : List (Str × Nat)} {us : List Nat} {pos spos : Pos} {wi : DI} {wg : DG} {tt : DTM} {we : DEM}
end
end Dl

namespace Dl
open PySem PySem.Spec PyProof.Rows L2
/-! ### match, and the rest of the expressions over objects -/
structure PMs (X : Cx) (cs : List MatchCase) (t : V → TS) : Prop where
  run : ∀ (pins : List (Addr × Obj)) (s : Shared) (σ : L2.St) (H : Hp) (D : Ends) (x : V) (v : Value) (first : Bool), Inv X pins σ H s → RelV x v → t x D σ H → wpAny (model X.prog X.w) X.A (matchCases cs X.env v first) (SP X pins D) X.xe s
section
variable {X : Cx} {e : Expr} {te : TE} {cs rest : List MatchCase} {t : V → TS} {body : List Stmt} {w : TS} {k : Str} {pos p1 p2 : Pos} {j : Nat}
end
noncomputable def dMatchM (we : DEM) (w : Str → DSM) : DSM := fun D ρ ms n => we ρ ms n fun r ms1 n1 => ∃ z, r = .d (.str z) ∧ w z D ρ ms1 n1
noncomputable def wCaseM (k : Str) (u : DSM) (w : Str → DSM) : Str → DSM := fun z D ρ ms n => if z = k then u D ρ ms n else w z D ρ ms n
noncomputable def dNeverM : DSM := fun _ _ _ _ => False
noncomputable def dCBM (w : DCall) (wr : DAM) : DEM := fun ρ ms n Q => wr ρ ms n fun rs ms1 n1 => onO (views rs) fun xs => w xs fun r => okM r fun r' => Q r' ms1 n1
noncomputable def dAndVM (wa wb : DEM) : DEM := fun ρ ms n Q => wa ρ ms n fun r ms1 n1 => onB r fun b => if b = true then wb ρ ms1 n1 Q else Q (.d (.bool false)) ms1 n1
noncomputable def dOrVM (wa wb : DEM) : DEM := fun ρ ms n Q => wa ρ ms n fun r ms1 n1 => onB r fun b => if b = true then Q (.d (.bool true)) ms1 n1 else wb ρ ms1 n1 Q
noncomputable def dNotVM (wa : DEM) : DEM := fun ρ ms n Q => wa ρ ms n fun r ms1 n1 => onB r fun b => Q (.d (.bool (!b))) ms1 n1
noncomputable def dMake0M (C : Addr) (c : DSpM) : DEM := fun _ ms n Q => ∀ a dx, splitM ms fun ma mb => c [.obj a] (ownM a (insO C dx []) :: ma) n fun r ma' n2 => r = .d .none ∧ Q (.obj a) (ma' ++ mb) n2
section
variable {X : Cx} {E : Ent} {a b e : Expr} {es rest2 : List Expr} {cs rest : List MatchCase} {body : List Stmt} {st : Stmt} {wa wb we : DEM} {wr : DAM} {u : DSM} {w : Str → DSM} {k : Str} {pos p p1 p2 : Pos} {j : Nat} {x : Str}
theorem up_cbM {K : PySem.W.Frag} {w : DCall} {r : List V → Hp → VK → Prop} (h : ∀ (bxs : List Addr) (n : Nat) (B H : Hp) (xs : List PyData) (vs : List V) (Qd : RV → Prop) (Q : VK), Good bxs n B H → DpVs K B H vs xs → w xs Qd →
    (∀ res v' B1 H1, Qd res → Step bxs n n B H B1 H1 → ValR K bxs n B1 H1 res v' → FrR H res v' → Q v' H1) → r vs H Q) (σ : L2.St) (H : Hp) (Q : VK) (hu : upM K E (dCBM w wr) σ H Q) : tCB r (upAM K E wr) σ H Q := by
  obtain ⟨ρ, ms, n, B, M, bxs, Qd, h0, w1, q⟩ := hu
  refine ⟨ρ, ms, n, B, M, bxs, _, h0, w1, fun rs ms1 n1 vs B1 H1 hq h1 sb vr => ?_⟩
  obtain ⟨xs, ex, hq⟩ := onO_ex hq
  refine h bxs n1 B1 H1 xs vs _ Q h1.sv.g (views_r _ _ _ vr ex) hq fun res v' B2 H2 hq s2 vr2 f2 => ?_
  obtain ⟨r', B3, hf, h3, sb3, vr3⟩ := okM_inv h1 s2 vr2 f2 hq
  exact q _ _ _ _ _ _ hf h3 (sb.trans sb3) vr3
theorem lem_callB {id : String} {w : DCall} (hc : LCall X (.builtin id) w) (hg : Gl X x) (hm : X.mg x = none) (hv : bootBuiltins x = some (.builtin id)) (ha : LAM X E (e :: es) wr) (hn : x ≠ "__name__" := by decide) (hdb : (x == ("__debug__" : Str)) = false := by decide)
    (he : starEach (e :: es) X.env = (false, eval e X.env) :: starEach es X.env := by rfl) (hpl : (backTo pos (starEach es X.env)).any (·.1) = false := by rfl) : LEM X E (.Call (.Name x p) (e :: es) [] pos) (dCBM w wr) := by
  obtain ⟨r, h1, h2⟩ := hc
  exact pe_imp (pe_callB h1 hg hm hv ha hn hdb he hpl) (up_cbM h2)
end
section
variable {X : Cx} {k : Nat} {C f : Addr} {fd : FuncData} {ps : List Str} {sp : Sp} {x : Str} {p pos : Pos} {E : Ent} {c : DSpM}
end
end Dl

namespace Dl
open PySem PySem.Spec PyProof.Rows L2
/-! ### own things become objects and back; plain promises of bodies over objects -/
section
variable {K : PySem.W.Frag} {E : Ent} {M : Hp} {n : Nat} {B H : Hp} {bxs : List Addr} {σ : L2.St} {ρ : DEnv} {ms mr : MS} {a : Addr} {T : OwnT} {i : Nat}
theorem mx_adopt (h : MX K E M n B H bxs σ ρ (ownM a T :: mr)) (hi : ρ[i]? = some (some (.obj a))) : MX K E M n B H bxs σ (ρ.set i (some (.own T))) mr := by
  obtain ⟨o, ea, hr, a1, a2⟩ := h.get (List.mem_cons_self)
  have ain : a ∈ adM (ownM a T :: mr) := in_adM List.mem_cons_self (List.mem_singleton.mpr rfl)
  have h2 : MX K E M n B H bxs σ ρ ([ownM a T] ++ mr) := h
  have h3 := h2.drop1
  have il : i < ρ.length := (List.getElem?_eq_some_iff.mp hi).1
  obtain ⟨v, hv, ev⟩ := h.sv.env.val i _ hi
  have ev : v = .ref a := ev
  subst ev
  have nin : a ∉ adM mr := fun z => by
    have := h.ok.nd
    rw [adM_cons] at this
    exact (List.nodup_append.mp this).2.2 a (List.mem_singleton.mpr rfl) a z rfl
  have get : ∀ {j : Nat} {r : RV}, (ρ.set i (some (.own T)))[j]? = some (some r) → (i = j ∧ r = .own T) ∨ (i ≠ j ∧ ρ[j]? = some (some r)) := fun {j r} hj => by
    by_cases c : i = j
    · subst c
      rw [List.getElem?_set_self il] at hj
      cases hj
      exact .inl ⟨rfl, rfl⟩
    · rw [List.getElem?_set_ne c] at hj
      exact .inr ⟨c, hj⟩
  refine ⟨⟨h.sv.st, h.sv.mb, h.sv.g, h.sv.bs, h.sv.sup, ⟨by rw [List.length_set]; exact h.sv.env.len, fun j r hj => ?_, fun j k r r' q h1 h2 o1 o2 h3 h4 => ?_, fun j r hj => ?_⟩, fun j r q h1 o h2 => ?_⟩, h3.ok, fun x hx j r h1 o h2 => ?_⟩
  · rcases get hj with ⟨c, rfl⟩ | ⟨c, hj⟩
    · subst c
      exact ⟨_, hv, a, o, rfl, a1, a2, ea, hr⟩
    · exact h.sv.env.val j r hj
  · rcases get h1 with ⟨c, rfl⟩ | ⟨c, h1⟩
    · rcases get h2 with ⟨c2, rfl⟩ | ⟨c2, h2⟩
      · rw [← c, c2]
      · subst c
        rw [hv] at h3
        cases h3
        exact (h.ow a ain k r' h2 o2 h4).elim
    · rcases get h2 with ⟨c2, rfl⟩ | ⟨c2, h2⟩
      · subst c2
        rw [hv] at h4
        cases h4
        exact (h.ow a ain j r h1 o1 h3).elim
      · exact h.sv.env.own j k r r' q h1 h2 o1 o2 h3 h4
  · rcases get hj with ⟨c, rfl⟩ | ⟨c, hj⟩
    · trivial
    · exact h.sv.env.ok j r hj
  · rcases get h1 with ⟨c, rfl⟩ | ⟨c, h1⟩
    · subst c
      rw [hv] at h2
      cases h2
      exact h.ok.en a ain
    · exact h.sv.ow j r q h1 o h2
  · rcases get h1 with ⟨c, rfl⟩ | ⟨c, h1⟩
    · subst c
      rw [hv] at h2
      cases h2
      exact nin hx
    · exact h3.ow x hx j r h1 o h2
end
noncomputable def dLendS (i : Nat) (w : DSM) : DSM := fun D ρ ms n => ∃ T, ρ[i]? = some (some (.own T)) ∧ ∀ a, w D (ρ.set i (some (.obj a))) (ownM a T :: ms) n
noncomputable def dAdoptS (i : Nat) (w : DSM) : DSM := fun D ρ ms n => ∃ a T mr, ρ[i]? = some (some (.obj a)) ∧ ms.Perm (ownM a T :: mr) ∧ w D (ρ.set i (some (.own T))) mr n
noncomputable def dFrzM (i : Nat) (w : DSM) : DSM := fun D ρ ms n => onS ρ[i]? fun xs => w D (ρ.set i (some (.d (.list xs)))) ms n
section
variable {X : Cx} {E : Ent} {sts : List Stmt} {w : DSM}
end
section
variable {P : Program} {w : World} {K : PySem.W.Frag} {mg : Str → Option Value} {base : Heap}
theorem fng_mkM {x qual : Str} {st : Stmt} {f : Addr} {fd : FuncData} {N ps : List Str} {k : Nat} {c : DSp} {wb : DSM} (F : Fun K x qual st f fd) (S : FnScope N ps (defScope st))
    (hlen : ∀ rs n Q, c rs n Q → rs.length = ps.length)
    (hbody : ∀ (cdv : Value) (A : Around) (outer : List Env) (s : Shared) (H : Hp) (E : Ent), Here k (A.deeper (envOfC qual (defScope st) s.heap.objs.size f cdv)) → LSsM (cxOf CX0 P w K mg base N qual (defScope st) f cdv A outer s H E0).nox E (defBody st) wb)
    (hd : ∀ rs n Qd, argsIn rs → c rs n Qd → wb { nx := fun _ _ n' => Qd (.d .none) n', rt := fun r _ n' => onD r fun x => Qd (.d x) n' } (startD N rs) [] n) : FnG P w K mg base (k + 1) f fd ps (lift K c) := by
  refine fng_of F S (fun vs H Q E h => ?_) (fun cdv A outer s H vs Q hr hg h => ?_)
  · obtain ⟨rs, n, B, bxs, Qd, g, vr, ai, hc, q⟩ := h
    rw [← vals_len vr]
    exact hlen _ _ _ hc
  · obtain ⟨rs, n, B, bxs, Qd, g, vr, ai, hc, q⟩ := h
    have hl := vals_len vr
    refine ⟨_, hbody cdv A outer s H ⟨B, H, bxs, n⟩ ⟨hr, hg⟩, ?_⟩
    refine ⟨startD N rs, [], n, B, B, bxs, _, ⟨⟨g.refl, Same.refl _, g, fun b hb => .inl hb, fun b hb => hb, ⟨?_, ?_, ?_, ?_⟩, ?_⟩, ⟨fun _ h => (by cases h), fun _ h => (by cases h), fun _ h => (by cases h), List.nodup_nil⟩, fun _ h => (by cases h)⟩, hd rs n Qd ai hc, ⟨?_, ?_, ?_, ?_⟩⟩
    · unfold startD L2.start
      rw [List.length_append, List.length_append, List.length_map, List.length_map, List.length_replicate, List.length_replicate, hl]
    · intro i r h
      obtain ⟨v, e1, e2⟩ := vals_get vr (startD_get h)
      refine ⟨v, ?_, e2⟩
      unfold L2.start
      have hi : i < vs.length := (List.getElem?_eq_some_iff.mp e1).1
      rw [List.getElem?_append_left (by simpa using hi), List.getElem?_map, e1]
      rfl
    · intro i j r r' p h1 h2 o1 o2 h3 h4
      have := argIn_get ai (startD_get h1)
      cases r <;> first | exact o1.elim | exact this.elim
    · intro i r h
      have := argIn_get ai (startD_get h)
      cases r <;> first | trivial | exact this.elim
    · intro i r p h1 o1 h2
      have := argIn_get ai (startD_get h1)
      cases r <;> first | exact o1.elim | exact this.elim
    · intro n1 B1 H1 b1 σ1 ρ1 ms1 h1 w1
      exact q _ _ _ _ _ w1 trivial h1.sv.st .non trivial
    · intro n1 B1 H1 r v ms1 h1 ok w1
      obtain ⟨x, rfl, w1⟩ := onD_ex w1
      exact q _ _ _ _ _ w1 trivial h1.1 h1.2.1 trivial
    · intro n1 B1 H1 b1 σ1 ρ1 ms1 h1 w1
      exact w1.elim
    · intro n1 B1 H1 b1 σ1 ρ1 ms1 h1 w1
      exact w1.elim
theorem def_mkM {x qual : Str} {st : Stmt} {f : Addr} {fd : FuncData} {N ps : List Str} {k : Nat} {c : DSp} {wb : DSM} (F : Fun K x qual st f fd) (S : FnScope N ps (defScope st)) (hm : mg x = some (.ref f)) (hb : Binds K fd ps [])
    (hlen : ∀ rs n Q, c rs n Q → rs.length = ps.length)
    (hbody : ∀ (cdv : Value) (A : Around) (outer : List Env) (s : Shared) (H : Hp) (E : Ent), Here k (A.deeper (envOfC qual (defScope st) s.heap.objs.size f cdv)) → LSsM (cxOf CX0 P w K mg base N qual (defScope st) f cdv A outer s H E0).nox E (defBody st) wb)
    (hd : ∀ rs n Qd, argsIn rs → c rs n Qd → wb { nx := fun _ _ n' => Qd (.d .none) n', rt := fun r _ n' => onD r fun x => Qd (.d x) n' } (startD N rs) [] n) : Def P w K mg base (k + 1) x ps c :=
  ⟨f, fd, fng_mkM F S hlen hbody hd, hm, F.kp, hb⟩
end
end Dl

namespace Dl
open PySem PySem.Spec PyProof.Rows L2
/-! ### helps for readings over objects -/
theorem seqM_def (w u : DSM) (D : MEnds) (ρ : DEnv) (ms : MS) (n : Nat) (h : ∀ R : DEnv → MS → Nat → Prop, (∀ ρ ms n, R ρ ms n = u D ρ ms n) → w { D with nx := R } ρ ms n) : dSeqM w u D ρ ms n := h _ fun _ _ _ => rfl
theorem inv4M (P : Nat → DEnv → MS → Nat → Prop) : ∃ Iv : Nat → DEnv → MS → Nat → Prop, ∀ i ρ ms n, Iv i ρ ms n ↔ P i ρ ms n := ⟨P, fun _ _ _ _ => Iff.rfl⟩
/-- all objects go to the call -/
theorem split_all {ms : MS} {F : MS → MS → Prop} (h : F ms []) : splitM ms F := ⟨ms, [], by rw [List.append_nil], h⟩
theorem split_none {ms : MS} {F : MS → MS → Prop} (h : F [] ms) : splitM ms F := ⟨[], ms, List.Perm.refl _, h⟩
end Dl

namespace Dl
open PySem PySem.Spec PyProof.Rows L2
/-! ### a def without arguments -/
section
variable {X : Cx} {k : Nat} {f : Addr} {fd : FuncData} {sp : Sp} {x : Str} {p pos : Pos} {c : DSp}
end
end Dl

namespace Dl
open PySem PySem.Spec PyProof.Rows L2
/-! ### zip of a list and a tuple, taken apart: the tuple handed out goes back at once -/
end Dl

namespace Dl
open PySem PySem.Spec PyProof.Rows L2
/-! ### a field of an object that a name refers to; a box beside an object -/
section
variable {K : PySem.W.Frag} {E : Ent} {M : Hp} {n n1 : Nat} {B H B1 H1 : Hp} {bxs : List Addr} {σ : L2.St} {ρ : DEnv} {ms : MS} {v : V}
end
/-- i, j = a box, an object -/
noncomputable def dParB (i j : Nat) (wa : DE) (wb : DEM) : DSM := fun D ρ ms n => wa ρ n fun r1 n1 => r1 = .nbox ∧ wb ρ ms n1 fun r2 ms2 n2 => setM r2 fun s2 => D.nx ((ρ.set i (some .box)).set j (some s2)) ms2 n2
section
variable {X : Cx} {E : Ent} {ea eb : Expr} {wa : DE} {wb : DEM} {x y : Str} {pos px py pt pt2 : Pos} {kt k2 : Nat}
end
end Dl

namespace Dl
open PySem PySem.Spec PyProof.Rows L2
/-! ### objects in any order; dicts made and written as objects; two fields unpacked -/
theorem FnG.imp {P : Program} {w : World} {K : PySem.W.Frag} {mg : Str → Option Value} {base : Heap} {k : Nat} {f : Addr} {fd : FuncData} {ps : List Str} {sp sp' : Sp} (F : FnG P w K mg base k f fd ps sp) (h : ∀ vs H Q E, sp' vs H Q E → sp vs H Q E) : FnG P w K mg base k f fd ps sp' :=
  ⟨fun vs H Q E q => F.len vs H Q E (h vs H Q E q), fun A outer s H args us vs Q hr hg e b v q => F.run A outer s H args us vs Q hr hg e b v (h _ _ _ _ q)⟩
theorem AftM.perm {K : PySem.W.Frag} {bxs : List Addr} {ms ms1 ms2 : MS} {n n1 : Nat} {B H B1 H1 : Hp} (a : AftM K bxs ms ms1 n n1 B H B1 H1) (p : ms1.Perm ms2) : AftM K bxs ms ms2 n n1 B H B1 H1 :=
  ⟨a.st, fun x hx => a.at_ x ((adM_perm p).mem_iff.mpr hx), fun m hm => a.rl m (p.mem_iff.mpr hm), (adM_perm p).nodup_iff.mp a.nd, fun x hx => a.fr x ((adM_perm p).mem_iff.mpr hx)⟩
section
variable {P : Program} {w : World} {K : PySem.W.Frag} {mg : Str → Option Value} {base : Heap} {x qual : Str} {st : Stmt} {f C p : Addr} {cn : Str} {fd : FuncData} {N ps : List Str} {k : Nat} {c : DSpM} {wb : DSM}
end
/-- a new dict -/
noncomputable def dNewDM (P : Program) (w : World) : DEM := fun _ ms n Q => ∃ fl, ∀ a, Q (.obj a) (ownM a (dictL P w fl []) :: ms) n
/-- o[k] = v -/
noncomputable def dPutDM (P : Program) (w : World) (wo wk wv : DEM) : DSM := fun D ρ ms n => wv ρ ms n fun rv ms1 n1 => onD rv fun y => wo ρ ms1 n1 fun r ms2 n2 => ∃ a, r = .obj a ∧ wk ρ ms2 n2 fun rk ms3 n3 => ∃ fl al k mr, ms3.Perm (ownM a (dictL P w fl al) :: mr) ∧ rk = .d (ckD k) ∧ ckOk fl k ∧ al.length < sizeLine ∧ D.nx ρ (ownM a (dictL P w fl (putA al k y)) :: mr) n3
/-- o.f, o.g = e, a pair -/
noncomputable def dUnpFM (C1 C2 : Addr) (f1 f2 : Str) (wo1 wo2 we : DEM) : DSM := fun D ρ ms n => we ρ ms n fun r ms1 n1 => ∃ x y, r = .d (.tuple [x, y]) ∧
  wo1 ρ ms1 n1 fun ro ms3 n3 => ∃ a dx fs mr, ro = .obj a ∧ ms3.Perm (ownM a (insO C1 dx fs) :: mr) ∧ fs.length < 1000 ∧
    wo2 ρ (ownM a (insO C1 dx (putR f1 (.d x) fs)) :: mr) n3 fun ro2 ms4 n4 => ∃ a2 dx2 fs2 mr2, ro2 = .obj a2 ∧ ms4.Perm (ownM a2 (insO C2 dx2 fs2) :: mr2) ∧ fs2.length < 1000 ∧ D.nx ρ (ownM a2 (insO C2 dx2 (putR f2 (.d y) fs2)) :: mr2) n4
section
variable {X : Cx} {E : Ent} {o o2 i e value : Expr} {wo wo2 wk wv we : DEM} {C1 C2 : Addr} {f1 f2 : Str} {pos pos' p1 p2 pt : Pos} {kt : Nat}
end
end Dl

namespace Dl
open PySem PySem.Spec PyProof.Rows L2
/-! ### a list that a name refers to, read as data for a while -/
noncomputable def lendR (r : RV) (F : RV → Prop) : Prop := match r with
  | .d x => noLst x ∧ F (.d x)
  | .new xs => noLsts xs ∧ F (.new xs)
  | _ => False
noncomputable def dLendN (i : Nat) (w : DE) : DEM := fun ρ ms n Q => ∃ st xs, ρ[i]? = some (some (.obj st)) ∧ ownM st (listO xs) ∈ ms ∧
  w (ρ.set i (some (.d (.list xs)))) n fun r n1 => lendR r fun r1 => okM r1 fun r' => Q r' ms n1
section
variable {X : Cx} {E : Ent} {e : Expr} {w : DE}
end
section
variable {X : Cx} {E : Ent} {elt tg iter : Expr} {ifs : List Expr} {scope : Scope} {own : List (Str × Nat)} {us : List Nat} {pos spos py : Pos} {wi : DI} {wg : DG} {tt : DT} {we : DE} {y : Str}
end
end Dl

namespace Dl
open PySem PySem.Spec PyProof.Rows L2
/-! ### [.. for a, b in d.items()], d an object that the turns do not write -/
noncomputable def pairA (p : CK × PyData) : PyData := .tuple [ckD p.1, p.2]
noncomputable def dLcItM (P : Program) (w : World) (i : Nat) (wg : DG) (tt : DTM) (we : DEM) (vs : List Nat) : DEM := fun ρ ms n Q => ∃ a fl al mr, ρ[i]? = some (some (.obj a)) ∧ ms.Perm (ownM a (dictL P w fl al) :: mr) ∧ wipeD ρ vs = ρ ∧ ∃ Iv : Nat → List PyData → MS → Nat → Prop, Iv 0 [] mr n ∧
  (∀ j acc ms n z, Iv j acc ms n → (al.map pairA)[j]? = some z → wg z ρ fun ρ' => wipeD ρ' vs = ρ ∧ tt ρ' ms n fun b ms2 n2 => if b = true then we ρ' ms2 n2 fun r ms3 n3 => onD r fun y => acc.length < sizeLine ∧ Iv (j + 1) (acc ++ [y]) ms3 n3 else Iv (j + 1) acc ms2 n2) ∧
  ∀ acc ms n, Iv al.length acc ms n → Q (.d (.list acc)) (ownM a (dictL P w fl al) :: ms) n
section
variable {X : Cx} {E : Ent} {elt : Expr} {elts : List Expr} {kk : Nat} {tpos : Pos} {ifs : List Expr} {scope : Scope} {own : List (Str × Nat)} {us : List Nat} {pos spos apos cpos p1 : Pos} {wg : DG} {tt : DTM} {we : DEM} {x : Str}
end
end Dl

namespace Dl
open PySem PySem.Spec PyProof.Rows L2
/-! ### small steps over objects -/
section
variable {X : Cx} {E : Ent} {a b : Expr} {wa wb : DEM} {pos : Pos}
end
end Dl

namespace Dl
open PySem PySem.Spec PyProof.Rows L2
/-! ### the same, the turn's names being names of the def, too -/
noncomputable def nOwn : Option (Option RV) → Prop
  | some (some (.new _)) => False
  | some (some (.own _)) => False
  | _ => True
noncomputable def noOwn (ρ : DEnv) : List Nat → Prop
  | [] => True
  | j :: js => nOwn ρ[j]? ∧ noOwn ρ js
noncomputable def dLcIuM (P : Program) (w : World) (i : Nat) (wg : DG) (tt : DTM) (we : DEM) (vs : List Nat) : DEM := fun ρ ms n Q => ∃ a fl al mr, ρ[i]? = some (some (.obj a)) ∧ ms.Perm (ownM a (dictL P w fl al) :: mr) ∧ noOwn ρ vs ∧ ∃ Iv : Nat → List PyData → MS → Nat → Prop, Iv 0 [] mr n ∧
  (∀ j acc ms n z, Iv j acc ms n → (al.map pairA)[j]? = some z → wg z (wipeD ρ vs) fun ρ' => wipeD ρ' vs = wipeD ρ vs ∧ tt ρ' ms n fun b ms2 n2 => if b = true then we ρ' ms2 n2 fun r ms3 n3 => onD r fun y => acc.length < sizeLine ∧ Iv (j + 1) (acc ++ [y]) ms3 n3 else Iv (j + 1) acc ms2 n2) ∧
  ∀ acc ms n, Iv al.length acc ms n → Q (.d (.list acc)) (ownM a (dictL P w fl al) :: ms) n
section
variable {X : Cx} {E : Ent} {elt : Expr} {elts : List Expr} {kk : Nat} {tpos : Pos} {ifs : List Expr} {scope : Scope} {own : List (Str × Nat)} {us : List Nat} {pos spos apos cpos p1 : Pos} {wg : DG} {tt : DTM} {we : DEM} {x : Str}
end
end Dl

namespace Dl
open PySem PySem.Spec PyProof.Rows L2
/-! ### an own list becomes an object -/
section
variable {X : Cx} {E : Ent} {sts : List Stmt} {w : DSM}
end
end Dl



namespace Dl
open PySem PySem.Spec PyProof.Rows L2
/-! x += e, over objects -/
section
variable {X : Cx} {E : Ent}
noncomputable def dAugM (i : Nat) (f : Int → Int → Int) (we : DEM) : DSM := fun D ρ ms n => match ρ[i]? with
  | some (some (.d (.int a))) => we ρ ms n fun r ms1 n1 => onI r fun b => D.nx (ρ.set i (some (.d (.int (f a b))))) ms1 n1
  | _ => False
end
end Dl

namespace Dl
open PySem PySem.Spec PyProof.Rows L2
/-! ### a set display of one number or text -/
section
variable {X : Cx} {e : Expr} {te : TE} {we : DE} {pos : Pos}
noncomputable def dSet1 (P : Program) (w : World) (we : DE) : DE := fun ρ n Q => we ρ n fun r n1 => ∃ k, r = .d (kD k) ∧ Q (.own (setF P w (fun j => decide (j = k)) 1)) n1
end
section
variable {P : Program} {w : World} {K : PySem.W.Frag} {mg : Str → Option Value} {base : Heap}
/-! ### defs whose body must know its code -/
end
/-! ### x in s, x not in s as values -/
section
variable {X : Cx} {x : Str} {e : Expr} {pos p1 : Pos} {we : DE}
noncomputable def dSInV (P : Program) (w : World) (neg : Bool) (i : Nat) (we : DE) : DE := fun ρ n Q => ∃ S m, ρ[i]? = some (some (.own (setF P w S m))) ∧ we ρ n fun r n1 => ∃ k, r = .d (kD k) ∧ Q (.d (.bool (if neg then !S k else S k))) n1
end
end Dl

namespace Dl
open PySem PySem.Spec PyProof.Rows L2
/-! ### methods called by names -/
noncomputable def BindKs (fd : FuncData) (ps ks : List Str) : Prop := ∀ (s : Shared) (u : Value) (us : List Value), (u :: us).length = ps.length → BindsTo s fd ⟨[u], ks.zip us⟩ (ps.zip (u :: us))
theorem bindKs_of {K : PySem.W.Frag} {x qual : Str} {st : Stmt} {f : Addr} {fd : FuncData} (F : Fun K x qual st f fd) {ps ks : List Str}
    (h : ∀ (kV doc pm : Value) (an : Option Addr) (cdv ct : Value) (u : Value) (us : List Value), (u :: us).length = ps.length → bindArgs (PySem.W.fnOf x qual (defArgs st) (defBody st) (defScope st) .none kV doc pm an cdv ct) ⟨[u], ks.zip us⟩ = pure (ps.zip (u :: us))) : BindKs fd ps ks := by
  obtain ⟨oc, od, kV, doc, pm, an, cdv, ct, osl, rfl, lk, hcd⟩ := F.ex
  intro s u us hl
  exact .of_eq (h kV doc pm an cdv ct u us hl)
structure MethK (P : Program) (w : World) (K : PySem.W.Frag) (mg : Str → Option Value) (base : Heap) (k : Nat) (C : Addr) (m : Str) (ps ks : List Str) (c : DSpM) : Prop where
  ex : ∃ (f : Addr) (fd : FuncData), FnG P w K mg base k f fd ps (liftM K c) ∧ Meth K C m f ∧ BindKs fd ps ks
section
variable {X : Cx} {k : Nat} {C f : Addr} {fd : FuncData} {ps ks : List Str} {sp : Sp} {m : Str} {pos apos kpos : Pos} {o e : Expr} {kws : List Keyword} {ta : TE} {t : TA} {nm : Option Str}
end
section
variable {X : Cx} {E : Ent} {e o : Expr} {wo we : DEM} {C : Addr} {m : Str} {k : Nat} {ps ks : List Str} {c : DSpM} {pos apos kpos : Pos} {nm : Option Str}
/-- one name -/
theorem lkm_one (ha : LEM X E e we) : PK X [⟨nm, e, kpos⟩] (upAM X.K E (dConsM we dNilM)) := pk_imp (pk_cons ha pk_nil) fun σ H Q hu => by
  obtain ⟨ρ, ms, n, B, M, bxs, Qd, h, w1, q⟩ := hu
  refine ⟨ρ, ms, n, B, M, bxs, _, h, w1, fun r ms1 n1 v B1 H1 hq1 h1 sb1 vr => ?_⟩
  obtain ⟨hq1, st⟩ := stM_ex hq1
  exact q _ _ _ _ _ _ hq1 h1 sb1 ⟨st (Same.refl _) vr, trivial⟩
end
end Dl

namespace Dl
open PySem PySem.Spec PyProof.Rows L2 PySem.W
/-! ### tuples that are known to the object: dict(a tuple) -/
noncomputable def ExT (K : PySem.W.Frag) (B : Hp) (a : Addr) (xs : List PyData) : Prop := ∃ o vs its n, B a = some (.frz o (.tup vs)) ∧ o.cls = .type "tuple" ∧ o.dict = none ∧ o.data = .seq its n ∧ Dl.DpAll K B vs xs
theorem ExT.mono {K : PySem.W.Frag} {B B' : Hp} {a : Addr} {xs : List PyData} (s : Same B B') (h : ExT K B a xs) : ExT K B' a xs := by
  obtain ⟨o, vs, its, n, e, h1, h2, h3, h4⟩ := h
  exact ⟨o, vs, its, n, s a _ e, h1, h2, h3, dpSameAll s _ _ h4⟩
theorem ExT.dp {K : PySem.W.Frag} {B : Hp} {a : Addr} {xs : List PyData} (h : ExT K B a xs) : Dl.Dp K B (.ref a) (.tuple xs) := by
  obtain ⟨o, vs, its, n, e, h1, h2, h3, h4⟩ := h
  exact .tup (.inl (.inr ⟨o, e⟩)) h4
noncomputable def tupF (a : Addr) (xs : List PyData) : OwnM := ⟨[], fun K B _ => ExT K B a xs, fun s _ h => h.mono s⟩
section
variable {K : PySem.W.Frag} {E : Ent} {M : Hp} {n : Nat} {B H : Hp} {bxs : List Addr} {σ : L2.St} {ρ : DEnv} {ms : MS} {a : Addr} {xs : List PyData}
end
/-! tuple(a list) -/
section
variable {X : Cx} {E : Ent}
noncomputable def dTupX (wr : DAM) : DEM := fun ρ ms n Q => wr ρ ms n fun rs ms1 n1 => ∃ xs, rs = [.d (.list xs)] ∧ ∀ a, Q (.obj a) (tupF a xs :: ms1) n1
/-! such a tuple read as data -/
noncomputable def dAsT (i : Nat) (w : DE) : DEM := fun ρ ms n Q => ∃ a xs, ρ[i]? = some (some (.obj a)) ∧ tupF a xs ∈ ms ∧ w (ρ.set i (some (.d (.tuple xs)))) n fun r n1 => okM r fun r' => Q r' ms n1
noncomputable def dAsTT (i : Nat) (w : DT) : DTM := fun ρ ms n Q => ∃ a xs, ρ[i]? = some (some (.obj a)) ∧ tupF a xs ∈ ms ∧ w (ρ.set i (some (.d (.tuple xs)))) n fun b n1 => Q b ms n1
noncomputable def dDatM (w : DEM) : DEM := fun ρ ms n Q => w ρ ms n fun r ms1 n1 => ∃ a xs, r = .obj a ∧ tupF a xs ∈ ms1 ∧ Q (.d (.tuple xs)) ms1 n1
/-! dict(such a tuple) -/
noncomputable def dDictT (P : Program) (w : World) (i : Nat) : DEM := fun ρ ms n Q => ∃ a fl ps, ρ[i]? = some (some (.obj a)) ∧ tupF a (ps.map pairD) ∈ ms ∧ (∀ q ∈ ps, ckOk fl q.1) ∧ ps.length ≤ sizeLine ∧ ∀ b, Q (.obj b) (ownM b (dictL P w fl (foldA ps)) :: ms) n
/-! x, y, z = a, b, c over objects -/
noncomputable def dPar3M (i j l : Nat) (wa wb wc : DEM) : DSM := fun D ρ ms n => wa ρ ms n fun r1 ms1 n1 => stM r1 fun r1' => wb ρ ms1 n1 fun r2 ms2 n2 => stM r2 fun r2' => wc ρ ms2 n2 fun r3 ms3 n3 => setM r1' fun s1 => setM r2' fun s2 => setM r3 fun s3 => D.nx (((ρ.set i (some s1)).set j (some s2)).set l (some s3)) ms3 n3
end
end Dl

namespace Dl
open PySem PySem.Spec PyProof.Rows L2
/-! ### y = an own thing made of a tuple that is known to the object -/
noncomputable def dSetAsT (i j : Nat) (w : DE) : DSM := fun D ρ ms n => ∃ a xs, ρ[i]? = some (some (.obj a)) ∧ tupF a xs ∈ ms ∧ w (ρ.set i (some (.d (.tuple xs)))) n fun r n1 => isOwn r ∧ D.nx (ρ.set j (some r)) ms n1
section
variable {X : Cx} {E : Ent}
end
end Dl

namespace Dl
open PySem PySem.Spec PyProof.Rows L2 PySem.W
/-! ### pairs of ints: their order, sorted, sorted(set(..)) -/
noncomputable def ip (p : Int × Int) : PyData := .tuple [.int p.1, .int p.2]
noncomputable def ltP (p q : Int × Int) : Bool := decide (p.1 < q.1) || (decide (p.1 = q.1) && decide (p.2 < q.2))
section
variable {X : Cx}
noncomputable def wLtP : DOp := fun x y Q => match x, y with
  | .tuple [.int a, .int b], .tuple [.int c, .int d] => Q (.d (.bool (ltP (a, b) (c, d))))
  | _, _ => False
/-! their order as data -/
noncomputable def wSortL : DCall := fun xs Q => match xs with
  | [.list yd] => ∃ ks : List (Int × Int), yd = ks.map ip ∧ Q (.new (sortD (ks.map ip)))
  | _ => False
end
end Dl

namespace Dl
open PySem PySem.Spec PyProof.Rows L2 PySem.W
/-! ### sorted(set(pairs of ints)) -/
section
variable {X : Cx}
noncomputable def wSortSetP : DCall := fun xs Q => match xs with
  | [.list yd] => yd.length < 64 ∧ ∃ ks : List (Int × Int), yd = ks.map ip ∧ Q (.new (sortD ((metL ks).map ip)))
  | [.tuple yd] => yd.length < 64 ∧ ∃ ks : List (Int × Int), yd = ks.map ip ∧ Q (.new (sortD ((metL ks).map ip)))
  | _ => False
end
end Dl

namespace Dl
open PySem PySem.Spec PyProof.Rows L2
/-! ### {e for a in x for b in y}, without tests -/
section
variable {prog : Program} {w : World} {A : Around} {R : Result → Shared → Prop} {s : Shared} {el t0 i0 t1 i1 : Expr} {sc : Scope} {pos : Pos} {it acc : Value} {en : Env}
end
section
variable {X : Cx}
end
end Dl

namespace Dl
open PySem PySem.Spec PyProof.Rows L2
/-! ### len({e for a in x for b in y}), at data level -/
/-- a set with just these members, so many -/
noncomputable def setX (P : Program) (w : World) (S : Key → Bool) (m : Nat) : OwnT where
  rel := fun _ _ a o => o = SetK P w a S m
  mono := fun _ h => h
/-- the thing under way at D -/
structure KSt (bxs : List Addr) (n : Nat) (B H B1 : Hp) (D : Addr) (o : HO) (nc : Nat) (Bc Hc : Hp) : Prop where
  st : Step bxs n nc B H Bc (L2.del Hc D)
  sb : Same B1 Bc
  bD : Bc D = none
  hD : Hc D = some o
section
variable {K : PySem.W.Frag} {bxs : List Addr} {n nc n2 : Nat} {B H B1 Bc Hc B2 H2 : Hp} {D : Addr} {o o' : HO} {σ : L2.St} {ρ : DEnv}
theorem KSt.step (L : KSt bxs n B H B1 D o nc Bc Hc) (nD : D ∉ bxs) (s : Step bxs nc n2 Bc Hc B2 H2) : KSt bxs n B H B1 D o n2 B2 H2 := by
  have b2 : B2 D = none := by rw [s.b3 D (ne_none_of L.hD)]; exact L.bD
  exact ⟨L.st.trans (s.del nD b2), L.sb.trans s.b1, b2, s.h1 D _ nD L.hD⟩
theorem KSt.env (L : KSt bxs n B H B1 D o nc Bc Hc) (e : EnvR K bxs n B H σ ρ) : EnvR K bxs nc Bc Hc σ ρ := (e.step L.st).undel
theorem KSt.put (L : KSt bxs n B H B1 D o nc Bc Hc) : KSt bxs n B H B1 D o' nc Bc (L2.upd Hc D o') := ⟨by rw [del_upd2]; exact L.st, L.sb, L.bD, upd_same⟩
theorem KSt.whole (L : KSt bxs n B H B1 D o nc Bc Hc) : Step bxs n nc B H Bc Hc where
  b1 := L.st.b1
  b2 := fun c o h => (of_del (L.st.b2 c o h)).2
  b3 := L.st.b3
  h1 := fun a o ha h => (of_del (L.st.h1 a o ha h)).2
  bx := fun b hb => (L.st.bx b hb).keep fun o h => (of_del h).2
  nn := L.st.nn
end
noncomputable def dLenX (P : Program) (w : World) (we : DE) : DE := fun ρ n Q => we ρ n fun r n1 => ∃ S m, r = .own (setX P w S m) ∧ Q (.d (.int (m : Int))) n1
section
variable {X : Cx} {elt tg iter tg1 iter1 : Expr} {scope : Scope} {own : List (Str × Nat)} {us us1 vs1 : List Nat} {pos : Pos} {wi wi1 : DI} {wg wg1 : DG} {we : DE}
end
end Dl

namespace Dl
open PySem PySem.Spec PyProof.Rows L2
/-! ### defs of the M-kind called by names -/
structure DefMK (P : Program) (w : World) (K : PySem.W.Frag) (mg : Str → Option Value) (base : Heap) (k : Nat) (x : Str) (ps : List Str) (st : Stmt) (c : DSpM) : Prop where
  ex : ∃ (f : Addr) (fd : FuncData), FnG P w K mg base k f fd ps (liftM K c) ∧ mg x = some (.ref f) ∧ Fun K x x st f fd
noncomputable def dCallKM (idx : List Nat) (c : DSpM) (wr : DAM) : DEM := fun ρ ms n Q => wr ρ ms n fun rs ms1 n1 => ∃ ma mb, ms1.Perm (ma ++ mb) ∧ argsIn (pick idx rs) ∧ c (pick idx rs) ma n1 fun r ma' n2 => Q r (ma' ++ mb) n2
section
variable {X : Cx} {E : Ent} {a : Expr} {wa : DEM} {wr wk : DAM} {kws : List Keyword} {nm : Option Str} {kpos : Pos}
end
end Dl

namespace Dl
open PySem PySem.Spec PyProof.Rows L2
/-! ### lists made as objects: [..] and x + [..] -/
noncomputable def dLstO (wr : DAM) : DEM := fun ρ ms n Q => wr ρ ms n fun rs ms1 n1 => onO (datas rs) fun xs => xs.length ≤ sizeLine ∧ ∀ a, Q (.obj a) (ownM a (listO xs) :: ms1) n1
noncomputable def dAddO (wa wb : DEM) : DEM := fun ρ ms n Q => wa ρ ms n fun r1 ms1 n1 => ∃ st, r1 = .obj st ∧ wb ρ ms1 n1 fun r2 ms2 n2 => ∃ xs ys, r2 = .d (.list ys) ∧ ownM st (listO xs) ∈ ms2 ∧ xs.length + ys.length ≤ sizeLine ∧ ∀ z, Q (.obj z) (ownM z (listO (xs ++ ys)) :: ms2) n2
section
variable {X : Cx} {E : Ent} {a b : Expr} {es : List Expr} {wa wb : DEM} {wr : DAM} {pos : Pos}
end
end Dl

namespace Dl
open PySem PySem.Spec PyProof.Rows L2 PySem.W
/-! ### exact tuples of displays and sums -/
section
variable {X : Cx} {es : List Expr} {t : TA} {pos : Pos}
end
noncomputable def dCatX (wa wb : DEM) : DEM := fun ρ ms n Q => wa ρ ms n fun r1 ms1 n1 => ∃ a, r1 = .obj a ∧ wb ρ ms1 n1 fun r2 ms2 n2 => ∃ b xs ys, r2 = .obj b ∧ tupF a xs ∈ ms2 ∧ tupF b ys ∈ ms2 ∧ ys ≠ [] ∧ xs.length + ys.length ≤ sizeLine ∧ ∀ z, Q (.obj z) (tupF z (xs ++ ys) :: ms2) n2
section
variable {X : Cx} {E : Ent} {a b : Expr} {wa wb : DEM} {pos : Pos}
end
noncomputable def dTupD (wr : DAM) : DEM := fun ρ ms n Q => wr ρ ms n fun rs ms1 n1 => onO (datas rs) fun xs => xs.length ≤ sizeLine ∧ ∀ a, Q (.obj a) (tupF a xs :: ms1) n1
section
variable {X : Cx} {E : Ent} {es : List Expr} {wr : DAM} {pos : Pos}
end
end Dl

namespace Dl
open PySem PySem.Spec PyProof.Rows L2 PySem.W
/-! ### a list of objects, by their addresses: [..], .append, for -/
noncomputable def listA (as : List Addr) : OwnT where
  rel := fun _ _ _ o => o = .lst (as.map V.ref)
  mono := fun _ h => h
noncomputable def dLstA (wr : DAM) : DEM := fun ρ ms n Q => wr ρ ms n fun rs ms1 n1 => ∃ as, rs = as.map RV.obj ∧ as.length ≤ sizeLine ∧ ∀ p, Q (.obj p) (ownM p (listA as) :: ms1) n1
theorem objs_vs {K : PySem.W.Frag} {bxs : List Addr} {n : Nat} {B H : Hp} : ∀ {as : List Addr} {vs : List V}, ValsR K bxs n B H (as.map RV.obj) vs → vs = as.map V.ref
  | [], [], _ => rfl
  | [], _ :: _, h => h.elim
  | _ :: _, [], h => h.elim
  | a :: as, v :: vs, h => by
    have e : v = V.ref a := h.1
    rw [e, objs_vs (as := as) h.2]
    rfl
section
variable {X : Cx} {E : Ent} {a : Expr} {es : List Expr} {body : List Stmt} {wa : DEM} {wr : DAM} {w : DSM} {pos py : Pos} {y : Str}
theorem lem_lstA (h : LAM X E es wr) : LEM X E (.List es pos) (dLstA wr) := pe_imp (pe_lst h) fun σ H Q hu => by
  obtain ⟨ρ, ms, n, B, M, bxs, Qd, h, w1, q⟩ := hu
  refine ⟨ρ, ms, n, B, M, bxs, _, h, w1, fun rs ms1 n1 vs B1 H1 hq h1 sb vr => ?_⟩
  obtain ⟨as, rfl, hl, hq⟩ := hq
  have ev := objs_vs vr
  subst ev
  refine ⟨by rw [List.length_map]; exact hl, fun p hp => ?_⟩
  exact q _ _ _ _ _ _ (hq p) (mx_lay (T := listA as) h1 hp rfl) sb rfl
end
end Dl

namespace Dl
open PySem PySem.Spec PyProof.Rows L2 PySem.W
/-! ### y = xs.pop(i); .append of an object -/
noncomputable def dPopAt (i j : Nat) (we : DE) : DS := fun D ρ n => ∃ xs, ρ[i]? = some (some (.new xs)) ∧ we ρ n fun r n1 => ∃ (k : Nat) (y : PyData), r = .d (.int (k : Int)) ∧ xs[k]? = some y ∧ k < 2 ^ 62 ∧ D.nx ((ρ.set i (some (.new (xs.eraseIdx k)))).set j (some (.d y))) n1
noncomputable def dAppA (wo we : DEM) : DEM := fun ρ ms n Q => wo ρ ms n fun r ms1 n1 => ∃ a as, r = .obj a ∧ ownM a (listA as) ∈ ms1 ∧ we ρ ms1 n1 fun re ms2 n2 => ∃ b mr, re = .obj b ∧ ms2.Perm (ownM a (listA as) :: mr) ∧ as.length < sizeLine ∧ Q (.d .none) (ownM a (listA (as ++ [b])) :: mr) n2
section
variable {X : Cx} {E : Ent} {e o : Expr} {we : DE} {wo wa : DEM} {x y : Str} {pos p1 py apos cpos : Pos}
end
end Dl

namespace Dl
open PySem PySem.Spec PyProof.Rows L2
/-! ### asking a dict of pairs for a plain key: nothing is found -/
section
variable {prog : Program} {w : World} {A : Around} {E : Value → Shared → Prop} {s : Shared}
end
noncomputable def kyOk (fl : Bool) (k : CK) : Prop := fl = true ∨ ckOk fl k
theorem RelN.plain {l : List (CK × V × V)} {xs : List (NestedKey × Addr × Value)} (r : RelN l xs) (k : Key) : lookV l (.inl k) = none := by
  induction r with
  | nil => rfl
  | cons h _ ih =>
    rename_i p q l vs _
    obtain ⟨j, h1, _⟩ := h
    unfold lookV at ih ⊢
    rw [List.find?_cons, show decide (p.1 = Sum.inl k) = false from decide_eq_false (by rw [h1]; exact fun z => nomatch z)]
    exact ih
section
variable {X : Cx} {pins : List (Addr × Obj)} {σ : L2.St} {H : Hp} {s : Shared} {a : Addr} {fl : Bool} {l : List (CK × V × V)} {A : Around} {E : Value → Shared → Prop} {k : CK} {y z : V} {u r : Value}
end
section
variable {X : Cx} {o i e f value : Expr} {pos pos' apos cpos : Pos} {td ty tx tv : TE}
end
noncomputable def dLGetG (P : Program) (w : World) (i : Nat) (wk wx : DE) : DE := fun ρ n Q => ∃ fl al, ρ[i]? = some (some (.own (dictL P w fl al))) ∧ wk ρ n fun r n1 => wx ρ n1 fun r2 n2 => ∃ k y, r = .d (ckD k) ∧ kyOk fl k ∧ r2 = .d y ∧ Q (.d ((lookA al k).getD y)) n2
noncomputable def dGetDGM (P : Program) (w : World) (wo wk wx : DEM) : DEM := fun ρ ms n Q => wo ρ ms n fun r ms1 n1 => ∃ a, r = .obj a ∧ DicAt P w a ms1 fun fl al => wk ρ ms1 n1 fun rk ms2 n2 => ∃ k, rk = .d (ckD k) ∧ kyOk fl k ∧ wx ρ ms2 n2 fun rx ms3 n3 => onD rx fun y => ownM a (dictL P w fl al) ∈ ms3 ∧ Q (.d ((lookA al k).getD y)) ms3 n3
section
variable {X : Cx} {E : Ent} {x : Str} {o e f value : Expr} {pos pos' apos cpos p1 p2 : Pos} {wk wx wv : DE}
end
section
variable {X : Cx} {E : Ent} {a b e o : Expr} {es : List Expr} {wa wb wo we wk wx : DEM} {wr : DAM} {C : Addr} {f m x : Str} {k : Nat} {ps : List Str} {c : DSpM} {p pos apos cpos : Pos}
end
end Dl

namespace Dl
open PySem PySem.Spec PyProof.Rows L2 PySem.W
/-! ### comprehensions over a list of objects; lists of objects made by comprehensions; sums of such lists; slices of exact tuples -/
section
variable {K : PySem.W.Frag} {E : Ent} {wa we : DEM} {wi : DI} {wg : DG} {tt : DTM} {vs us : List Nat} {j : Nat}
theorem at_lstA {M B' H' : Hp} {n' : Nat} {bxs' : List Addr} {σ' : L2.St} {ρ' : DEnv} {ms' : MS} {st : Addr} {as : List Addr} (h : MX K E M n' B' H' bxs' σ' ρ' ms') (hm : ownM st (listA as) ∈ ms') : H' st = some (.lst (as.map V.ref)) := by
  obtain ⟨_, e, e2, _⟩ := h.get hm
  rw [e, show _ = _ from e2]
end
section
variable {X : Cx} {E : Ent} {elt tg iter a : Expr} {ifs : List Expr} {scope : Scope} {own : List (Str × Nat)} {us : List Nat} {pos spos py : Pos} {wi : DI} {wg : DG} {tt : DTM} {wa we : DEM} {y : Str}
end
/-! sums of lists of objects -/
noncomputable def dAddA (wa wb : DEM) : DEM := fun ρ ms n Q => wa ρ ms n fun r1 ms1 n1 => ∃ st, r1 = .obj st ∧ wb ρ ms1 n1 fun r2 ms2 n2 => ∃ s2 as bs, r2 = .obj s2 ∧ ownM st (listA as) ∈ ms2 ∧ ownM s2 (listA bs) ∈ ms2 ∧ as.length + bs.length ≤ sizeLine ∧ ∀ z, Q (.obj z) (ownM z (listA (as ++ bs)) :: ms2) n2
section
variable {X : Cx} {E : Ent} {a b : Expr} {wa wb : DEM} {pos p2 : Pos}
theorem lem_addA (ha : LEM X E a wa) (hb : LEM X E b wb) : LEM X E (.BinOp a .Add b pos) (dAddA wa wb) := pe_imp (pe_op op_catL ha hb) fun σ H Q hu => by
  obtain ⟨ρ, ms, n, B, M, bxs, Qd, h, w1, q⟩ := hu
  refine ⟨ρ, ms, n, B, M, bxs, _, h, w1, fun r ms1 n1 v B1 H1 hq h1 sb vr => ?_⟩
  obtain ⟨st, rfl, hq⟩ := hq
  refine ⟨ρ, ms1, n1, B1, M, bxs, _, h1, hq, fun r2 ms2 n2 u B2 H2 hq2 h2 sb2 vr2 => ?_⟩
  obtain ⟨s2, as, bs, rfl, hm1, hm2, hl, hq2⟩ := hq2
  cases vr
  cases vr2
  refine ⟨st, s2, as.map V.ref, bs.map V.ref, rfl, rfl, SqL.of (at_lstA h2 hm1), SqL.of (at_lstA h2 hm2), by rw [List.length_map, List.length_map]; exact hl, fun p hp => ?_⟩
  exact q _ _ _ _ _ _ (hq2 p) (mx_lay (T := listA (as ++ bs)) h2 hp (show _ = _ by rw [List.map_append])) (sb.trans sb2) rfl
end
/-! x[lo:] of an exact tuple -/
noncomputable def dSlX (lo : Int) (wa : DEM) : DEM := fun ρ ms n Q => wa ρ ms n fun r ms1 n1 => ∃ a xs, r = .obj a ∧ tupF a xs ∈ ms1 ∧ ∀ z, Q (.obj z) (tupF z (cutD xs (some lo) none) :: ms1) n1
/-! the tails as letters -/
theorem split_one {ms : MS} {m : OwnM} {F : MS → MS → Prop} (hm : m ∈ ms) (h : ∀ mb, (∀ x ∈ ms, x = m ∨ x ∈ mb) → F [m] mb) : splitM ms F := by
  obtain ⟨s, t, rfl⟩ := List.append_of_mem hm
  refine ⟨[m], s ++ t, List.perm_middle, h _ fun x hx => ?_⟩
  rcases List.mem_append.mp hx with hx | hx
  · exact .inr (List.mem_append_left _ hx)
  · rcases List.mem_cons.mp hx with hx | hx
    · exact .inl hx
    · exact .inr (List.mem_append_right _ hx)
end Dl

namespace Dl
open PySem PySem.Spec PyProof.Rows L2
/-! ### own exceptions made and kept: by place, by names, with no argument -/
section
variable {M : Model} {A : Around} {E : Value → Shared → Prop} {h : Heap} {g : Array GenState} {d : Drawn} {t : Nat} {os : OsState}
variable {nm q : Str} {C N : Addr} {bs bm bmB : List Value} {hdct : Bool} {sn : List Str} {sub : List Value} {ab : Bool} {col : Option Bool} {dd : Option Addr} {k0 k1 k2 k3 k5 : Option Value} {B newId initId : String}
theorem newK_check (F : ExcBaseFacts B newId initId bmB) (hT : ∀ X : String, bm.contains (.type X) = bmB.contains (.type X)) {rest : List Value} {kw : List (Str × Value)} {Q : Unit → Shared → Prop}
    (hC : h.get? C = some (excClassObj nm q C N bs bm hdct sn sub ab col dd k0 k1 k2 k3 k5 newId)) (hq : Q () ⟨h, g, d, t, os⟩) : wpAny M A (checkBuiltinCall newId ⟨.ref C :: rest, kw⟩) Q E ⟨h, g, d, t, os⟩ := by
  have hcont : (Value.ref C :: bm).contains (.type B) = true := by rw [List.contains_cons, hT, F.hasB, Bool.or_true]
  have hstar := F.noStar
  simp only [checkBuiltinCall, F.newKind, F.newSplit, F.newRow]
  repeat (first | refine wpAny_loadPart_at hC ?_ | (refine wpAny_isSubtype_exc hC ?_; rw [hcont]) | refine wpAny_staticBase_exc hC ?_ | refine wpAny_madeBy_exc hC ?_ | simp only [bne_self_eq_false, Bool.false_eq_true, if_false] | wp_step)
  exact hq
end
section
variable {prog : Program} {w : World} {A : Around} {E : Value → Shared → Prop} {R : Result → Shared → Prop} {h : Heap} {g : Array GenState} {d : Drawn} {t : Nat} {os : OsState}
variable {nm q : Str} {C N : Addr} {bs bm bmB : List Value} {hdct : Bool} {sn : List Str} {sub : List Value} {ab : Bool} {col : Option Bool} {dd : Option Addr} {k0 k1 k2 k3 k5 : Option Value} {B newId initId : String}
theorem newK_own (F : ExcBaseFacts B newId initId bmB) (hT : ∀ X : String, bm.contains (.type X) = bmB.contains (.type X)) {rest : List Value} {kw : List (Str × Value)}
    (hC : h.get? C = some (excClassObj nm q C N bs bm hdct sn sub ab col dd k0 k1 k2 k3 k5 newId))
    (hq : R (.ok (.ret (.ref (h.objs.size + 1)))) ⟨(h.push (PySem.W.kdv_tup rest)).push (PySem.HandSPX.excO C h.objs.size), g, d, t, os⟩) (hrest : rest.length ≤ sizeLine) :
    codeAny (model prog w) A (.builtin newId ⟨.ref C :: rest, kw⟩) R ⟨h, g, d, t, os⟩ := by
  have hends := F.ends
  have hcB : (Value.ref C :: bm).contains (.type B) = true := by rw [List.contains_cons, hT, F.hasB, Bool.or_true]
  have hcA : (Value.ref C :: bm).contains (.type "AttributeError") = false := by rw [List.contains_cons, hT, F.noAttr]; rfl
  have hcN : (Value.ref C :: bm).contains (.type "NameError") = false := by rw [List.contains_cons, hT, F.noName]; rfl
  refine codeAny_builtinAt F.entry ?_
  unfold Builtin.«BaseException.__new__»
  refine PySem.wpAt_bind ?_
  show PySem.wpAt _ _ _ (stack >>= _) _ _ _
  refine PySem.wpAt_bind (PySem.wpAt_stack fun p below => PySem.wpAt_of_wpAny ?_)
  wp_walk
  refine PySem.wpAt_of_wpAny ?_
  rw [F.owner]
  repeat (first | with_reducible refine wpAny_madeHere_exc F.canon hC ?_ | with_reducible refine wpAny_loadPart_at hC ?_ | (with_reducible refine wpAny_isSubtype_exc hC ?_; first | rw [hcB] | rw [hcA] | rw [hcN]) | wp_step)
  show R _ _
  rw [Heap.size_push]
  exact hq
theorem typeK_own (F : ExcBaseFacts B newId initId bmB) (hT : ∀ X : String, bm.contains (.type X) = bmB.contains (.type X)) {rest : List Value} {kw : List (Str × Value)} {fI : Addr} {Q : Fin → Shared → Prop}
    (hC : h.get? C = some (excClassObj nm q C N bs bm hdct sn sub ab col dd k0 k1 k2 k3 k5 newId))
    (hi : W.Looks (model prog w) h (typeLookup (.ref C) "__init__") (some (.ref fI))) (hb : ∀ self, W.Looks (model prog w) h (bindSpecial (.ref fI) self) (.ref fI, [self])) (hrest : rest.length ≤ sizeLine)
    (hq : codeAny (model prog w) A (.call (.ref fI) ⟨.ref (h.objs.size + 1) :: rest, kw⟩)
      (fun r s' => match r with | .ok (.ret v) => v = .none ∧ Q (.done (.ret (.ref (h.objs.size + 1)))) s' | .ok _ => False | .error e => E e s')
      ⟨(h.push (W.kdv_tup rest)).push (PySem.HandSPX.excO C h.objs.size), g, d, t, os⟩) :
    wpAny (model prog w) A (Builtin.«type.__call__» ⟨.ref C :: rest, kw⟩) Q E ⟨h, g, d, t, os⟩ := by
  repeat (first | with_reducible refine wpAny_loadPart_at hC ?_ | with_reducible refine wpAny_madeBy_exc hC ?_ | wp_step)
  refine codeAny_call_builtin_code (Code.quiet_builtin _ F.quiet) (newK_check F hT hC ?_)
  refine newK_own F hT hC ?_ hrest
  show wpAny _ _ _ _ _ _
  have k : ∀ b o, h.get? b = some o → ((h.push (W.kdv_tup rest)).push (PySem.HandSPX.excO C h.objs.size)).get? b = some o := fun b o e => Heap.get?_push_of_some _ (Heap.get?_push_of_some _ e)
  have hC₁ := k _ _ hC
  have hget : ((h.push (W.kdv_tup rest)).push (PySem.HandSPX.excO C h.objs.size)).get? (h.objs.size + 1) = some (PySem.HandSPX.excO C h.objs.size) := by heap_get
  have hcC : (Value.ref C :: bm).contains (.ref C) = true := by simp
  have i1 := hi.keeps k
  have b1 := (hb (.ref (h.objs.size + 1))).keeps k
  unfold isInstance
  repeat (first | with_reducible refine wpAny_loadPart_at hget ?_ | (with_reducible refine wpAny_isSubtype_exc hC₁ ?_; rw [hcC]) | wp_step)
  show wpAny _ _ (typeLookup (.ref C) _) _ _ _
  refine i1.at ?_
  refine wpAny_holding (wpAny_bind (b1.at ?_))
  refine wpAny_bind (wpAny_call (codeAny_mono hq fun r s' z => ?_))
  rcases r with e | (v | _ | _ | _) <;> first | exact z | exact z.elim | skip
  obtain ⟨rfl, z⟩ := z
  first
    | exact wpAny_pure (wpAny_pure z)
    | (wp_walk; exact z)
theorem tcK_check {M : Model} {Q : Unit → Shared → Prop} {rest : List Value} {kw : List (Str × Value)} {E : Value → Shared → Prop} (hC : h.get? C = some (excClassObj nm q C N bs bm hdct sn sub ab col dd k0 k1 k2 k3 k5 newId))
    (hq : Q () ⟨h, g, d, t, os⟩) : wpAny M A (checkBuiltinCall "type.__call__" ⟨.ref C :: rest, kw⟩) Q E ⟨h, g, d, t, os⟩ := by
  have f3 := tc_sub
  have hT : (⟨h, g, d, t, os⟩ : Shared).TypeIs (.ref C) "type" := ⟨_, hC, rfl⟩
  simp only [checkBuiltinCall, tc_kind, tc_split]
  repeat (any_goals (first | assumption | with_reducible refine wpAny_loadPart_at hC ?_ | with_reducible refine wpAny_onRaise ?_ | with_reducible refine wpAny_map ?_ | wp_step))
theorem callK_own (F : ExcBaseFacts B newId initId bmB) (hT : ∀ X : String, bm.contains (.type X) = bmB.contains (.type X)) {rest : List Value} {kw : List (Str × Value)} {fI : Addr}
    (hC : h.get? C = some (excClassObj nm q C N bs bm hdct sn sub ab col dd k0 k1 k2 k3 k5 newId))
    (hi : W.Looks (model prog w) h (typeLookup (.ref C) "__init__") (some (.ref fI))) (hb : ∀ self, W.Looks (model prog w) h (bindSpecial (.ref fI) self) (.ref fI, [self])) (hrest : rest.length ≤ sizeLine)
    (hq : codeAny (model prog w) (A.under (.builtin "type.__call__" ⟨.ref C :: rest, kw⟩)) (.call (.ref fI) ⟨.ref (h.objs.size + 1) :: rest, kw⟩) (W.InitBack (h.objs.size + 1) R)
      ⟨(h.push (W.kdv_tup rest)).push (PySem.HandSPX.excO C h.objs.size), g, d, t, os⟩) :
    codeAny (model prog w) A (.call (.ref C) ⟨rest, kw⟩) R ⟨h, g, d, t, os⟩ := by
  have f1 := PySem.tc_lookup
  have f2 := PySem.tc_bind (.ref C)
  have hTy : (⟨h, g, d, t, os⟩ : Shared).TypeIs (.ref C) "type" := ⟨_, hC, rfl⟩
  refine codeAny_of_tree ?_
  show wpAny _ _ (callAny (.ref C) _) _ _ _
  repeat (any_goals (first | assumption | with_reducible refine wpAny_loadPart_at hC ?_ | wp_step))
  refine ⟨rfl, ?_⟩
  refine codeAny_call_builtin_at (Code.quiet_builtin _ (by decide +kernel)) entry_typeCall (tcK_check hC (typeK_own F hT hC hi hb hrest ?_))
  refine codeAny_mono hq fun r s' z => ?_
  rcases r with e | (v | _ | _ | _) <;> exact z
end
/-! the exception is kept as a thing -/
section
variable {X : Cx} {C fI : Addr} {k : Nat} {fd : FuncData} {ps : List Str} {sp : Sp} {pins : List (Addr × Obj)} {σ : L2.St} {H : Hp} {s : Shared} {a d : Addr} {fs : List (Str × V)}
theorem keep_some (I : Inv X pins σ H s) (ea : H a = some (exo a C (some d))) (ed : H d = some (exd d fs)) (hda : d ≠ a) :
    ∃ oe : Obj, Zc (.ref C) (some d) oe ∧ (∃ vs, oe.data = .fields vs) ∧ Inv X pins σ (upd (upd H d (.xd fs)) a (xobj a oe)) s := by
  have x1 : ObjOk X.prog X.w H s.heap a (exo a C (some d)) := I.hok a _ ea
  obtain ⟨t1, ho⟩ := x1.1
  have x2 : ObjOk X.prog X.w H s.heap d (exd d fs) := I.hok d _ ed
  obtain ⟨mA, hn, hr⟩ := x2.1
  refine ⟨{ cls := .ref C, dict := some d, data := .fields #[.ref t1, .none, .none, .none, .bool false, .none] }, ⟨rfl, rfl⟩, ⟨_, rfl⟩, ?_⟩
  have I1 : Inv X pins σ (upd H d (.xd fs)) s := I.write (x := d) (e := d) (t' := s.toks) (by rw [ed]; exact True.intro) (.inl rfl) (fun _ _ _ z => z) x2.2.1 ⟨mA, hn, hr⟩
  exact I1.write (x := a) (e := a) (t' := s.toks) (by rw [upd_ne (Ne.symm hda), ea]; exact True.intro) (.inl rfl) (fun _ _ _ z => z) x1.2.1 ⟨ho, x1.2.1, fun _ _ hx kp => kp _ hx⟩
theorem keep_none (I : Inv X pins σ H s) (ea : H a = some (exo a C none)) :
    ∃ oe : Obj, Zc (.ref C) none oe ∧ (∃ vs, oe.data = .fields vs) ∧ Inv X pins σ (upd H a (xobj a oe)) s := by
  have x1 : ObjOk X.prog X.w H s.heap a (exo a C none) := I.hok a _ ea
  obtain ⟨t1, ho⟩ := x1.1
  refine ⟨{ cls := .ref C, dict := none, data := .fields #[.ref t1, .none, .none, .none, .bool false, .none] }, ⟨rfl, rfl⟩, ⟨_, rfl⟩, ?_⟩
  exact I.write (x := a) (e := a) (t' := s.toks) (by rw [ea]; exact True.intro) (.inl rfl) (fun _ _ _ z => z) x1.2.1 ⟨ho, x1.2.1, fun _ _ hx kp => kp _ hx⟩
noncomputable def KeepP (a C : Addr) (Q : VK) : VK := fun v H2 => v = .non ∧ ((∃ d fs, H2 a = some (exo a C (some d)) ∧ d ≠ a ∧ H2 d = some (exd d fs) ∧ ∀ oe : Obj, Zc (.ref C) (some d) oe → (∃ vs, oe.data = .fields vs) → Q (.ref a) (upd (upd H2 d (.xd fs)) a (xobj a oe))) ∨
  (H2 a = some (exo a C none) ∧ ∀ oe : Obj, Zc (.ref C) none oe → (∃ vs, oe.data = .fields vs) → Q (.ref a) (upd H2 a (xobj a oe))))
theorem call_exV {Q : VK} {vs : List V} {rest all : List Value} {kw : List (Str × Value)} (T : OexC X.K C) (iC : PySem.W.findIn X.K (.ref C) "__init__" = some (some (.ref fI))) (tI : PySem.W.typeIn X.K (.ref fI) = some (.type "function"))
    (FI : FnG X.prog X.w X.K X.mg X.base k fI fd ps sp) (hr : Room (k + 1) X.A) (hgd : X.A.guards = some []) (hb : ∀ (s : Shared) (u : Value), X.K.In s.heap → (u :: all).length = ps.length → BindsTo s fd ⟨u :: rest, kw⟩ (ps.zip (u :: all)))
    (I : Inv X pins σ H s) (r : Vals vs all) (hl : rest.length ≤ 1000) (q : ∀ a, H a = none → sp (.ref a :: vs) (upd H a (exo a C none)) (KeepP a C Q) E0) :
    wpAny (model X.prog X.w) X.A (call (.ref C) rest kw) (EP X pins σ Q) X.xe s := by
  obtain ⟨_, _, _, _, bm, _, _, _, _, _, _, _, _, _, _, lkC, hbm⟩ := T.cls
  obtain ⟨hp, gs, dr, tk, os⟩ := s
  have sz : hp.objs.size ≤ hp.objs.size + 1 := Nat.le_add_right _ 1
  have fresh : H (hp.objs.size + 1) = none := I.hok.fresh sz
  have hs := q _ fresh
  have up : ∀ b o, hp.get? b = some o → ((hp.push (PySem.W.kdv_tup rest)).push (PySem.HandSPX.excO C hp.objs.size)).get? b = some o := fun b o z => Heap.get?_push_of_some _ (Heap.get?_push_of_some _ z)
  have at1 : ((hp.push (PySem.W.kdv_tup rest)).push (PySem.HandSPX.excO C hp.objs.size)).get? (hp.objs.size + 1) = some (PySem.HandSPX.excO C hp.objs.size) := by heap_get
  have J := I.laid (t' := tk) (a := hp.objs.size + 1) (o := exo (hp.objs.size + 1) C none) (h' := (hp.push (PySem.W.kdv_tup rest)).push (PySem.HandSPX.excO C hp.objs.size)) up sz (exo_ok at1)
  have rs : Vals (V.ref (hp.objs.size + 1) :: vs) (Value.ref (hp.objs.size + 1) :: all) := .cons rfl r
  have ln : (Value.ref (hp.objs.size + 1) :: all).length = ps.length := by rw [← rs.length, FI.len _ _ _ _ hs]
  have bd := hb _ (Value.ref (hp.objs.size + 1)) J.kIn ln
  have ul : rest.length ≤ sizeLine := by
    rw [sizeLine_eq]
    omega
  refine wpAny_call (callK_own F.excBase_ValueError (fun Y => PySem.HandSPX.refsVE_contains Y bm hbm) (I.kIn _ _ lkC) (PySem.W.looks_findIn I.kIn iC) (fun self => PySem.W.bind_fn I.kIn self tI) ul
    (codeAny_mono (FI.run _ X.stack _ _ ⟨Value.ref (hp.objs.size + 1) :: rest, kw⟩ (Value.ref (hp.objs.size + 1) :: all) _ _ (hr.make C rest kw) hgd (J.env0.make C rest kw) bd rs hs) fun out s' z => ?_))
  match out, z with
  | .error er, z => exact False.elim z
  | .ok (.ret u), z =>
    obtain ⟨v, H2, I3, rv, ev, q3⟩ := J.after z
    subst ev
    refine ⟨rv, ?_⟩
    rcases q3 with ⟨d, fs, ea, hda, ed, q4⟩ | ⟨ea, q4⟩
    · obtain ⟨oe, hz, hf, I4⟩ := keep_some I3 ea ed hda
      exact ⟨.ref _, _, I4, rfl, q4 oe hz hf⟩
    · obtain ⟨oe, hz, hf, I4⟩ := keep_none I3 ea
      exact ⟨.ref _, _, I4, rfl, q4 oe hz hf⟩
  | .ok .next, z => exact False.elim z
  | .ok .brk, z => exact False.elim z
  | .ok .cont, z => exact False.elim z
noncomputable def tExV (C : Addr) (sp : Sp) (ta : TA) : TE := fun σ H Q => ta σ H fun vs H1 => vs.length ≤ 1000 ∧ ∀ a, H1 a = none → sp (.ref a :: vs) (upd H1 a (exo a C none)) (KeepP a C Q) E0
theorem pe_exV {x : Str} {e : Expr} {es : List Expr} {ta : TA} {p pos : Pos} (T : OexC X.K C) (iC : PySem.W.findIn X.K (.ref C) "__init__" = some (some (.ref fI))) (tI : PySem.W.typeIn X.K (.ref fI) = some (.type "function"))
    (FI : FnG X.prog X.w X.K X.mg X.base k fI fd ps sp) (hr : Here (k + 1) X.A) (hb : Binds X.K fd ps []) (hg : Gl X x) (hm : X.mg x = some (.ref C)) (ha : PA X (e :: es) ta)
    (hdb : (x == ("__debug__" : Str)) = false := by decide) (he : starEach (e :: es) X.env = (false, eval e X.env) :: starEach es X.env := by rfl) (hpl : (backTo pos (starEach es X.env)).any (·.1) = false := by rfl) :
    PE X (.Call (.Name x p) (e :: es) [] pos) (tExV C sp ta) := ⟨fun pins s σ H Q I h =>
  wpAny_Call_Name_kw (ld_glob I hg hm (PySem.W.callWith_K (h₀ := X.base) I.ok.mod.kin T.kC (thn (ha.run pos pins s σ H _ I h) fun us s1 ⟨vs, H1, I1, r1, hz, q1⟩ => ⟨I1.kIn, call_exV (all := us) T iC tI FI hr.room hr.gd (fun s u K l => by
    have b := hb s (u :: us) K (by rw [List.append_nil]; exact l)
    rw [List.append_nil] at b
    exact b) I1 r1 (show us.length ≤ 1000 by rw [← Paired.length r1]; exact hz) q1⟩) he hpl) hdb)⟩
theorem pe_exV0 {x : Str} {p pos : Pos} (T : OexC X.K C) (iC : PySem.W.findIn X.K (.ref C) "__init__" = some (some (.ref fI))) (tI : PySem.W.typeIn X.K (.ref fI) = some (.type "function"))
    (FI : FnG X.prog X.w X.K X.mg X.base k fI fd ps sp) (hr : Here (k + 1) X.A) (hb : Binds X.K fd ps []) (hg : Gl X x) (hm : X.mg x = some (.ref C)) (hdb : (x == ("__debug__" : Str)) = false := by decide) :
    PE X (.Call (.Name x p) [] [] pos) (tExV C sp tNil) := ⟨fun pins s σ H Q I h =>
  wpAny_Call_Name_kw (ld_glob I hg hm (PySem.W.callWith_K0 I.kIn T.kC (call_exV (all := []) (vs := []) T iC tI FI hr.room hr.gd (fun s u K l => by
    have b := hb s [u] K (by rw [List.append_nil]; exact l)
    rw [List.append_nil] at b
    exact b) I .nil (Nat.zero_le _) h.2)) hdb)⟩
theorem pe_exVK {x : Str} {ks : List Str} {kws : List Keyword} {ta : TA} {p pos : Pos} (T : OexC X.K C) (iC : PySem.W.findIn X.K (.ref C) "__init__" = some (some (.ref fI))) (tI : PySem.W.typeIn X.K (.ref fI) = some (.type "function"))
    (FI : FnG X.prog X.w X.K X.mg X.base k fI fd ps sp) (hr : Here (k + 1) X.A) (hb : BindKs fd ps ks) (hg : Gl X x) (hm : X.mg x = some (.ref C)) (hkw : PK X kws ta)
    (hall : (backToKw pos (keywordEach kws X.env)).all (·.1.isSome) = true := by rfl) (hks : (backToKw pos (keywordEach kws X.env)).filterMap (·.1) = ks := by rfl) (hdb : (x == ("__debug__" : Str)) = false := by decide)
    (hpl : ((backTo pos (starEach [] X.env)).any (·.1) || (backToKw pos (keywordEach kws X.env)).any (·.1.isNone)) = false := by rfl) :
    PE X (.Call (.Name x p) [] kws pos) (tExV C sp ta) := ⟨fun pins s σ H Q I h => by
  refine wpAny_Call_Name_kw (ld_glob I hg hm ?_ hdb)
  refine PySem.W.callWith_KW0 (h₀ := X.base) I.ok.mod.kin T.kC hall (thn (hkw.run pos pins s σ H _ I h) fun us s1 ⟨vs, H1, I1, r1, hz, q1⟩ => ⟨I1.kIn, ?_⟩) hpl
  rw [hks]
  exact call_exV (rest := []) (all := us) T iC tI FI hr.room hr.gd (fun s u K l => hb s u us l) I1 r1 (Nat.zero_le _) q1⟩
end
end Dl

namespace Dl
open PySem PySem.Spec PyProof.Rows L2
/-! ### own exceptions as objects: made, asked, read -/
noncomputable def exT (C : Addr) (o : Option (Str × PyData)) : OwnT where
  rel := fun K B p ho => ∃ oe : Obj, ho = xobj p oe ∧ (∃ vs, oe.data = .fields vs) ∧ ((∃ fld x d v, o = some (fld, x) ∧ Zc (.ref C) (some d) oe ∧ B d = some (.xd [(fld, v)]) ∧ Dl.Dp K B v x) ∨ (o = none ∧ Zc (.ref C) none oe))
  mono := fun {_ _ _ _ _} s h => by
    obtain ⟨oe, e, h1, h2⟩ := h
    refine ⟨oe, e, h1, ?_⟩
    rcases h2 with ⟨fld, x, d, v, e1, e2, e3, e4⟩ | h2
    · exact .inl ⟨fld, x, d, v, e1, e2, s d _ e3, dpSame s _ _ e4⟩
    · exact .inr h2
structure ExVDef (P : Program) (w : World) (K : PySem.W.Frag) (mg : Str → Option Value) (base : Heap) (k : Nat) (x fld : Str) (ok : PyData → Prop) (C : Addr) : Prop where
  oex : OexC K C
  ex : ∃ (fI : Addr) (fdI : FuncData), PySem.W.findIn K (.ref C) "__init__" = some (some (.ref fI)) ∧ PySem.W.typeIn K (.ref fI) = some (.type "function") ∧ FnG P w K mg base k fI fdI ["self", fld] (spExI K C fld ok) ∧ Binds K fdI ["self", fld] [] ∧ BindKs fdI ["self", fld] [fld]
  mgC : mg x = some (.ref C)
  xfc : XfC K C
  nof : PySem.W.findIn K (.ref C) fld = some none
noncomputable def spExI0 (K : PySem.W.Frag) (C : Addr) : Sp := fun vs H Q _ => ∃ a : Addr, vs = [.ref a] ∧ H a = some (exo a C none) ∧ Q .non H
structure ExV0Def (P : Program) (w : World) (K : PySem.W.Frag) (mg : Str → Option Value) (base : Heap) (k : Nat) (x : Str) (C : Addr) : Prop where
  oex : OexC K C
  ex : ∃ (fI : Addr) (fdI : FuncData), PySem.W.findIn K (.ref C) "__init__" = some (some (.ref fI)) ∧ PySem.W.typeIn K (.ref fI) = some (.type "function") ∧ FnG P w K mg base k fI fdI ["self"] (spExI0 K C) ∧ Binds K fdI ["self"] []
  mgC : mg x = some (.ref C)
noncomputable def dExV (C : Addr) (fld : Str) (ok : PyData → Prop) (wr : DAM) : DEM := fun ρ ms n Q => wr ρ ms n fun rs ms1 n1 => ∃ y, rs = [.d y] ∧ ok y ∧ ∀ a, Q (.obj a) (ownM a (exT C (some (fld, y))) :: ms1) n1
noncomputable def dExV0 (C : Addr) : DEM := fun ρ ms n Q => ∀ a, Q (.obj a) (ownM a (exT C none) :: ms) n
theorem up_exV {K : PySem.W.Frag} {E : Ent} {C : Addr} {fld : Str} {ok : PyData → Prop} {wr : DAM} (σ : L2.St) (H : Hp) (Q : VK) (hu : upM K E (dExV C fld ok wr) σ H Q) : tExV C (spExI K C fld ok) (upAM K E wr) σ H Q := by
  obtain ⟨ρ, ms, n, B, M, bxs, Qd, h, w1, q⟩ := hu
  refine ⟨ρ, ms, n, B, M, bxs, _, h, w1, fun rs ms1 n1 vs B1 H1 hq h1 sb vr => ?_⟩
  obtain ⟨y, rfl, hok, hq⟩ := hq
  obtain ⟨v, rfl, dv⟩ : ∃ v, vs = [v] ∧ Dl.Dp K B1 v y := by
    match vs, vr with
    | [v], h => exact ⟨v, rfl, h.1⟩
  refine ⟨by show 1 ≤ 1000; decide, fun a ha => ?_⟩
  have kb : Same B1 (upd H1 a (exo a C none)) := fun c u z => by
    rw [upd_ne (fun t => by rw [t] at z; rw [h1.sv.g.sub _ _ z] at ha; cases ha)]
    exact h1.sv.g.sub c u z
  refine ⟨a, v, y, B1, rfl, upd_same, kb, dv, hok, fun d hd hda => ⟨rfl, .inl ⟨d, [(fld, v)], upd_same, hda, by rw [upd_ne hda, upd_same], fun oe hz hf => ?_⟩⟩⟩
  rw [upd_ne hda] at hd
  have eH : upd (upd (upd (upd (upd H1 a (exo a C none)) d (exd d [(fld, v)])) a (exo a C (some d))) d (.xd [(fld, v)])) a (xobj a oe) = upd (upd H1 d (.xd [(fld, v)])) a (xobj a oe) := by
    funext c
    by_cases c1 : c = a
    · rw [c1, upd_same, upd_same]
    · rw [upd_ne c1, upd_ne c1]
      by_cases c2 : c = d
      · rw [c2, upd_same, upd_same]
      · rw [upd_ne c2, upd_ne c1, upd_ne c2, upd_ne c1, upd_ne c2]
  rw [eH]
  have sl : Step bxs n1 n1 B1 H1 (upd B1 d (.xd [(fld, v)])) (upd H1 d (.xd [(fld, v)])) := h1.sv.g.refl.lay h1.sv.g hd
  have ha2 : upd H1 d (.xd [(fld, v)]) a = none := by rw [upd_ne (Ne.symm hda)]; exact ha
  have h3 := mx_lay (T := exT C (some (fld, y))) (h1.step sl) ha2 (o := xobj a oe) ⟨oe, rfl, hf, .inl ⟨fld, y, d, v, rfl, hz, upd_same, dpSame sl.b1 _ _ dv⟩⟩
  exact q _ _ _ _ _ _ (hq a) h3 (sb.trans sl.b1) rfl
section
variable {X : Cx} {E : Ent} {C : Addr} {k : Nat} {x fld : Str} {ok : PyData → Prop} {e : Expr} {wr : DAM} {we : DEM} {p pos kpos : Pos} {nm : Option Str}
theorem lem_exV (D : ExVDef X.prog X.w X.K X.mg X.base k x fld ok C) (hr : Here (k + 1) X.A) (hg : Gl X x) (ha : LAM X E [e] wr) (hdb : (x == ("__debug__" : Str)) = false := by decide)
    (he : starEach [e] X.env = (false, eval e X.env) :: starEach [] X.env := by rfl) (hpl : (backTo pos (starEach [] X.env)).any (·.1) = false := by rfl) : LEM X E (.Call (.Name x p) [e] [] pos) (dExV C fld ok wr) := by
  obtain ⟨fI, fdI, iC, tI, FI, hb, _⟩ := D.ex
  exact pe_imp (pe_exV D.oex iC tI FI hr hb hg D.mgC ha hdb he hpl) up_exV
theorem lem_exVK (D : ExVDef X.prog X.w X.K X.mg X.base k x fld ok C) (hr : Here (k + 1) X.A) (hg : Gl X x) (ha : LEM X E e we)
    (hall : (backToKw pos (keywordEach [⟨nm, e, kpos⟩] X.env)).all (·.1.isSome) = true := by rfl) (hks : (backToKw pos (keywordEach [⟨nm, e, kpos⟩] X.env)).filterMap (·.1) = [fld] := by rfl) (hdb : (x == ("__debug__" : Str)) = false := by decide)
    (hpl : ((backTo pos (starEach [] X.env)).any (·.1) || (backToKw pos (keywordEach [⟨nm, e, kpos⟩] X.env)).any (·.1.isNone)) = false := by rfl) : LEM X E (.Call (.Name x p) [] [⟨nm, e, kpos⟩] pos) (dExV C fld ok (dConsM we dNilM)) := by
  obtain ⟨fI, fdI, iC, tI, FI, _, hb⟩ := D.ex
  exact pe_imp (pe_exVK D.oex iC tI FI hr hb hg D.mgC (lkm_one ha) hall hks hdb hpl) up_exV
theorem lem_exV0 (D : ExV0Def X.prog X.w X.K X.mg X.base k x C) (hr : Here (k + 1) X.A) (hg : Gl X x) (hdb : (x == ("__debug__" : Str)) = false := by decide) : LEM X E (.Call (.Name x p) [] [] pos) (dExV0 C) := by
  obtain ⟨fI, fdI, iC, tI, FI, hb⟩ := D.ex
  refine pe_imp (pe_exV0 D.oex iC tI FI hr hb hg D.mgC hdb) fun σ H Q hu => ?_
  obtain ⟨ρ, ms, n, B, M, bxs, Qd, h, hq, q⟩ := hu
  refine ⟨Nat.zero_le _, fun a ha => ⟨a, rfl, upd_same, rfl, .inr ⟨upd_same, fun oe hz hf => ?_⟩⟩⟩
  have eH : upd (upd H a (exo a C none)) a (xobj a oe) = upd H a (xobj a oe) := by
    funext c
    by_cases c1 : c = a
    · rw [c1, upd_same, upd_same]
    · rw [upd_ne c1, upd_ne c1, upd_ne c1]
  rw [eH]
  exact q _ _ _ _ _ _ (hq a) (mx_lay (T := exT C none) h ha (o := xobj a oe) ⟨oe, rfl, hf, .inr ⟨rfl, hz⟩⟩) (Same.refl _) rfl
end
/-! C(), a class without an __init__ of its own -/
section
variable {X : Cx} {pins : List (Addr × Obj)} {σ : L2.St} {H : Hp} {s : Shared} {a : Addr} {cls : Value}
theorem keep_exO (I : Inv X pins σ H s) (ea : H a = some (ExO cls a)) : ∃ oe : Obj, Zc cls none oe ∧ (∃ vs, oe.data = .fields vs) ∧ Inv X pins σ (upd H a (xobj a oe)) s := by
  have x1 : ObjOk X.prog X.w H s.heap a (ExO cls a) := I.hok a _ ea
  obtain ⟨oe, vs, ho, hz, hd, _⟩ := x1.1
  exact ⟨oe, hz, ⟨vs, hd⟩, I.write (x := a) (e := a) (t' := s.toks) (by rw [ea]; exact True.intro) (.inl rfl) (fun _ _ _ z => z) x1.2.1 ⟨ho, x1.2.1, fun _ _ hx kp => kp _ hx⟩⟩
theorem pe_exc0 {C : Addr} {bmB : List Value} {B newId initId : String} {x : Str} {p pos : Pos} (F : ExcBaseFacts B newId initId bmB) (q : PySem.W.excIn X.K C bmB newId = true) (gC : X.mg x = some (.ref C)) (kC : PySem.W.keepIn X.K (.ref C) = true) (hg : Gl X x) (hdb : (x == ("__debug__" : Str)) = false := by decide) :
    PE X (.Call (.Name x p) [] [] pos) (fun σ H Q => ∀ a, H a = none → ∀ oe : Obj, Zc (.ref C) none oe → (∃ vs, oe.data = .fields vs) → Q (.ref a) (upd H a (xobj a oe))) := by
  refine ⟨fun pins s σ H Q I h => ?_⟩
  refine wpAny_Call_Name_kw (ld_glob I hg gC ?_ hdb)
  refine PySem.W.callWith_K0 I.kIn kC ?_
  obtain ⟨bm, N, nm, qn, bs, hdct, sn, sub, ab, col, dd, k0, k1, k2, k3, k5, mN, hC, hN, hni, T⟩ := exc_obj I.kIn q
  refine wpAny_call_exc_subT F T hC hN hni (fun h' a hm => ?_) (by show 0 ≤ sizeLine; exact Nat.zero_le _)
  have hn : H a = none := I.hok.gone hm.new
  obtain ⟨t, ht, _, _⟩ := hm.there
  have I2 := I.laidN (t' := s.toks) hm.keeps hm.new hn (exO_ok (cls := .ref C) ht ⟨rfl, rfl⟩ rfl rfl rfl (show 4 < 6 by decide))
  obtain ⟨oe, hz, hf, I3⟩ := keep_exO I2 upd_same
  have eH : upd (upd H a (ExO (.ref C) a)) a (xobj a oe) = upd H a (xobj a oe) := by
    funext c
    by_cases c1 : c = a
    · rw [c1, upd_same, upd_same]
    · rw [upd_ne c1, upd_ne c1, upd_ne c1]
  rw [eH] at I3
  exact ⟨.ref a, _, I3, rfl, h a hn oe hz hf⟩
end
theorem lem_exP {X : Cx} {E : Ent} {C : Addr} {bmB : List Value} {B newId initId : String} {x : Str} {p pos : Pos} (F : ExcBaseFacts B newId initId bmB) (q : PySem.W.excIn X.K C bmB newId = true) (gC : X.mg x = some (.ref C)) (kC : PySem.W.keepIn X.K (.ref C) = true) (hg : Gl X x) (hdb : (x == ("__debug__" : Str)) = false := by decide) :
    LEM X E (.Call (.Name x p) [] [] pos) (dExV0 C) := pe_imp (pe_exc0 F q gC kC hg hdb) fun σ H Q hu => by
  obtain ⟨ρ, ms, n, B, M, bxs, Qd, h, hq, q⟩ := hu
  exact fun a ha oe hz hf => q _ _ _ _ _ _ (hq a) (mx_lay (T := exT C none) h ha (o := xobj a oe) ⟨oe, rfl, hf, .inr ⟨rfl, hz⟩⟩) (Same.refl _) rfl
/-! isinstance(x, D), x a name of a thing of one of the classes CS -/
noncomputable def IsAll (K : PySem.W.Frag) (CS : List Addr) (cv : Value) (f : Nat → Bool) : Prop := ∀ i C, CS[i]? = some C → IsxC K C ∧ PySem.W.kitOne K (.ref C) cv = some (f i)
noncomputable def dIsG (j : Nat) (CS : List Addr) (f : Nat → Bool) : DE := fun ρ n Q => ∃ i C o, CS[i]? = some C ∧ ρ[j]? = some (some (.own (exT C o))) ∧ Q (.d (.bool (f i))) n
noncomputable def rIsG (K : PySem.W.Frag) : List V → Hp → VK → Prop := fun xs H Q => ∃ (C a : Addr) (c : V) (cv : Value) (b : Bool) (oe : Obj), xs = [.ref a, c] ∧ H a = some (xobj a oe) ∧ (∃ vs, oe.data = .fields vs) ∧ ((∃ d fs, Zc (.ref C) (some d) oe ∧ H d = some (.xd fs)) ∨ Zc (.ref C) none oe) ∧ (∀ u, RelV c u → u = cv) ∧ IsxC K C ∧ PySem.W.kitOne K (.ref C) cv = some b ∧ Q (.bl b) H
theorem xobj_in {X : Cx} {pins : List (Addr × Obj)} {σ : L2.St} {H : Hp} {s : Shared} {a C : Addr} {oe : Obj} (I : Inv X pins σ H s) (ha : H a = some (xobj a oe)) (hf : ∃ vs, oe.data = .fields vs) (hz : (∃ d fs, Zc (.ref C) (some d) oe ∧ H d = some (.xd fs)) ∨ Zc (.ref C) none oe) :
    ∃ od : Option Obj, PySem.W.InstAt s.heap a oe C od := by
  rcases hz with ⟨d, fs, hz, hd⟩ | hz
  · obtain ⟨od, mA, J, _⟩ := xobj_at I ha hz hf hd
    exact ⟨_, J⟩
  · have e : ObjOk X.prog X.w H s.heap a (.ext fun h => h.get? a = some oe) := I.hok a _ ha
    have he := e.1
    obtain ⟨vs, hv⟩ := hf
    exact ⟨none, he, hz.1, by unfold PySem.W.notCls; rw [hv] <;> rfl, by rw [hz.2]; trivial⟩
theorem call_isG {X : Cx} : CallR X (.builtin "isinstance") (rIsG X.K) := by
  intro pins s σ H xs us Q I r h
  obtain ⟨C, a, c, cv, b, oe, rfl, ha, hf, hz, hcv, T, e, q⟩ := h
  cases r with
  | cons rx rr =>
    cases rr with
    | cons rt rr =>
      cases rr
      cases rx
      have ec := hcv _ rt
      subst ec
      obtain ⟨od, J⟩ := xobj_in I ha hf hz
      exact PySem.W.kia_one (PySem.W.kitx_exc T.hcl T.hga T.hgt T.hsub T.ha T.hn T.htk T.hm) I.kIn J e (fun z => nomatch z) fun tk => ⟨.bl b, H, I.kept (t' := tk) fun _ _ z => z, rfl, q⟩
section
variable {X : Cx} {x nm fld : Str} {p p1 p2 pos : Pos}
theorem le_isG (j : Nat) {CS : List Addr} {f : Nat → Bool} {c : V} {cv : Value} (T : IsAll X.K CS cv f) (hg : Gl X "isinstance") (hm : X.mg "isinstance" = none) (hcv : ∀ u, RelV c u → u = cv) (hc : PE X (.Name nm p2) (tC c)) (hN : X.N[j]? = some x := by rfl)
    (hv : Vis X.env.scope x := by first | exact Or.inl rfl | exact Or.inr (Or.inl rfl) | exact Or.inr (Or.inr rfl)) (hd : (x == ("__debug__" : Str)) = false := by decide) (hcd : (x == ("__classdict__" : Str)) = false := by decide)
    (hs : starEach [.Name x p1, .Name nm p2] X.env = (false, eval (.Name x p1) X.env) :: starEach [.Name nm p2] X.env := by rfl) (hs2 : starEach [.Name nm p2] X.env = (false, eval (.Name nm p2) X.env) :: starEach [] X.env := by rfl) (hpl : (backTo pos (starEach [.Name nm p2] X.env)).any (·.1) = false := by rfl) :
    LE X (.Call (.Name "isinstance" p) [.Name x p1, .Name nm p2] [] pos) (dIsG j CS f) :=
  pe_imp (pe_callB call_isG hg hm (by decide +kernel) (pa_cons (pe_var hN hv hd hcd) (pa_cons hc pa_nil hs2) hs) (he := hs) (hpl := hpl)) fun σ H Q hu => by
    obtain ⟨ρ, n, B, bxs, Qd, g, en, ⟨i, C, o, hi, hj, hq⟩, q⟩ := hu
    obtain ⟨u, e3, pa, ho, rfl, a1, a2, a3, oe, rfl, hf, hz⟩ := en.val j _ hj
    obtain ⟨T1, T2⟩ := T i C hi
    refine ⟨.ref pa, e3, C, pa, c, cv, f i, oe, rfl, a3, hf, ?_, hcv, T1, T2, q _ _ _ _ _ hq g.refl (.bl (f i)) trivial⟩
    rcases hz with ⟨fld, x, d, v, _, hz, hd, _⟩ | ⟨_, hz⟩
    · exact .inl ⟨d, _, hz, g.sub d _ hd⟩
    · exact .inr hz
end
/-! an object read as an own thing -/
noncomputable def dAsX (i : Nat) (w : DE) : DEM := fun ρ ms n Q => ∃ a T, ρ[i]? = some (some (.obj a)) ∧ ownM a T ∈ ms ∧ w (ρ.set i (some (.own T))) n fun r n1 => okM r fun r' => Q r' ms n1
noncomputable def dAsXT (i : Nat) (w : DT) : DTM := fun ρ ms n Q => ∃ a T, ρ[i]? = some (some (.obj a)) ∧ ownM a T ∈ ms ∧ w (ρ.set i (some (.own T))) n fun b n1 => Q b ms n1
noncomputable def dSetAsX (i j : Nat) (w : DE) : DSM := fun D ρ ms n => ∃ a T, ρ[i]? = some (some (.obj a)) ∧ ownM a T ∈ ms ∧ w (ρ.set i (some (.own T))) n fun r n1 => isOwn r ∧ D.nx (ρ.set j (some r)) ms n1
noncomputable def dExtAsX (i j : Nat) (w : DE) : DSM := fun D ρ ms n => i ≠ j ∧ ∃ a T, ρ[i]? = some (some (.obj a)) ∧ ownM a T ∈ ms ∧ onS ρ[j]? fun xs => w (ρ.set i (some (.own T))) n fun r n1 => onN r fun ys => xs.length + ys.length ≤ sizeLine ∧ D.nx (ρ.set j (some (.new (xs ++ ys)))) ms n1
theorem own_env {K : PySem.W.Frag} {E : Ent} {M : Hp} {n : Nat} {B H : Hp} {bxs : List Addr} {σ : L2.St} {ρ : DEnv} {ms : MS} {a : Addr} {T : OwnT} {i : Nat} (h : MX K E M n B H bxs σ ρ ms) (hi : ρ[i]? = some (some (.obj a))) (hm : ownM a T ∈ ms) : EnvR K bxs n B H σ (ρ.set i (some (.own T))) := by
  obtain ⟨s, t, rfl⟩ := List.append_of_mem hm
  exact (mx_adopt (h.perm (List.perm_middle)) hi).sv.env
section
variable {X : Cx} {E : Ent} {e : Expr}
theorem lem_asX {w : DE} (i : Nat) (h : LE X e w) : LEM X E e (dAsX i w) := pe_imp h fun σ H Q hu => by
  obtain ⟨ρ, ms, n, B, M, bxs, Qd, h, ⟨a, T, hi, hm, w1⟩, q⟩ := hu
  refine ⟨_, n, B, bxs, _, h.sv.g, own_env h hi hm, w1, fun r n1 v B1 H1 hq s1 vr fr => ?_⟩
  obtain ⟨r', B2, hf, h2, sb, vr2⟩ := okM_inv h s1 vr fr hq
  exact q _ _ _ _ _ _ hf h2 sb vr2
theorem ltm_asX {w : DT} (i : Nat) (h : LT X e w) : LTM X E e (dAsXT i w) := pt_imp h fun σ H Q hu => by
  obtain ⟨ρ, ms, n, B, M, bxs, Qd, h, ⟨a, T, hi, hm, w1⟩, q⟩ := hu
  exact ⟨_, n, B, bxs, _, h.sv.g, own_env h hi hm, w1, fun b n1 B1 H1 hq s1 => q _ _ _ _ _ hq (h.step s1) s1.b1⟩
theorem lsm_setAsX {x : Str} {pos pos' : Pos} {we : DE} (i j : Nat) (hN : X.N.Nodup) (he : LE X e we) (hi : X.N[j]? = some x := by rfl) (hx : Loc X.env.scope x := by first | exact Or.inl rfl | exact Or.inr rfl) (hs : swapsWith e (some (.Name x pos')) pos.line X.env = pure false := by rfl)
    (hf : X.fn x = true ∨ X.env.scope.names.lookup x = some .local := by first | exact .inl rfl | exact .inr rfl | assumption) : LSM X E (.Assign [.Name x pos'] e pos) (dSetAsX i j we) := ps_imp (ps_set hN hi hx he hs hf) fun D σ H hu => by
  obtain ⟨ρ, ms, n, B, M, bxs, Dd, h, ⟨a, T, ha, hm, w1⟩, q⟩ := hu
  refine ⟨_, n, B, bxs, _, h.sv.g, own_env h ha hm, w1, fun r n1 v B1 H1 hq s1 vr fr => ?_⟩
  obtain ⟨ow, hq⟩ := hq
  exact q.nx _ _ _ _ _ _ _ (h.outer (own_inv (i := j) ow h.inner s1 vr fr)) hq
theorem lsm_extAsX {x : Str} {pos apos cpos p1 : Pos} {we : DE} (i j : Nat) (he : LE X e we) (hN : X.N[j]? = some x := by rfl) (hv : Vis X.env.scope x := by first | exact Or.inl rfl | exact Or.inr (Or.inl rfl) | exact Or.inr (Or.inr rfl)) (hd : (x == ("__debug__" : Str)) = false := by decide) (hcd : (x == ("__classdict__" : Str)) = false := by decide)
    (hbase : attributeBase (.Name x p1) "extend" X.env (eval (.Name x p1) X.env) = eval (.Name x p1) X.env := by rfl)
    (hfew : ((backTo cpos (starEach [e] X.env)).all (fun x => !x.1) && (backToKw cpos (keywordEach [] X.env)).all (fun x => x.1.isSome)
      && decide ([e].length + ([] : List Keyword).length + (if ([] : List Keyword).isEmpty then 0 else 1) < 30)) = true := by rfl)
    (hline : (apos.endLine == cpos.line) = true := by rfl) (hs : starEach [e] X.env = (false, eval e X.env) :: starEach [] X.env := by rfl) (hpl : (backTo cpos (starEach [] X.env)).any (·.1) = false := by rfl)
    (hsw : swapsWith (.Call (.Attribute (.Name x p1) "extend" apos) [e] [] cpos) none pos.line X.env = pure false := by rfl) :
    LSM X E (.Expr (.Call (.Attribute (.Name x p1) "extend" apos) [e] [] cpos) pos) (dExtAsX i j we) := by
  refine ps_imp (ps_expr (pe_bm PySem.F.plainAttrs_list PySem.F.slot_list_extend PySem.F.type_list_extend mt_extend (pe_var hN hv hd hcd) (pa_cons he pa_nil hs) hbase hfew hline hs hpl) hsw) fun D σ H hu => ?_
  obtain ⟨ρ, ms, n, B, M, bxs, Dd, h, ⟨hij, a, T, ha, hm, w1⟩, q⟩ := hu
  obtain ⟨xs, e1, w1⟩ := onS_ex w1
  obtain ⟨u, e3, p, vs, rfl, a1, a2, a3, a4⟩ := h.sv.env.val j _ e1
  refine ⟨.ref p, e3, .inl ⟨rfl, _, .inl (.inl a3)⟩, ?_⟩
  refine ⟨_, n, B, bxs, _, h.sv.g, own_env h ha hm, w1, fun r n1 v B1 H1 hq s1 vr fr => ?_⟩
  obtain ⟨ys, rfl, hl, hq⟩ := onN_ex hq
  obtain ⟨p', us, rfl, c1, c2, c3, c4⟩ := vr
  have h2 := h.inner.step s1
  have b3 : H1 p = some (.lst vs) := s1.h1 p _ a1 a3
  have b4 : DpAll X.K B1 vs xs := dpSameAll s1.b1 _ _ a4
  exact ⟨p, p', vs, us, rfl, rfl, b3, c3, by rw [dpLen _ _ a4, dpLen _ _ c4]; exact hl, q.nx _ _ _ _ _ _ _ (h.outer (h2.write e1 e3 (dpApp _ _ _ _ b4 c4))) hq⟩
end
end Dl

namespace Dl
open PySem PySem.Spec PyProof.Rows L2
/-! ### lists of objects: an item, its field; for over a tuple of objects, over enumerate -/
noncomputable def dIxA (k : Int) (wa : DEM) : DEM := fun ρ ms n Q => wa ρ ms n fun r ms1 n1 => ∃ st as a, r = .obj st ∧ ownM st (listA as) ∈ ms1 ∧ atI as k = some a ∧ Q (.obj a) ms1 n1
noncomputable def dFldX (C : Addr) (fld : Str) (wo : DEM) : DEM := fun ρ ms n Q => wo ρ ms n fun r ms1 n1 => ∃ a y, r = .obj a ∧ ownM a (exT C (some (fld, y))) ∈ ms1 ∧ Q (.d y) ms1 n1
noncomputable def tupA (as : List Addr) : OwnT where
  rel := fun _ _ _ o => o = .tup (as.map V.ref)
  mono := fun _ h => h
noncomputable def dTupA (wr : DAM) : DEM := fun ρ ms n Q => wr ρ ms n fun rs ms1 n1 => ∃ as, rs = as.map RV.obj ∧ as.length ≤ sizeLine ∧ ∀ p, Q (.obj p) (ownM p (tupA as) :: ms1) n1
noncomputable def dForXT (j : Nat) (wa : DEM) (w : DSM) : DSM := fun D ρ ms n => wa ρ ms n fun r ms1 n1 => ∃ st as, r = .obj st ∧ ownM st (tupA as) ∈ ms1 ∧ ∃ Inv : Nat → DEnv → MS → Nat → Prop, Inv 0 ρ ms1 n1 ∧
  (∀ k ρ ms n a, Inv k ρ ms n → as[k]? = some a → ownM st (tupA as) ∈ ms ∧ w { nx := Inv (k + 1), ct := Inv (k + 1), bk := D.nx, rt := D.rt } (ρ.set j (some (.obj a))) ms n) ∧
  ∀ ρ ms n, Inv as.length ρ ms n → ownM st (tupA as) ∈ ms ∧ D.nx ρ ms n
noncomputable def dForEX (i j : Nat) (wa : DEM) (w : DSM) : DSM := fun D ρ ms n => wa ρ ms n fun r ms1 n1 => ∃ st as, r = .obj st ∧ ownM st (listA as) ∈ ms1 ∧ ∃ Inv : Nat → DEnv → MS → Nat → Prop, Inv 0 ρ ms1 n1 ∧
  (∀ k ρ ms n a, Inv k ρ ms n → as[k]? = some a → ownM st (listA as) ∈ ms ∧ w { nx := Inv (k + 1), ct := Inv (k + 1), bk := D.nx, rt := D.rt } ((ρ.set i (some (.d (.int (k : Int))))).set j (some (.obj a))) ms n) ∧
  ∀ ρ ms n, Inv as.length ρ ms n → ownM st (listA as) ∈ ms ∧ D.nx ρ ms n
theorem atI_map {α β : Type} (f : α → β) {xs : List α} {k : Int} {x : α} (h : atI xs k = some x) : atI (xs.map f) k = some (f x) := by
  unfold atI at h ⊢
  rw [List.length_map]
  obtain ⟨j, e1, e2⟩ := Option.bind_eq_some_iff.mp h
  exact Option.bind_eq_some_iff.mpr ⟨j, e1, by rw [List.getElem?_map, e2]; rfl⟩
section
variable {X : Cx} {E : Ent} {a e : Expr} {es : List Expr} {body : List Stmt} {wa wo : DEM} {wr : DAM} {w : DSM} {pos py p1 p2 : Pos} {y y2 fld : Str} {C : Addr}
theorem lem_ixA {k : Int} {jj} (ha : LEM X E a wa) (hs : PlainIx (.Constant (.int k) jj p1) := by exact fun _ _ => rfl) : LEM X E (.Subscript a (.Constant (.int k) jj p1) pos) (dIxA k wa) := pe_imp (pe_ix ix_list ha pe_int hs) fun σ H Q hu => by
  obtain ⟨ρ, ms, n, B, M, bxs, Qd, h, w1, q⟩ := hu
  refine ⟨ρ, ms, n, B, M, bxs, _, h, w1, fun r ms1 n1 v B1 H1 hq h1 sb vr => ?_⟩
  obtain ⟨st, as, a, rfl, hm, ha, hq⟩ := hq
  cases vr
  exact ⟨st, as.map V.ref, k, .ref a, rfl, rfl, SqL.of (at_lstA h1 hm), atI_map V.ref ha, q _ _ _ _ _ _ hq h1 sb rfl⟩
theorem lem_fldX (T : XfC X.K C) (hno : PySem.W.findIn X.K (.ref C) fld = some none) (ho : LEM X E e wo) (hb : attributeBase e fld X.env (eval e X.env) = eval e X.env := by rfl) : LEM X E (.Attribute e fld pos) (dFldX C fld wo) := by
  refine ⟨fun pins s σ H Q I hu => ?_⟩
  obtain ⟨ρ, ms, n, B, M, bxs, Qd, h, w1, q⟩ := hu
  refine attr_of hb (thn (ho.run pins s σ H (fun w H1 => ∃ (a : Addr) (y : PyData) (ms1 : MS) (n1 : Nat) (B1 : Hp), w = .ref a ∧ ownM a (exT C (some (fld, y))) ∈ ms1 ∧ Qd (.d y) ms1 n1 ∧ MX X.K E M n1 B1 H1 bxs σ ρ ms1 ∧ Same B B1) I ⟨ρ, ms, n, B, M, bxs, _, h, w1, fun r ms1 n1 v B1 H1 hq h1 sb vr => ?_⟩) fun u s1 hh => ?_)
  · obtain ⟨a, y, rfl, hm, hq⟩ := hq
    cases vr
    exact ⟨a, y, ms1, n1, B1, rfl, hm, hq, h1, sb⟩
  · obtain ⟨w, H1, I1, rx, a, y, ms1, n1, B1, rfl, hm, hq, h1, sb⟩ := hh
    obtain rfl : u = Value.ref a := rx
    obtain ⟨_, ea, ⟨oe, rfl, hf, hz⟩, _⟩ := h1.get hm
    rcases hz with ⟨f2, x2, d, v, e0, hz, hd, dv⟩ | ⟨e0, _⟩
    · cases e0
      have hdH := h1.sv.g.sub d _ hd
      obtain ⟨od, mA, J, ho, hl, hr⟩ := xobj_at I1 ea hz hf hdH
      obtain ⟨u, hu, ru⟩ := RelO.some_of (v := v) (o := mA fld) (by
        have := hr fld
        rw [show List.lookup fld [(fld, v)] = some v by simp [List.lookup]] at this
        exact this)
      exact HandSPX.exc_get I1.kIn J T.ga T.gg T.exC (PySem.W.findObj_own T.hdC hno rfl (by rw [hl, hu])) (handed_of ru) ⟨v, _, I1.tok _, ru, q _ _ _ _ _ _ hq h1 sb dv⟩
    · cases e0
theorem lem_tupA {x1} (h : LAM X E es wr) : LEM X E (.Tuple es x1 pos) (dTupA wr) := pe_imp (pe_tup h) fun σ H Q hu => by
  obtain ⟨ρ, ms, n, B, M, bxs, Qd, h, w1, q⟩ := hu
  refine ⟨ρ, ms, n, B, M, bxs, _, h, w1, fun rs ms1 n1 vs B1 H1 hq h1 sb vr => ?_⟩
  obtain ⟨as, rfl, hl, hq⟩ := hq
  have ev := objs_vs vr
  subst ev
  refine ⟨by rw [List.length_map]; exact hl, fun p hp => ?_⟩
  exact q _ _ _ _ _ _ (hq p) (mx_lay (T := tupA as) h1 hp rfl) sb rfl
theorem lsm_forXT (j : Nat) (hN : X.N.Nodup) (hp : PassesOwn (model X.prog X.w) X.A X.env X.xe) (hc : X.calm = true) (ha : LEM X E a wa) (hb : LSsM X E body w) (hj : X.N[j]? = some y := by rfl) (hy : Loc X.env.scope y := by first | exact Or.inl rfl | exact Or.inr rfl)
    (hf : X.fn y = true ∨ X.env.scope.names.lookup y = some .local := by first | exact .inl rfl | exact .inr rfl) (hs : ∀ x, foldedSetIterable a X.env x = pure x := by intro _; rfl) : LSM X E (.For (.Name y py) a body [] pos) (dForXT j wa w) :=
  ps_imp (ps_for hp hc (pi_seq ha) (pg_name hN hj hy hf) hb hs) fun D σ H hu => by
    obtain ⟨ρ, ms, n, B, M, bxs, Dd, h, w1, q⟩ := hu
    refine ⟨ρ, ms, n, B, M, bxs, _, h, w1, fun r ms1 n1 v B1 H1 hq h1 sb vr => ?_⟩
    obtain ⟨st, as, rfl, hm, Iv, h0, ht, hd⟩ := hq
    cases vr
    have get : ∀ {n' : Nat} {B' H' : Hp} {bxs' : List Addr} {σ' : L2.St} {ρ' : DEnv} {ms' : MS}, MX X.K E M n' B' H' bxs' σ' ρ' ms' → ownM st (tupA as) ∈ ms' → H' st = some (.tup (as.map V.ref)) := fun h hm => by
      obtain ⟨_, e, e2, _⟩ := h.get hm
      rw [e, show _ = _ from e2]
    refine .inr (.inl ⟨st, rfl, ⟨_, SqT.of (get h1 hm)⟩, ?_⟩)
    refine ⟨fun i m σ' H' => m = as.length - i ∧ i ≤ as.length ∧ ∃ (ρ' : DEnv) (ms' : MS) (n' : Nat) (B' : Hp) (bxs' : List Addr), MX X.K E M n' B' H' bxs' σ' ρ' ms' ∧ Iv i ρ' ms' n', ⟨_, rfl, Nat.zero_le _, ρ, ms1, n1, B1, bxs, h1, h0⟩, ?_⟩
    rintro i m σ' H' ⟨rfl, hle, ρ', ms', n', B', bxs', hv, iv⟩
    by_cases hlt : i < as.length
    · have hz : as[i]? = some as[i] := List.getElem?_eq_getElem hlt
      obtain ⟨hmem, hb'⟩ := ht i ρ' ms' n' as[i] iv hz
      have hS := SqT.of (K := X.K) (get hv hmem)
      have hz2 : (as.map V.ref)[i]? = some (V.ref as[i]) := by rw [List.getElem?_map, hz]; rfl
      refine .inr ⟨⟨_, _, hS, hz2⟩, fun σ2 H2 => ∃ (ρ2 : DEnv) (ms2 : MS) (n2 : Nat) (B2 : Hp) (bxs2 : List Addr), MX X.K E M n2 B2 H2 bxs2 σ2 ρ2 ms2 ∧ Iv (i + 1) ρ2 ms2 n2, fun σ2 H2 hn => ⟨as.length - (i + 1), by omega, rfl, hlt, hn⟩, fun xv Hy hy => ?_⟩
      obtain ⟨rfl, hy2⟩ := hy
      have e3 := hy2 _ hS
      rw [hz2] at e3
      cases e3
      exact ⟨_, ms', n', B', M, bxs', _, hv.upd (hv.sv.env.setV (r0 := .obj as[i]) j (fun z => z) trivial rfl) (UpdR.setV (r0 := .obj as[i]) σ' ρ' j _ (fun z => z)), hb', ⟨fun n3 B3 H3 b3 σ3 ρ3 m3 h3 w3 => ⟨ρ3, m3, n3, B3, b3, h3, w3⟩, q.rt, fun n3 B3 H3 b3 σ3 ρ3 m3 h3 w3 => q.nx _ _ _ _ _ _ _ h3 w3, fun n3 B3 H3 b3 σ3 ρ3 m3 h3 w3 => ⟨ρ3, m3, n3, B3, b3, h3, w3⟩⟩⟩
    · have el : i = as.length := by omega
      subst el
      obtain ⟨hmem, hn⟩ := hd ρ' ms' n' iv
      exact .inl ⟨⟨_, SqT.of (get hv hmem), by rw [List.length_map]; exact Nat.le_refl _⟩, q.nx _ _ _ _ _ _ _ hv hn⟩
theorem lsm_forEX {kt : Nat} {pt pe pc : Pos} {py2 : Pos} (i j : Nat) (hN : X.N.Nodup) (hp : PassesOwn (model X.prog X.w) X.A X.env X.xe) (hc : X.calm = true) (hg : Gl X "enumerate") (hm : X.mg "enumerate" = none) (ha : LEM X E a wa) (hb : LSsM X E body w) (hi : X.N[i]? = some y := by rfl) (hj : X.N[j]? = some y2 := by rfl)
    (hy : Loc X.env.scope y := by first | exact Or.inl rfl | exact Or.inr rfl) (hy2 : Loc X.env.scope y2 := by first | exact Or.inl rfl | exact Or.inr rfl) (hf : X.fn y = true ∨ X.env.scope.names.lookup y = some .local := by first | exact .inl rfl | exact .inr rfl) (hf2 : X.fn y2 = true ∨ X.env.scope.names.lookup y2 = some .local := by first | exact .inl rfl | exact .inr rfl)
    (hse : starEach [a] X.env = [(false, eval a X.env)] := by rfl) (hs : ∀ x, foldedSetIterable (.Call (.Name "enumerate" pe) [a] [] pc) X.env x = pure x := by intro _; rfl) : LSM X E (.For (.Tuple [.Name y py, .Name y2 py2] kt pt) (.Call (.Name "enumerate" pe) [a] [] pc) body [] pos) (dForEX i j wa w) :=
  ps_imp (ps_for hp hc (pi_enumA hg hm (pa_cons ha pa_nil hse) hse) (pg_tup (n := 2) hc (pgs_cons (pg_name hN hi hy hf) (pgs_cons (pg_name hN hj hy2 hf2) pgs_nil))) hb hs) fun D σ H hu => by
    obtain ⟨ρ, ms, n, B, M, bxs, Dd, h, w1, q⟩ := hu
    refine ⟨ρ, ms, n, B, M, bxs, _, h, w1, fun r ms1 n1 v B1 H1 hq h1 sb vr => ?_⟩
    obtain ⟨st, as, rfl, hm, Iv, h0, ht, hd⟩ := hq
    cases vr
    refine .inl ⟨st, _, rfl, SqL.of (at_lstA h1 hm), ?_⟩
    refine ⟨fun i m σ' H' => m = as.length - i ∧ i ≤ as.length ∧ ∃ (ρ' : DEnv) (ms' : MS) (n' : Nat) (B' : Hp) (bxs' : List Addr), MX X.K E M n' B' H' bxs' σ' ρ' ms' ∧ Iv i ρ' ms' n', ⟨_, rfl, Nat.zero_le _, ρ, ms1, n1, B1, bxs, h1, h0⟩, ?_⟩
    rintro k m σ' H' ⟨rfl, hle, ρ', ms', n', B', bxs', hv, iv⟩
    by_cases hlt : k < as.length
    · have hz : as[k]? = some as[k] := List.getElem?_eq_getElem hlt
      obtain ⟨hmem, hb'⟩ := ht k ρ' ms' n' as[k] iv hz
      have hS := SqL.of (K := X.K) (at_lstA hv hmem)
      have hz2 : (as.map V.ref)[k]? = some (V.ref as[k]) := by rw [List.getElem?_map, hz]; rfl
      refine .inr ⟨⟨_, _, hS, hz2⟩, fun σ2 H2 => ∃ (ρ2 : DEnv) (ms2 : MS) (n2 : Nat) (B2 : Hp) (bxs2 : List Addr), MX X.K E M n2 B2 H2 bxs2 σ2 ρ2 ms2 ∧ Iv (k + 1) ρ2 ms2 n2, fun σ2 H2 hn => ⟨as.length - (k + 1), by omega, rfl, hlt, hn⟩, fun xv Hy hy => ?_⟩
      obtain ⟨T, x, rfl, hT, rfl, hy2⟩ := hy
      have e3 := hy2 _ hS
      rw [hz2] at e3
      cases e3
      refine ⟨T, _, rfl, SqT.of upd_same, rfl, _, _, rfl, _, _, rfl, rfl, ?_⟩
      have hv2 := hv.step (hv.sv.g.refl.lay0 (o := .tup [.int (k : Nat), .ref as[k]]) hT)
      have hv3 := hv2.upd (hv2.sv.env.setV (r0 := .d (.int (k : Int))) i (fun z => z) trivial (.int _)) (UpdR.setV (r0 := .d (.int (k : Int))) σ' ρ' i _ (fun z => z))
      exact ⟨_, ms', n', B', M, bxs', _, hv3.upd (hv3.sv.env.setV (r0 := .obj as[k]) j (fun z => z) trivial rfl) (UpdR.setV (r0 := .obj as[k]) _ _ j _ (fun z => z)), hb', ⟨fun n3 B3 H3 b3 σ3 ρ3 m3 h3 w3 => ⟨ρ3, m3, n3, B3, b3, h3, w3⟩, q.rt, fun n3 B3 H3 b3 σ3 ρ3 m3 h3 w3 => q.nx _ _ _ _ _ _ _ h3 w3, fun n3 B3 H3 b3 σ3 ρ3 m3 h3 w3 => ⟨ρ3, m3, n3, B3, b3, h3, w3⟩⟩⟩
    · have el : k = as.length := by omega
      subst el
      obtain ⟨hmem, hn⟩ := hd ρ' ms' n' iv
      exact .inl ⟨⟨_, SqL.of (at_lstA hv hmem), by rw [List.length_map]; exact Nat.le_refl _⟩, q.nx _ _ _ _ _ _ _ hv hn⟩
end
theorem forXT_def (j : Nat) (wa : DEM) (w : DSM) (D : MEnds) (ρ : DEnv) (ms : MS) (n : Nat) (h : ∀ F : RV → MS → Nat → Prop, (∀ r ms1 n1, (∃ st as, r = .obj st ∧ ownM st (tupA as) ∈ ms1 ∧ ∃ Inv : Nat → DEnv → MS → Nat → Prop, Inv 0 ρ ms1 n1 ∧
  (∀ k ρ ms n a, Inv k ρ ms n → as[k]? = some a → ownM st (tupA as) ∈ ms ∧ w { nx := Inv (k + 1), ct := Inv (k + 1), bk := D.nx, rt := D.rt } (ρ.set j (some (.obj a))) ms n) ∧
  ∀ ρ ms n, Inv as.length ρ ms n → ownM st (tupA as) ∈ ms ∧ D.nx ρ ms n) → F r ms1 n1) → wa ρ ms n F) : dForXT j wa w D ρ ms n := h _ fun _ _ _ q => q
theorem forEX_def (i j : Nat) (wa : DEM) (w : DSM) (D : MEnds) (ρ : DEnv) (ms : MS) (n : Nat) (h : ∀ F : RV → MS → Nat → Prop, (∀ r ms1 n1, (∃ st as, r = .obj st ∧ ownM st (listA as) ∈ ms1 ∧ ∃ Inv : Nat → DEnv → MS → Nat → Prop, Inv 0 ρ ms1 n1 ∧
  (∀ k ρ ms n a, Inv k ρ ms n → as[k]? = some a → ownM st (listA as) ∈ ms ∧ w { nx := Inv (k + 1), ct := Inv (k + 1), bk := D.nx, rt := D.rt } ((ρ.set i (some (.d (.int (k : Int))))).set j (some (.obj a))) ms n) ∧
  ∀ ρ ms n, Inv as.length ρ ms n → ownM st (listA as) ∈ ms ∧ D.nx ρ ms n) → F r ms1 n1) → wa ρ ms n F) : dForEX i j wa w D ρ ms n := h _ fun _ _ _ q => q
end Dl

namespace Dl
open PySem PySem.Spec PyProof.Rows L2
/-! ### which of some exceptions' classes a thing is of -/
noncomputable abbrev bmP : List Value := [.type "ValueError", .type "Exception", .type "BaseException", .type "object"]
theorem sub_exc {K : PySem.W.Frag} {nm q : Str} {C N : Addr} {bs bm : List Value} {hdct : Bool} {sn : List Str} {sub : List Value} {ab : Bool} {col : Option Bool} {dd : Option Addr} {k0 k1 k2 k3 k5 : Option Value} {newId : String}
    (h : K.lookup C = some (excClassObj nm q C N bs bm hdct sn sub ab col dd k0 k1 k2 k3 k5 newId)) (v : Value) : PySem.W.subIn K (.ref C) v = some ((Value.ref C :: bm).contains v) := by
  show PySem.W.mroIn K C v = _
  unfold PySem.W.mroIn PySem.W.clsIn
  rw [h]
  rfl
structure ExCls (K : PySem.W.Frag) (bm : List Value) (C : Addr) : Prop where
  isx : IsxC K C
  ty : PySem.W.typeIn K (.ref C) = some (.type "type")
  sub : ∀ v, PySem.W.subIn K (.ref C) v = some ((Value.ref C :: bm).contains v)
theorem ref_beq (C D : Addr) : (Value.ref C == Value.ref D) = decide (C = D) := by
  by_cases e : C = D
  · subst e
    rw [decide_eq_true rfl]
    exact beq_self_eq_true _
  · rw [decide_eq_false e]
    refine beq_eq_false_iff_ne.mpr fun z => e ?_
    cases z
    rfl
theorem has_ref {l : List Value} {D : Addr} (hl : ∀ v ∈ l, ∀ C, v ≠ .ref C) : l.contains (Value.ref D) = false := by
  rw [Bool.eq_false_iff]
  intro h
  exact hl _ (List.contains_iff_mem.mp h) D rfl
theorem bmP_no : ∀ v ∈ bmP, ∀ C, v ≠ Value.ref C := fun v hv C e => by
  subst e
  simp [bmP] at hv
section
variable {K : PySem.W.Frag} {CS : List Addr} {CP : Addr}
theorem isAll_mk (nd : (CS ++ [CP]).Nodup) (hC : ∀ C ∈ CS, ExCls K (.ref CP :: bmP) C) (hP : ExCls K bmP CP) {j : Nat} {D : Addr} (hj : CS[j]? = some D) : IsAll K (CS ++ [CP]) (.ref D) (fun i => decide (i = j)) := fun i C hi => by
  have hD := hC D (List.mem_of_getElem? hj)
  have jl : j < CS.length := (List.getElem?_eq_some_iff.mp hj).1
  have hjj : (CS ++ [CP])[j]? = some D := by rw [List.getElem?_append_left jl]; exact hj
  have inj : (C = D) = (i = j) := propext ⟨fun e => by
    subst e
    exact (List.getElem?_inj (List.getElem?_eq_some_iff.mp hi).1 nd).mp (hi.trans hjj.symm), fun e => by
    subst e
    rw [hi] at hjj
    exact Option.some.inj hjj⟩
  have cpD : CP ≠ D := fun e => by
    subst e
    have h2 : (CS ++ [CP])[CS.length]? = some CP := by rw [List.getElem?_append_right (Nat.le_refl _), Nat.sub_self]; rfl
    have := (List.getElem?_inj (List.getElem?_eq_some_iff.mp h2).1 nd).mp (h2.trans hjj.symm)
    omega
  have fin : ∀ bm : List Value, ExCls K bm C → bm.contains (Value.ref D) = false → IsxC K C ∧ PySem.W.kitOne K (.ref C) (.ref D) = some (decide (i = j)) := fun bm h hb => by
    refine ⟨h.isx, kit_of hD.isx.hcl hD.ty ?_ ?_⟩
    · rw [h.sub, List.contains_cons, hb, Bool.or_false, ref_beq]
      congr 1
      exact decide_eq_decide.mpr (by rw [← inj]; exact eq_comm)
    · rw [h.sub, List.contains_cons, ref_beq, decide_eq_true rfl, Bool.true_or]
  rcases List.mem_append.mp (List.mem_of_getElem? hi) with hm | hm
  · refine fin _ (hC C hm) ?_
    rw [List.contains_cons, ref_beq, decide_eq_false (fun e => cpD e.symm), Bool.false_or]
    exact has_ref bmP_no
  · have e := List.mem_singleton.mp hm
    subst e
    exact fin _ hP (has_ref bmP_no)
theorem isAll_P (hC : ∀ C ∈ CS, ExCls K (.ref CP :: bmP) C) (hP : ExCls K bmP CP) : IsAll K (CS ++ [CP]) (.ref CP) (fun _ => true) := fun i C hi => by
  rcases List.mem_append.mp (List.mem_of_getElem? hi) with hm | hm
  · have h := hC C hm
    refine ⟨h.isx, kit_of hP.isx.hcl hP.ty ?_ ?_⟩
    · rw [h.sub, List.contains_cons, List.contains_cons, ref_beq CP CP, decide_eq_true rfl, Bool.true_or, Bool.or_true]
    · rw [h.sub, List.contains_cons, ref_beq, decide_eq_true rfl, Bool.true_or]
  · rw [List.mem_singleton.mp hm]
    refine ⟨hP.isx, kit_of hP.isx.hcl hP.ty ?_ ?_⟩ <;> rw [hP.sub, List.contains_cons, ref_beq, decide_eq_true rfl, Bool.true_or]
theorem isAll_V (hC : ∀ C ∈ CS, ExCls K (.ref CP :: bmP) C) (hP : ExCls K bmP CP) : IsAll K (CS ++ [CP]) (.type "ValueError") (fun _ => true) := fun i C hi => by
  have e : bmP.contains (Value.type "ValueError") = true := by decide +kernel
  rcases List.mem_append.mp (List.mem_of_getElem? hi) with hm | hm
  · have h := hC C hm
    refine ⟨h.isx, kit_ty (by decide +kernel) ?_⟩
    rw [h.sub, List.contains_cons, List.contains_cons, e, Bool.or_true, Bool.or_true]
  · rw [List.mem_singleton.mp hm]
    refine ⟨hP.isx, kit_ty (by decide +kernel) ?_⟩
    rw [hP.sub, List.contains_cons, e, Bool.or_true]
end
end Dl

local macro_rules | `(tactic| walk_at "kw") => `(tactic| (intro kV doc pm an cdv ct us hl; rcases us with _ | ⟨u1, _ | ⟨u2, _ | ⟨u3, _ | ⟨u4, _ | ⟨u5, r⟩⟩⟩⟩⟩ <;> first | rfl | (exact absurd hl (by simp [Dl.pick]))))
local macro_rules | `(tactic| walk_at "kww") => `(tactic| (intro D doc pm an cdv ct us v hl; rcases us with _ | ⟨u1, _ | ⟨u2, _ | ⟨u3, _ | ⟨u4, r⟩⟩⟩⟩ <;> first | exact ⟨_, _, _, _, _, _, rfl, rfl, rfl⟩ | (simp at hl; done)))
local macro_rules | `(tactic| walk_at "kwp") => `(tactic| (intro kV doc pm an cdv ct us ws hl hn; rcases us with _ | ⟨u1, _ | ⟨u2, _ | ⟨u3, _ | ⟨u4, r⟩⟩⟩⟩ <;> first | (simp at hn; done) | (rcases ws with _ | ⟨w1, _ | ⟨w2, _ | ⟨w3, r⟩⟩⟩ <;> first | rfl | (simp [Dl.pick] at hl; done))))
local macro_rules | `(tactic| walk_at "lc") => `(tactic| first | decide +kernel | rfl)
namespace Lw
open PySem PySem.Spec PyProof.Rows L2 Dl
local macro_rules | `(tactic| walk_at "de") => `(tactic| try simp only [wEq, wNe, dPopAt, wSortL, wSortSetP, wLtP, dLenX, dSet1, dSInV, wMaxT, wMinT, dTryRetY, dIsY, dYFld, dZipX, dTryX, dTryRet, dIsX, dIsG, dXFld, dRaiseX, allD, wMaxL, wMinL, dDKnew, dDKaug, dDKix, dDKsort, wSortSetI, dUnpPair, dAugIx, dFld, wIsB, dCallY, dCallYK, dListY, dTupY, dYieldZ, dIfZ, dPlainZ, dNilZ, gdLst, dPar4o, dRetPair, dFst, dLIxE, wSet0, dSAdd, dSIn, dUnpPop, dIfNm, dNever, dUnpStar, wSplit, dRetOwn, dValsO, wDictO, dLNew, dLGet, dLGetG, dLIx, dLPut, dGrp, dSortO, dDIx, wSortSet, wLenSetC, dListZ, wEqE, wNeE, dDict0, dDict1, dStar, seqD, datas_map, dDNew, dDGet, dDPut, dOwnT, dNoRt, dFirst, dCallW, dSet, dOwn, dNext, dRet, dIfS, dIf, dTest, dNot, dAnd, dOr, dAndV, dOrV, dNotV, dNeg, dOp, vw2, onB, onI, onO, onD, onI1, onI2, onN, onS, on2, on3, dAppend, dSetIx, dVar, dC, dCB, dCons, dNil, dTup, dLst, dCall, dSl, dNoPart, dPart, dSeqI, dRange1, dRange2, dEnum, dZip, dPar2, dPar3, dUnp, gdName, gdNil, gdCons, gdTup, dYes, dPass, dBreak, dCont, dRetO, dFrz, startD, view, views, datas, fixR, dat, setR, retR, asArg, Dl.argsOk, Dl.argOk, itemsOf, wSl, dStep, wStep, wAdd, wI, wIC, wB, wLt, wIsN, wNotN, isNone, wMul, wMulA, dAug, wIx, wLen, wAbs, wMax, wMin, wInt, wStr, wTuple, wList, onT, dMs, wCount, dChain, dListR1, dListR2, dExtend, dCallK, dCat, pick_nil, pick_cons, wIn, wNotIn, setO, dPar2o, dPar3o, wRjust, dIsI, List.length_cons, List.length_nil, List.map_cons, List.map_nil, List.replicate_succ, List.replicate_zero, List.cons_append, List.nil_append, List.append_nil, List.getElem?_cons_zero, List.getElem?_cons_succ, List.set_cons_zero, List.set_cons_succ, Option.some.injEq, Option.map_some, Option.bind_some, exists_eq_left', exists_eq_left, RV.d.injEq, PyData.int.injEq, PyData.bool.injEq, PyData.tuple.injEq, PyData.list.injEq, List.cons.injEq, and_true, true_and, decide_true, Bool.not_true, Bool.not_false, Bool.false_eq_true, if_true, if_false, Nat.reduceSub, Nat.reduceAdd])
local macro_rules | `(tactic| walk_at "dx") => `(tactic| try simp only [dPopAt, wSortL, wSortSetP, wLtP, dLenX, dSet1, dSInV, wMaxT, wMinT, dTryRetY, dIsY, dYFld, dZipX, dTryX, dTryRet, dIsX, dIsG, dXFld, dRaiseX, allD, wMaxL, wMinL, dDKnew, dDKaug, dDKix, dDKsort, wSortSetI, dUnpPair, dAugIx, dFld, wIsB, dCallY, dCallYK, dListY, dTupY, dYieldZ, dIfZ, dPlainZ, dNilZ, gdLst, dPar4o, dRetPair, dFst, dLIxE, wSet0, dSAdd, dSIn, dUnpPop, dIfNm, dNever, dUnpStar, wSplit, dRetOwn, dValsO, wDictO, dLNew, dLGet, dLGetG, dLIx, dLPut, dGrp, dSortO, dDIx, wSortSet, wLenSetC, dListZ, wEqE, wNeE, dDict0, dDict1, dStar, seqD, datas_map, dDNew, dDGet, dDPut, dOwnT, dNoRt, dFirst, dCallW, dSet, dOwn, dNext, dRet, dIfS, dIf, dTest, dNot, dAnd, dOr, dAndV, dOrV, dNotV, dNeg, dOp, vw2, onB, onI, onO, onD, onI1, onI2, onN, onS, on2, on3, dAppend, dSetIx, dVar, dC, dCB, dCons, dNil, dTup, dLst, dCall, dSl, dNoPart, dPart, dSeqI, dRange1, dRange2, dEnum, dZip, dPar2, dPar3, dUnp, gdName, gdNil, gdCons, gdTup, dYes, dPass, dBreak, dCont, dRetO, dFrz, startD, view, views, datas, fixR, dat, setR, retR, asArg, Dl.argsOk, Dl.argOk, itemsOf, wSl, dStep, wStep, wAdd, wI, wIC, wB, wLt, wIsN, wNotN, isNone, wMul, wMulA, dAug, wIx, wLen, wAbs, wMax, wMin, wInt, wStr, wTuple, wList, onT, dMs, wCount, dChain, dListR1, dListR2, dExtend, dCallK, dCat, pick_nil, pick_cons, wIn, wNotIn, setO, dPar2o, dPar3o, wRjust, dIsI, List.length_cons, List.length_nil, List.map_cons, List.map_nil, List.replicate_succ, List.replicate_zero, List.cons_append, List.nil_append, List.append_nil, List.getElem?_cons_zero, List.getElem?_cons_succ, List.set_cons_zero, List.set_cons_succ, Option.some.injEq, Option.map_some, Option.bind_some, exists_eq_left', exists_eq_left, RV.d.injEq, PyData.int.injEq, PyData.bool.injEq, PyData.tuple.injEq, PyData.list.injEq, List.cons.injEq, and_true, true_and, decide_true, Bool.not_true, Bool.not_false, Bool.false_eq_true, if_true, if_false, Nat.reduceSub, Nat.reduceAdd])
local macro_rules | `(tactic| walk_at "ds") => `(tactic| try simp only [dSeq, wEq, wNe, dPopAt, wSortL, wSortSetP, wLtP, dLenX, dSet1, dSInV, wMaxT, wMinT, dTryRetY, dIsY, dYFld, dZipX, dTryX, dTryRet, dIsX, dIsG, dXFld, dRaiseX, allD, wMaxL, wMinL, dDKnew, dDKaug, dDKix, dDKsort, wSortSetI, dUnpPair, dAugIx, dFld, wIsB, dCallY, dCallYK, dListY, dTupY, dYieldZ, dIfZ, dPlainZ, dNilZ, gdLst, dPar4o, dRetPair, dFst, dLIxE, wSet0, dSAdd, dSIn, dUnpPop, dIfNm, dNever, dUnpStar, wSplit, dRetOwn, dValsO, wDictO, dLNew, dLGet, dLGetG, dLIx, dLPut, dGrp, dSortO, dDIx, wSortSet, wLenSetC, dListZ, wEqE, wNeE, dDict0, dDict1, dStar, seqD, datas_map, dDNew, dDGet, dDPut, dOwnT, dNoRt, dFirst, dCallW, dSet, dOwn, dNext, dRet, dIfS, dIf, dTest, dNot, dAnd, dOr, dAndV, dOrV, dNotV, dNeg, dOp, vw2, onB, onI, onO, onD, onI1, onI2, onN, onS, on2, on3, dAppend, dSetIx, dVar, dC, dCB, dCons, dNil, dTup, dLst, dCall, dSl, dNoPart, dPart, dSeqI, dRange1, dRange2, dEnum, dZip, dPar2, dPar3, dUnp, gdName, gdNil, gdCons, gdTup, dYes, dPass, dBreak, dCont, dRetO, dFrz, startD, view, views, datas, fixR, dat, setR, retR, asArg, Dl.argsOk, Dl.argOk, itemsOf, wSl, dStep, wStep, wAdd, wI, wIC, wB, wLt, wIsN, wNotN, isNone, wMul, wMulA, dAug, wIx, wLen, wAbs, wMax, wMin, wInt, wStr, wTuple, wList, onT, dMs, wCount, dChain, dListR1, dListR2, dExtend, dCallK, dCat, pick_nil, pick_cons, wIn, wNotIn, setO, dPar2o, dPar3o, wRjust, dIsI, List.length_cons, List.length_nil, List.map_cons, List.map_nil, List.replicate_succ, List.replicate_zero, List.cons_append, List.nil_append, List.append_nil, List.getElem?_cons_zero, List.getElem?_cons_succ, List.set_cons_zero, List.set_cons_succ, Option.some.injEq, Option.map_some, Option.bind_some, exists_eq_left', exists_eq_left, RV.d.injEq, PyData.int.injEq, PyData.bool.injEq, PyData.tuple.injEq, PyData.list.injEq, List.cons.injEq, and_true, true_and, decide_true, Bool.not_true, Bool.not_false, Bool.false_eq_true, if_true, if_false, Nat.reduceSub, Nat.reduceAdd])
local macro_rules | `(tactic| walk_at "dm") => `(tactic| try simp only [ofE, ofT, ofS, dIfSM, dSetM, dAugM, dExprM, dRetM, setM, okM, Dl.stM, dOpM, dTestM, dNotM, dAndM, dOrM, dIfM, dNilM, dConsM, dLstM, dTupM, dFldM, dMethM, dMeth0M, dPropM, dMakeM, dMake0M, dCallOM, dBinM, wInO, wNotInO, wIxO, wInD, wIxD, dLenOM, dLenDM, dGetDM, dGetDGM, dAppM, dPlainM, dCallM, dCallKM, dLstO, dAddO, dLstA, dAppA, dTupD, dCatX, dAddA, dSlX, dSetFldM, dSetFld2M, dNewLM, dPar2M, dParB, dNewDM, dPutDM, dUnpFM, dLendN, lendR, noLst, noLsts, dLcItM, dLcIuM, noOwn, nOwn, dLendM, dYesM, dMatchM, wCaseM, dNeverM, dCBM, dAndVM, dOrVM, dNotVM, dLendS, dAdoptS, dFrzM, dNextM, InsAt, DicAt, argsIn, argIn, RV.obj.injEq, PyData.str.injEq, reduceCtorEq, dTupX, dAsT, dAsTT, dAsX, dAsXT, dSetAsX, dExtAsX, dExV, dExV0, dIxA, dFldX, dTupA, dDatM, dDictT, dPar3M, dSetAsT, wEq, wNe, dPopAt, wSortL, wSortSetP, wLtP, dLenX, dSet1, dSInV, wMaxT, wMinT, dTryRetY, dIsY, dYFld, dZipX, dTryX, dTryRet, dIsX, dIsG, dXFld, dRaiseX, allD, wMaxL, wMinL, dDKnew, dDKaug, dDKix, dDKsort, wSortSetI, dUnpPair, dAugIx, dFld, wIsB, dCallY, dCallYK, dListY, dTupY, dYieldZ, dIfZ, dPlainZ, dNilZ, gdLst, dPar4o, dRetPair, dFst, dLIxE, wSet0, dSAdd, dSIn, dUnpPop, dIfNm, dNever, dUnpStar, wSplit, dRetOwn, dValsO, wDictO, dLNew, dLGet, dLGetG, dLIx, dLPut, dGrp, dSortO, dDIx, wSortSet, wLenSetC, dListZ, wEqE, wNeE, dDict0, dDict1, dStar, seqD, datas_map, dDNew, dDGet, dDPut, dOwnT, dNoRt, dFirst, dCallW, dSet, dOwn, dNext, dRet, dIfS, dIf, dTest, dNot, dAnd, dOr, dAndV, dOrV, dNotV, dNeg, dOp, vw2, onB, onI, onO, onD, onI1, onI2, onN, onS, on2, on3, dAppend, dSetIx, dVar, dC, dCB, dCons, dNil, dTup, dLst, dCall, dSl, dNoPart, dPart, dSeqI, dRange1, dRange2, dEnum, dZip, dPar2, dPar3, dUnp, gdName, gdNil, gdCons, gdTup, dYes, dPass, dBreak, dCont, dRetO, dFrz, startD, view, views, datas, fixR, dat, setR, retR, asArg, Dl.argsOk, Dl.argOk, itemsOf, wSl, dStep, wStep, wAdd, wI, wIC, wB, wLt, wIsN, wNotN, isNone, wMul, wMulA, dAug, wIx, wLen, wAbs, wMax, wMin, wInt, wStr, wTuple, wList, onT, dMs, wCount, dChain, dListR1, dListR2, dExtend, dCallK, dCat, pick_nil, pick_cons, wIn, wNotIn, setO, dPar2o, dPar3o, wRjust, dIsI, List.length_cons, List.length_nil, List.map_cons, List.map_nil, List.replicate_succ, List.replicate_zero, List.cons_append, List.nil_append, List.append_nil, List.getElem?_cons_zero, List.getElem?_cons_succ, List.set_cons_zero, List.set_cons_succ, Option.some.injEq, Option.map_some, Option.bind_some, exists_eq_left', exists_eq_left, RV.d.injEq, PyData.int.injEq, PyData.bool.injEq, PyData.tuple.injEq, PyData.list.injEq, List.cons.injEq, and_true, true_and, decide_true, Bool.not_true, Bool.not_false, Bool.false_eq_true, if_true, if_false, Nat.reduceSub, Nat.reduceAdd])
noncomputable def topS (i : Nat) : Stmt := PySem.Challenge.pw_pastenough_k05_exceptions_made.main.body.getD i (.Pass ⟨0, 0, 0, 0⟩)
noncomputable abbrev s__law_take : Stmt := topS 18
theorem sc__law_take : FnScope ["_law_box_here", "_law_many", "_law_digit", "_law_drawn"] ["_law_box_here", "_law_many"] (defScope s__law_take) := ⟨rfl, rfl, rfl, by decide +kernel, rfl, by decide +kernel, by decide +kernel⟩
noncomputable abbrev s__law_box : Stmt := topS 17
theorem sc__law_box : FnScope ["_law_script", "_law_k", "_law_digits", "_law_own"] ["_law_script", "_law_k"] (defScope s__law_box) := ⟨rfl, rfl, rfl, by decide +kernel, rfl, by decide +kernel, by decide +kernel⟩
noncomputable abbrev s__law_of : Stmt := topS 19
theorem sc__law_of : FnScope ["_law_box_here", "_law_some"] ["_law_box_here", "_law_some"] (defScope s__law_of) := ⟨rfl, rfl, rfl, by decide +kernel, rfl, by decide +kernel, by decide +kernel⟩
noncomputable abbrev s__law_any : Stmt := topS 20
theorem sc__law_any : FnScope ["_law_box_here", "_law_some", "_law_found", "_law_turn"] ["_law_box_here"] (defScope s__law_any) := ⟨rfl, rfl, rfl, by decide +kernel, rfl, by decide +kernel, by decide +kernel⟩
noncomputable abbrev s__law_kinds : Stmt := topS 21
theorem sc__law_kinds : FnScope ["_law_mistake", "_law_found"] ["_law_mistake"] (defScope s__law_kinds) := ⟨rfl, rfl, rfl, by decide +kernel, rfl, by decide +kernel, by decide +kernel⟩
noncomputable abbrev s__law_by_place : Stmt := topS 22
theorem sc__law_by_place : FnScope ["_law_thing", "_law_found"] ["_law_thing"] (defScope s__law_by_place) := ⟨rfl, rfl, rfl, by decide +kernel, rfl, by decide +kernel, by decide +kernel⟩
noncomputable abbrev s__law_by_name : Stmt := topS 23
theorem sc__law_by_name : FnScope ["_law_thing", "_law_found"] ["_law_thing"] (defScope s__law_by_name) := ⟨rfl, rfl, rfl, by decide +kernel, rfl, by decide +kernel, by decide +kernel⟩
noncomputable abbrev s__law_kept : Stmt := topS 24
theorem sc__law_kept : FnScope ["_law_some", "_law_found"] ["_law_some"] (defScope s__law_kept) := ⟨rfl, rfl, rfl, by decide +kernel, rfl, by decide +kernel, by decide +kernel⟩
noncomputable abbrev s__law_right : Stmt := topS 25
theorem sc__law_right : FnScope ["_law_thing", "_law_some", "_law_at", "_law_mistake", "_law_to"] ["_law_thing"] (defScope s__law_right) := ⟨rfl, rfl, rfl, by decide +kernel, rfl, by decide +kernel, by decide +kernel⟩
noncomputable abbrev s_law : Stmt := topS 26
theorem sc_law : FnScope ["_law_script", "_law_k", "_law_box_here", "_law_turn"] ["_law_script"] (defScope s_law) := ⟨rfl, rfl, rfl, by decide +kernel, rfl, by decide +kernel, by decide +kernel⟩
section
variable {P : Program} {w : World} {K : PySem.W.Frag} {mg : Str → Option Value} {base : Heap}
theorem ok__law_take {f : Addr} {fd : FuncData} (F : Fun K "_law_take" "_law_take" s__law_take f fd) (hm : mg "_law_take" = some (.ref f)) (hb : Binds K fd ["_law_box_here", "_law_many"] []) : Def P w K mg base 1 "_law_take" ["_law_box_here", "_law_many"] spTake := by
  refine ⟨f, fd, fng_of F sc__law_take (fun vs H Q E h => ?_) (fun cdv A outer s H vs Q hr hg h => ?_), hm, F.kp, hb⟩
  · obtain ⟨rs, n, B, bxs, Qd, g, vr, ai, ⟨m, rfl, _⟩, q⟩ := h
    rw [← vals_len vr]
    rfl
  · obtain ⟨rs, n, B, bxs, Qd, g, vr, ai, ⟨m, rfl, h0, h1, hn, hq⟩, q⟩ := h
    obtain ⟨b, rfl, hbx⟩ : ∃ b, vs = [.ref b, .int m] ∧ b ∈ bxs := by
      match vs, vr with
      | [v, u], ⟨⟨b, e, hb⟩, e2, _⟩ =>
        have e3 : Dl.Dp K B u (.int m) := e2
        cases e3
        exact ⟨b, by rw [e], hb⟩
    obtain ⟨o, z, c, hH, o0, o1, z0, z1, hc⟩ := (g.box b hbx).2
    refine ⟨_, pss_cons (ps_if (pt_cmpR op_gt (pe_ix ix_list (pv 0) pe_int (fun _ _ => rfl)) pe_int (nomark _))
        (pss_cons (ps_set (i := 2) sc__law_take.nd rfl (.inl rfl) (pe_op op_mod (pe_ix ix_list (pv 0) pe_int (fun _ _ => rfl)) (pv 1)))
        (pss_cons (ps_asg (pe_op op_fdivW (pe_ix ix_list (pv 0) pe_int (fun _ _ => rfl)) (pv 1)) (pg_sub (pv 0) pe_int set_list)) (pss_one (ps_ret (pv 2))))) pss_nil)
      (pss_cons (ps_asg (pe_op op_add (pe_ix ix_list (pv 0) pe_int (fun _ _ => rfl)) pe_int) (pg_sub (pv 0) pe_int set_list))
      (pss_cons (ps_set (i := 3) sc__law_take.nd rfl (.inl rfl) (pe_op op_mod (pe_op op_mulW (pe_op op_add (pe_op op_add (pe_ix ix_list (pv 0) pe_int (fun _ _ => rfl)) (pe_op op_mulW (pe_op op_mulW pe_int (pe_ix ix_list (pv 0) pe_int (fun _ _ => rfl))) (pe_ix ix_list (pv 0) pe_int (fun _ _ => rfl)))) pe_int) pe_int) pe_int))
      (pss_cons (ps_set (i := 3) sc__law_take.nd rfl (.inl rfl) (pe_op op_mod (pe_op op_mulW (pv 3) (pe_op op_add (pe_op op_mod (pv 3) pe_int) (pe_op op_mulW pe_int (pe_ix ix_list (pv 0) pe_int (fun _ _ => rfl))))) pe_int))
      (pss_one (ps_ret (pe_op op_mod (pe_op op_add (pe_op op_fdivW (pv 3) pe_int) (pe_op op_fdivW (pv 3) pe_int)) (pv 1))))))), ?_⟩
    have hS := SqL.of (K := K) hH
    refine ⟨_, rfl, b, _, 0, .int o, rfl, rfl, hS, rfl, _, _, rfl, rfl, _, rfl, ite2 (fun hp => ?_) (fun hp => ?_)⟩
    · have op : 0 < o := of_decide_eq_true hp
      refine ⟨_, rfl, b, _, 0, .int o, rfl, rfl, hS, rfl, _, rfl, o, m, rfl, rfl, h0, ?_⟩
      refine ⟨_, rfl, b, _, 0, .int o, rfl, rfl, hS, rfl, _, rfl, o, m, rfl, rfl, divOk 64 h0 h1, ?_⟩
      refine ⟨_, rfl, b, _, 0, 0, rfl, rfl, hH, rfl, ?_⟩
      refine ⟨_, rfl, ?_⟩
      refine q (.d (.int (o % m))) (n + 1) _ B _ (hq _ (Int.emod_nonneg _ (by omega)) (Int.emod_lt_of_pos _ h0)) trivial (box_step g hbx (Int.ediv_nonneg o0 (by omega)) (Int.lt_of_le_of_lt (Int.ediv_le_self _ o0) o1) z0 z1 (Nat.le_succ_of_le hc)) (.int _) trivial
    · refine ⟨_, rfl, b, _, 2, .int (c : Int), rfl, rfl, hS, rfl, (c : Int), 1, rfl, rfl, ?_⟩
      refine ⟨_, rfl, b, _, 2, 2, rfl, rfl, hH, rfl, ?_⟩
      have hS2 := SqL.of (K := K) (H := L2.upd H b (.lst [.int o, .int z, .int ((c : Int) + 1)])) (a := b) (xs := [.int o, .int z, .int ((c : Int) + 1)]) upd_same
      have c0 : (0 : Int) ≤ (c : Int) + 1 := by omega
      have c1 : (c : Int) + 1 < 2 ^ 61 := by
        have : (2 : Nat) ^ 60 = 1152921504606846976 := by decide
        have : (2 : Int) ^ 61 = 2305843009213693952 := by decide
        omega
      have n1 := natAbs_lt c0 c1
      have n2 : ((65543 : Int)).natAbs < 2 ^ 17 := by decide
      have n3 := wide_lt n2 n1
      have n4 := wide_lt n3 n1
      have p4 : 0 ≤ 65543 * ((c : Int) + 1) * ((c : Int) + 1) := Int.mul_nonneg (Int.mul_nonneg (by decide) c0) c0
      have n5 : (z + 65543 * ((c : Int) + 1) * ((c : Int) + 1) + 23).natAbs < 2 ^ 140 := by
        have e1 : (2 : Nat) ^ (17 + 61 + 61) = 696898287454081973172991196020261297061888 := by decide
        have e2 : (2 : Nat) ^ 140 = 1393796574908163946345982392040522594123776 := by decide
        have e3 : (2 : Int) ^ 62 = 4611686018427387904 := by decide
        rw [e1] at n4
        rw [e2]
        omega
      refine ⟨_, rfl, b, _, 1, .int z, rfl, rfl, hS2, rfl, _, rfl, b, _, 2, .int ((c : Int) + 1), rfl, rfl, hS2, rfl, 65543, (c : Int) + 1, rfl, rfl, mulOk 17 61 n2 n1,
        _, rfl, b, _, 2, .int ((c : Int) + 1), rfl, rfl, hS2, rfl, _, (c : Int) + 1, rfl, rfl, mulOk (17 + 61) 61 n3 n1, z, _, rfl, rfl, _, 23, rfl, rfl, _, 48313, rfl, rfl, mulOk 140 16 n5 (by decide), _, 2305843009213693921, rfl, rfl, (by show (0 : Int) < _; decide), ?_⟩
      dsimp only
      generalize hd1 : (z + 65543 * ((c : Int) + 1) * ((c : Int) + 1) + 23) * 48313 % 2305843009213693921 = d1
      have d10 : 0 ≤ d1 := by rw [← hd1]; exact Int.emod_nonneg _ (by decide)
      have d11 : d1 < 2 ^ 61 := by
        rw [← hd1]
        have : (2 : Int) ^ 61 = 2305843009213693952 := by decide
        have := Int.emod_lt_of_pos ((z + 65543 * ((c : Int) + 1) * ((c : Int) + 1) + 23) * 48313) (show (0 : Int) < 2305843009213693921 by decide)
        omega
      have n6 := natAbs_lt d10 d11
      have n7 := wide_lt (show ((99991 : Int)).natAbs < 2 ^ 17 by decide) n1
      have q0 := Int.emod_nonneg d1 (show (1000033 : Int) ≠ 0 by decide)
      have q1 := Int.emod_lt_of_pos d1 (show (0 : Int) < 1000033 by decide)
      have p7 : 0 ≤ 99991 * ((c : Int) + 1) := Int.mul_nonneg (by decide) c0
      have n8 : (d1 % 1000033 + 99991 * ((c : Int) + 1)).natAbs < 2 ^ 80 := by
        have e1 : (2 : Nat) ^ (17 + 61) = 302231454903657293676544 := by decide
        have e2 : (2 : Nat) ^ 80 = 1208925819614629174706176 := by decide
        rw [e1] at n7
        rw [e2]
        omega
      refine ⟨_, rfl, _, rfl, d1, 1000033, rfl, rfl, (by show (0 : Int) < _; decide), _, rfl, b, _, 2, .int ((c : Int) + 1), rfl, rfl, hS2, rfl, 99991, (c : Int) + 1, rfl, rfl, mulOk 17 61 (by decide) n1, _, _, rfl, rfl, d1, _, rfl, rfl, mulOk 61 80 n6 n8, _, 2305843009213693907, rfl, rfl, (by show (0 : Int) < _; decide), ?_⟩
      refine ⟨_, rfl, _, 107, rfl, rfl, divOk 7 (by decide) (by decide), _, rfl, _, 1000037, rfl, rfl, divOk 20 (by decide) (by decide), _, _, rfl, rfl, _, rfl, _, m, rfl, rfl, h0, ?_⟩
      have ec : ((c : Int) + 1) = ((c + 1 : Nat) : Int) := by omega
      rw [ec]
      exact q (.d (.int _)) (n + 1) _ B _ (hq _ (Int.emod_nonneg _ (by omega)) (Int.emod_lt_of_pos _ h0)) trivial (box_step g hbx o0 o1 z0 z1 (by omega)) (.int _) trivial
theorem ok__law_box {f : Addr} {fd : FuncData} (F : Fun K "_law_box" "_law_box" s__law_box f fd) (hm : mg "_law_box" = some (.ref f)) (hb : Binds K fd ["_law_script", "_law_k"] []) (m_len : mg "len" = none) (m_abs : mg "abs" = none) (m_int : mg "int" = none) : Def P w K mg base 1 "_law_box" ["_law_script", "_law_k"] spBox := by
  refine box_of (def_mk (k := 0) F sc__law_box hm hb ?hlen (fun cdv A outer s H E hr => (lss_cons (ls_set 2 sc__law_box.nd (le_if (lt_cmp lo_lt (le_var 1) (le_callB lc_len (by rfl) m_len (by decide +kernel) (la_cons (le_var 0) la_nil)) (nomark _)) (le_ix (le_var 0) (le_var 1)) (le_op lo_add (le_op lo_mulA le_int (le_var 1)) le_int)))
  (lss_cons (ls_set 3 sc__law_box.nd (le_op lo_mulA (le_op lo_mod (le_callB lc_abs (by rfl) m_abs (by decide +kernel) (la_cons (le_var 2) la_nil)) (le_op lo_powW (le_op lo_powW le_int le_int) le_int)) (le_callTy lc_int (by rfl) m_int (by decide +kernel) (la_cons (le_cmp lo_ge (le_callB lc_abs (by rfl) m_abs (by decide +kernel) (la_cons (le_var 2) la_nil)) (le_op lo_powW le_int le_int) (nomark _)) la_nil))))
  (lss_one (ls_ret (le_lst (la_cons (le_var 3) (la_cons (le_op lo_mod (le_op lo_add (le_op lo_add (le_op lo_mulA (le_op lo_mod (le_var 2) le_int) le_int) (le_op lo_mulA (le_op lo_mulA le_int (le_var 1)) (le_var 1))) le_int) le_int) (la_cons le_int la_nil))))))))) ?hd)
  case hlen =>
    rintro rs n Q ⟨ns, k, rfl, _⟩
    rfl
  case hd =>
    rintro rs n Qd _ ⟨ns, k, rfl, h63, hbits, k0, k1, hq⟩
    refine seq_def _ _ _ _ _ (fun R hR => ?_)
    walk_at "ds"
    have key : ∀ dg : Int, R [some (.d (.list (ns.map PyData.int))), some (.d (.int k)), some (.d (.int dg)), none] n := by
      intro dg
      rw [hR]
      clear hR R
      refine seq_def _ _ _ _ _ (fun R hR => ?_)
      walk_at "ds"
      generalize hA : (if dg < 0 then -dg else dg) = A
      have eT : ((10 : Int) ^ Int.toNat 60) ^ Int.toNat 5 = 10 ^ 300 := by decide +kernel
      rw [eT]
      have b0 : (0 : Int) ≤ A % 10 ^ 300 := Int.emod_nonneg _ (by decide +kernel)
      have b1 : A % 10 ^ 300 < 2 ^ 1000 := Int.lt_trans (Int.emod_lt_of_pos A (show (0 : Int) < 10 ^ 300 by decide +kernel)) (by decide +kernel)
      refine ⟨⟨by decide, by decide +kernel⟩, ⟨by decide, by decide +kernel⟩, by decide +kernel, ⟨by decide, by decide +kernel⟩, ?_, ?_⟩
      · refine mulOk 1000 1 (natAbs_lt b0 b1) ?_
        split <;> decide
      · rw [hR]
        clear hR R
        walk_at "ds"
        have c0 : (0 : Int) ≤ dg % 2305843009213693951 := Int.emod_nonneg _ (by decide)
        have c1 : dg % 2305843009213693951 < 2 ^ 61 := Int.lt_trans (Int.emod_lt_of_pos _ (by decide)) (by decide)
        have k2 : k.natAbs < 2 ^ 10 := natAbs_lt k0 (by omega)
        have k3 := wide_lt (show ((5303 : Int)).natAbs < 2 ^ 13 by decide) k2
        refine ⟨by decide, mulOk 61 17 (natAbs_lt c0 c1) (by decide), mulOk 13 10 (by decide) k2, mulOk (13 + 10) 10 k3 k2, by decide, by decide, ?_⟩
        refine hq _ _ ?_ ?_ (Int.emod_nonneg _ (by decide)) (Int.lt_trans (Int.emod_lt_of_pos _ (by decide)) (by decide))
        · split
          · omega
          · omega
        · split
          · omega
          · rw [Int.mul_zero]; decide +kernel
    refine if_bool (fun h => ?_) (fun h => ?_)
    · have h1 : k < ((ns.map PyData.int).length : Int) := of_decide_eq_true h
      rw [List.length_map] at h1
      have h2 : k.toNat < ns.length := by omega
      refine ⟨.int ns[k.toNat], atI_of k0 ?_, key _⟩
      rw [List.getElem?_map, List.getElem?_eq_getElem h2]
      rfl
    · exact ⟨mulOk 5 10 (by decide) (natAbs_lt k0 (by omega)), key _⟩
/-! rows of outcomes -/
noncomputable abbrev dI (l : List Int) : List PyData := l.map PyData.int
noncomputable abbrev TI (l : List Int) : PyData := .tuple (dI l)
noncomputable def spOf : DSp := fun rs n Q => ∃ xs, rs = [.box, .d (.list xs)] ∧ xs ≠ [] ∧ xs.length ≤ 2000 ∧ n < 2 ^ 60 ∧ ∀ x ∈ xs, Q (.d x) (n + 1)
theorem len_pos {α : Type} {xs : List α} (h : xs ≠ []) : 0 < xs.length := by
  cases xs with
  | nil => exact absurd rfl h
  | cons a b => exact Nat.succ_pos _
theorem at_mem {α : Type} {xs : List α} {k : Int} (h0 : 0 ≤ k) (h1 : k < xs.length) : ∃ x ∈ xs, atI xs k = some x := by
  have h2 : k.toNat < xs.length := by omega
  exact ⟨xs[k.toNat], List.getElem_mem h2, atI_of h0 (List.getElem?_eq_getElem h2)⟩
theorem ok__law_of {f : Addr} {fd : FuncData} (F : Fun K "_law_of" "_law_of" s__law_of f fd) (hm : mg "_law_of" = some (.ref f)) (hb : Binds K fd ["_law_box_here", "_law_some"] []) (m_len : mg "len" = none) (D__law_take : Def P w K mg base 1 "_law_take" ["_law_box_here", "_law_many"] spTake) : Def P w K mg base 2 "_law_of" ["_law_box_here", "_law_some"] spOf := by
  refine def_mk (k := 1) F sc__law_of hm hb ?hlen (fun cdv A outer s H E hr => (lss_one (ls_ret (le_ix (le_var 1) (le_def D__law_take (hr.mono (by decide)) (by rfl) (la_cons (le_var 0) (la_cons (le_callB lc_len (by rfl) m_len (by decide +kernel) (la_cons (le_var 1) la_nil)) la_nil))))))) ?hd
  case hlen =>
    rintro rs n Q ⟨xs, rfl, _⟩
    rfl
  case hd =>
    rintro rs n Qd _ ⟨xs, rfl, h0, h1, hn, hq⟩
    have hl := len_pos h0
    walk_at "ds"
    refine ⟨(xs.length : Int), rfl, by omega, by omega, hn, fun k k0 k1 => ?_⟩
    obtain ⟨x, hx, e⟩ := at_mem k0 k1
    walk_at "ds"
    exact ⟨x, e, hq x hx⟩
/-! values of any kind: how heavy, how deep -/
mutual
noncomputable def wt : PyData → Nat
  | .none => 5
  | .bool _ => 5
  | .int i => 10 * i.natAbs.log2 + 30
  | .str x => 10 * x.length + 2
  | .list xs => 4 + wts xs
  | .tuple xs => 4 + wts xs
  | .dict kvs => 4 + wtk kvs
noncomputable def wts : List PyData → Nat
  | [] => 0
  | x :: xs => wt x + 2 + wts xs
noncomputable def wtk : List (PyData × PyData) → Nat
  | [] => 0
  | (k, v) :: r => wt k + wt v + 6 + wtk r
end
mutual
/-- its texts have code points -/
noncomputable def okS : PyData → Bool
  | .none => true
  | .bool _ => true
  | .int _ => true
  | .str x => x.cps.toList.all fun c => decide (c < 16 ^ 8)
  | .list xs => okSs xs
  | .tuple xs => okSs xs
  | .dict kvs => okSk kvs
noncomputable def okSs : List PyData → Bool
  | [] => true
  | x :: xs => okS x && okSs xs
noncomputable def okSk : List (PyData × PyData) → Bool
  | [] => true
  | (k, v) :: r => okS k && okS v && okSk r
end
theorem okStr {x : Str} (h : okS (.str x) = true) : ∀ c ∈ x.cps.toList, c < 16 ^ 8 := fun c hc => of_decide_eq_true (List.all_eq_true.mp (show (x.cps.toList.all fun c => decide (c < 16 ^ 8)) = true from h) c hc)
mutual
theorem shown_wt : ∀ x : PyData, okS x = true → x.shown.length ≤ wt x
  | .none, _ => by decide
  | .bool b, _ => by cases b <;> decide
  | .int i, _ => by
    have h := shown_rc (.int i)
    have e : rc (.int i) = i.natAbs.log2 + 2 := rfl
    show _ ≤ 10 * i.natAbs.log2 + 30
    omega
  | .str s, h => by
    have := StrLaws.reprText_len s (okStr h)
    show (reprText s).length ≤ 10 * s.length + 2
    omega
  | .list xs, h => by
    have h := shown_wts xs h
    show (listText (PyData.shownAll xs)).length ≤ 4 + wts xs
    have h2 := textFrom_up (PyData.shownAll xs) 0 "["
    have h3 : (listText (PyData.shownAll xs)).length = (textFrom 0 "[" (PyData.shownAll xs)).length + 1 := by
      unfold listText
      rw [app_len]
      rfl
    have h4 : (Str.ofString "[").length = 1 := by decide
    omega
  | .tuple xs, h => by
    have h := shown_wts xs h
    show (tupleText (PyData.shownAll xs)).length ≤ 4 + wts xs
    unfold tupleText
    rw [app_len, app_len]
    have h4 : (Str.ofString "(").length = 1 := by decide
    have h5 : (Str.ofString (if (PyData.shownAll xs).length == 1 then ",)" else ")" : String)).length ≤ 2 := by
      split <;> decide
    have h6 : (Str.join ", " (PyData.shownAll xs)).length ≤ piled (PyData.shownAll xs) := by
      cases e : PyData.shownAll xs with
      | nil => exact Nat.le_refl _
      | cons a b =>
        have := join_length_add (a :: b) (by simp)
        omega
    omega
  | .dict kvs, h => by
    have h := shown_wtk kvs h
    show (dictText (PyData.shownKv kvs)).length ≤ 4 + wtk kvs
    unfold dictText
    rw [app_len, app_len]
    have h4 : (Str.ofString "{").length = 1 := by decide
    have h5 : (Str.ofString "}").length = 1 := by decide
    have h6 : (Str.join ", " (PyData.shownKv kvs)).length ≤ piled (PyData.shownKv kvs) := by
      cases e : PyData.shownKv kvs with
      | nil => exact Nat.le_refl _
      | cons a b =>
        have := join_length_add (a :: b) (by simp)
        omega
    omega
theorem shown_wts : ∀ xs : List PyData, okSs xs = true → piled (PyData.shownAll xs) ≤ wts xs
  | [], _ => Nat.le_refl _
  | x :: xs, h => by
    unfold okSs at h
    rw [Bool.and_eq_true] at h
    have h1 := shown_wt x h.1
    have h2 := shown_wts xs h.2
    unfold PyData.shownAll wts
    rw [piled_cons]
    omega
theorem shown_wtk : ∀ xs : List (PyData × PyData), okSk xs = true → piled (PyData.shownKv xs) ≤ wtk xs
  | [], _ => Nat.le_refl _
  | (k, v) :: xs, h => by
    unfold okSk at h
    rw [Bool.and_eq_true, Bool.and_eq_true] at h
    have h0 := shown_wt k h.1.1
    have h1 := shown_wt v h.1.2
    have h2 := shown_wtk xs h.2
    unfold PyData.shownKv wtk
    rw [piled_cons, app_len, app_len]
    have h4 : (Str.ofString ": ").length = 2 := by decide
    omega
end
mutual
theorem showable_wt : ∀ x : PyData, wt x ≤ 19000 → x.showable = true
  | .none, _ => rfl
  | .bool _, _ => rfl
  | .str _, _ => rfl
  | .int i, h => by
    have h : 10 * i.natAbs.log2 + 30 ≤ 19000 := h
    exact decide_eq_true (by omega)
  | .list xs, h => by
    have h : 4 + wts xs ≤ 19000 := h
    exact showable_wts xs (by omega)
  | .tuple xs, h => by
    have h : 4 + wts xs ≤ 19000 := h
    exact showable_wts xs (by omega)
  | .dict kvs, h => by
    have h : 4 + wtk kvs ≤ 19000 := h
    exact showable_wtk kvs (by omega)
theorem showable_wts : ∀ xs : List PyData, wts xs ≤ 19000 → PyData.showableAll xs = true
  | [], _ => rfl
  | x :: xs, h => by
    unfold wts at h
    unfold PyData.showableAll
    rw [showable_wt x (by omega), showable_wts xs (by omega)]
    rfl
theorem showable_wtk : ∀ xs : List (PyData × PyData), wtk xs ≤ 19000 → PyData.showableKv xs = true
  | [], _ => rfl
  | (k, v) :: xs, h => by
    unfold wtk at h
    unfold PyData.showableKv
    rw [showable_wt k (by omega), showable_wt v (by omega), showable_wtk xs (by omega)]
    rfl
end
structure AO (m d : Nat) (x : PyData) : Prop where
  ok : okS x = true
  le : wt x ≤ m
  de : x.depth ≤ d
structure AOs (m d : Nat) (xs : List PyData) : Prop where
  ok : okSs xs = true
  le : wts xs ≤ m
  de : PyData.depthAll xs ≤ d
theorem AO.repr {m d : Nat} {x : PyData} (h : AO m d x) (hm : m ≤ 19000) (hd : d ≤ 60) : ReprOk x :=
  ⟨showable_wt x (Nat.le_trans h.le hm), Nat.le_trans (shown_wt x h.ok) (Nat.le_trans h.le (Nat.le_trans hm (by decide))), Nat.le_trans h.de hd⟩
theorem AO.mono {m d m' d' : Nat} {x : PyData} (h : AO m d x) (hm : m ≤ m') (hd : d ≤ d') : AO m' d' x := ⟨h.ok, Nat.le_trans h.le hm, Nat.le_trans h.de hd⟩
theorem AOs.mono {m d m' d' : Nat} {x : List PyData} (h : AOs m d x) (hm : m ≤ m') (hd : d ≤ d') : AOs m' d' x := ⟨h.ok, Nat.le_trans h.le hm, Nat.le_trans h.de hd⟩
theorem AOs.nil {d : Nat} : AOs 0 d [] := ⟨rfl, Nat.le_refl _, Nat.zero_le _⟩
theorem AOs.cons {m m' d : Nat} {x : PyData} {xs : List PyData} (h : AO m d x) (hs : AOs m' d xs) : AOs (m + 2 + m') d (x :: xs) := by
  refine ⟨?_, ?_, ?_⟩
  · unfold okSs
    rw [h.ok, hs.ok]
    rfl
  · have := h.le
    have := hs.le
    show wt x + 2 + wts xs ≤ _
    omega
  · have := h.de
    have := hs.de
    show max (PyData.depth x) (PyData.depthAll xs) ≤ _
    omega
theorem wts_app : ∀ xs ys : List PyData, wts (xs ++ ys) = wts xs + wts ys
  | [], ys => by show wts ys = 0 + wts ys; omega
  | x :: xs, ys => by
    show wt x + 2 + wts (xs ++ ys) = wt x + 2 + wts xs + wts ys
    rw [wts_app xs ys]
    omega
theorem okSs_app : ∀ xs ys : List PyData, okSs (xs ++ ys) = (okSs xs && okSs ys)
  | [], ys => by show okSs ys = (true && okSs ys); rw [Bool.true_and]
  | x :: xs, ys => by
    show (okS x && okSs (xs ++ ys)) = (okS x && okSs xs && okSs ys)
    rw [okSs_app xs ys, Bool.and_assoc]
theorem depthAll_app : ∀ xs ys : List PyData, PyData.depthAll (xs ++ ys) = max (PyData.depthAll xs) (PyData.depthAll ys)
  | [], ys => by show PyData.depthAll ys = max 0 _; omega
  | x :: xs, ys => by
    show max (PyData.depth x) (PyData.depthAll (xs ++ ys)) = max (max (PyData.depth x) (PyData.depthAll xs)) _
    rw [depthAll_app xs ys]
    omega
theorem AOs.mem {m d : Nat} : ∀ {xs : List PyData}, AOs m d xs → ∀ x ∈ xs, AO m d x
  | [], _, x, hx => nomatch hx
  | y :: ys, h, x, hx => by
    have h1 := h.ok
    have h2 := h.le
    have h3 := h.de
    unfold okSs at h1
    unfold wts at h2
    unfold PyData.depthAll at h3
    rw [Bool.and_eq_true] at h1
    rcases List.mem_cons.mp hx with rfl | hx
    · exact ⟨h1.1, by omega, by omega⟩
    · exact AOs.mem (xs := ys) ⟨h1.2, by omega, by omega⟩ x hx
theorem AO.tup {m d : Nat} {xs : List PyData} (h : AOs m d xs) : AO (m + 4) (d + 1) (.tuple xs) :=
  ⟨h.ok, by have := h.le; show 4 + wts xs ≤ _; omega, by have := h.de; show PyData.depthAll xs + 1 ≤ _; omega⟩
theorem AO.lst {m d : Nat} {xs : List PyData} (h : AOs m d xs) : AO (m + 4) (d + 1) (.list xs) :=
  ⟨h.ok, by have := h.le; show 4 + wts xs ≤ _; omega, by have := h.de; show PyData.depthAll xs + 1 ≤ _; omega⟩
theorem AO.dic {m d : Nat} {k : Str} {x : PyData} (hk : okS (.str k) = true) (hl : k.length ≤ 1) (h : AO m d x) : AO (m + 22) (d + 1) (.dict [(.str k, x)]) := by
  refine ⟨?_, ?_, ?_⟩
  · show (okS (.str k) && okS x && true) = true
    rw [hk, h.ok]
    rfl
  · have := h.le
    show 4 + (10 * k.length + 2 + wt x + 6 + 0) ≤ _
    omega
  · have := h.de
    show max (max 0 (PyData.depth x)) 0 + 1 ≤ _
    omega
theorem ao_int (k : Nat) {i : Int} (h : i.natAbs < 2 ^ (k + 1)) : AO (10 * k + 30) 0 (.int i) := by
  refine ⟨rfl, ?_, Nat.le_refl _⟩
  have hl := PySem.Flt.log2_lt_of (Nat.succ_pos k) h
  show 10 * i.natAbs.log2 + 30 ≤ _
  omega
theorem AO.dec {x : PyData} {m d : Nat} (h : (okS x && decide (wt x ≤ m) && decide (x.depth ≤ d)) = true) : AO m d x := by
  rw [Bool.and_eq_true, Bool.and_eq_true] at h
  exact ⟨h.1.1, of_decide_eq_true h.1.2, of_decide_eq_true h.2⟩
theorem AO.parts {m d : Nat} {xs : List PyData} (h : AO m d (.tuple xs)) : ∃ m' d', m = m' + 4 ∧ d = d' + 1 ∧ AOs m' d' xs := by
  have h2 : 4 + wts xs ≤ m := h.le
  have h3 : PyData.depthAll xs + 1 ≤ d := h.de
  exact ⟨m - 4, d - 1, by omega, by omega, h.ok, by omega, by omega⟩
theorem split3 {xs : List PyData} {i : Nat} {x : PyData} (h : xs[i]? = some x) : xs = xs.take i ++ (x :: xs.drop (i + 1)) := by
  have hi : i < xs.length := (List.getElem?_eq_some_iff.mp h).1
  have e : xs[i] = x := (List.getElem?_eq_some_iff.mp h).2
  rw [← e, ← List.drop_eq_getElem_cons hi, List.take_append_drop]
/-- a list by one of its items -/
theorem AOs.split {m d : Nat} {xs : List PyData} {i : Nat} {x : PyData} (h : AOs m d xs) (e : xs[i]? = some x) : ∃ a b c, a + (b + 2 + c) ≤ m ∧ AOs a d (xs.take i) ∧ AO b d x ∧ AOs c d (xs.drop (i + 1)) := by
  have h1 := h.ok
  have h2 := h.le
  have h3 := h.de
  have e1 := split3 e
  rw [e1, okSs_app] at h1
  rw [e1, wts_app] at h2
  rw [e1, depthAll_app] at h3
  have h4 : okSs (x :: xs.drop (i + 1)) = (okS x && okSs (xs.drop (i + 1))) := rfl
  have h5 : wts (x :: xs.drop (i + 1)) = wt x + 2 + wts (xs.drop (i + 1)) := rfl
  have h6 : PyData.depthAll (x :: xs.drop (i + 1)) = max (PyData.depth x) (PyData.depthAll (xs.drop (i + 1))) := rfl
  rw [h4, Bool.and_eq_true, Bool.and_eq_true] at h1
  rw [h5] at h2
  rw [h6] at h3
  exact ⟨_, _, _, h2, ⟨h1.1, Nat.le_refl _, by omega⟩, ⟨h1.2.1, Nat.le_refl _, by omega⟩, ⟨h1.2.2, Nat.le_refl _, by omega⟩⟩
noncomputable def spAny : DSp := fun rs n Q => rs = [.box] ∧ n < 2 ^ 58 ∧ ∀ (x : PyData) (n' : Nat), AO 1100 8 x → n' ≤ n + 20 → Q (.d x) n'
noncomputable def anyL1 : List PyData := [.none, .bool true, .bool false, .int 0, .int 1, .int (-1), .int 2, .int 7, .int 8, .int 64, .int 65, .int (10 ^ Int.toNat 17), .str (Str.ofString ""), .str (Str.ofString "0"), .str (Str.ofString "own"), .str (Str.ofString "01"), .tuple [], .list [], .dict [], .tuple [.int 0, .int 1], .list [.int 0, .int 1]]
noncomputable def anyL2 : List PyData := [.tuple [.tuple [.int 0, .int 1]], .tuple [.str (Str.ofString "own"), .int 1], .tuple [.str (Str.ofString "shared"), .int 2], .tuple [.int 2, .int 1], .dict [(.str (Str.ofString "a"), .int 1)], .tuple [.str (Str.ofString "folded"), .int 1, .int 1], .tuple [.int 1, .int 1, .int 0]]
theorem anyL_ok : (anyL1 ++ anyL2).all (fun x => okS x && decide (wt x ≤ 660) && decide (x.depth ≤ 2)) = true := by decide +kernel
theorem anyL_mem {x : PyData} (h : x ∈ anyL1 ++ anyL2) : AO 660 2 x := AO.dec (List.all_eq_true.mp anyL_ok x h)
theorem ok__law_any {f : Addr} {fd : FuncData} (F : Fun K "_law_any" "_law_any" s__law_any f fd) (hm : mg "_law_any" = some (.ref f)) (hb : Binds K fd ["_law_box_here"] []) (m_range : mg "range" = none) (D__law_of : Def P w K mg base 2 "_law_of" ["_law_box_here", "_law_some"] spOf) : Def P w K mg base 3 "_law_any" ["_law_box_here"] spAny := by
  refine def_mk (k := 2) F sc__law_any hm hb ?hlen (fun cdv A outer s H E hr => (lss_cons (ls_set 1 sc__law_any.nd (le_lst (la_cons le_non (la_cons le_bl (la_cons le_bl (la_cons le_int (la_cons le_int (la_cons (le_neg le_int) (la_cons le_int (la_cons le_int (la_cons le_int (la_cons le_int (la_cons le_int (la_cons (le_op lo_powW le_int le_int) (la_cons le_str (la_cons le_str (la_cons le_str (la_cons le_str (la_cons (le_tup la_nil) (la_cons (le_lst la_nil) (la_cons le_dict0 (la_cons (le_tup (la_cons le_int (la_cons le_int la_nil))) (la_cons (le_lst (la_cons le_int (la_cons le_int la_nil))) la_nil)))))))))))))))))))))))
  (lss_cons (ls_set 2 sc__law_any.nd (le_def D__law_of (hr.mono (by decide)) (by rfl) (la_cons (le_var 0) (la_cons (le_op lo_add (le_var 1) (le_lst (la_cons (le_tup (la_cons (le_tup (la_cons le_int (la_cons le_int la_nil))) la_nil)) (la_cons (le_tup (la_cons le_str (la_cons le_int la_nil))) (la_cons (le_tup (la_cons le_str (la_cons le_int la_nil))) (la_cons (le_tup (la_cons le_int (la_cons le_int la_nil))) (la_cons (le_dict1 le_int) (la_cons (le_tup (la_cons le_str (la_cons le_int (la_cons le_int la_nil)))) (la_cons (le_tup (la_cons le_int (la_cons le_int (la_cons le_int la_nil)))) la_nil))))))))) la_nil))))
  (lss_cons (ls_for PassesOwn.never rfl (li_range1 (by rfl) m_range (la_cons (le_def D__law_of (hr.mono (by decide)) (by rfl) (la_cons (le_var 0) (la_cons (le_lst (la_cons le_int (la_cons le_int (la_cons le_int (la_cons le_int (la_cons le_int (la_cons le_int la_nil))))))) la_nil))) la_nil)) (lg_name (i := 3) sc__law_any.nd rfl (by first | exact Or.inl rfl | exact Or.inr rfl)) (lss_one (ls_set 2 sc__law_any.nd (le_def D__law_of (hr.mono (by decide)) (by rfl) (la_cons (le_var 0) (la_cons (le_lst (la_cons (le_tup (la_cons (le_var 2) la_nil)) (la_cons (le_lst (la_cons (le_var 2) la_nil)) (la_cons (le_dict1 (le_var 2)) (la_cons (le_tup (la_cons (le_var 2) (la_cons le_int la_nil))) la_nil))))) la_nil))))))
  (lss_one (ls_ret (le_var 2))))))) ?hd
  case hlen =>
    rintro rs n Q ⟨rfl, _⟩
    rfl
  case hd =>
    rintro rs n Qd _ ⟨rfl, hn, hq⟩
    refine seq_def _ _ _ _ _ (fun R hR => ?_)
    walk_at "de"
    refine ⟨⟨by decide, by decide +kernel⟩, by decide, by decide, by decide, by decide, by decide, ?_⟩
    show R [some .box, some (.d (.list anyL1)), none, none] n
    refine Eq.mpr (hR _ _) ?_; clear hR
    refine seq_def _ _ _ _ _ (fun R hR => ?_)
    walk_at "de"
    refine ⟨by decide, by decide, by decide, by decide, by decide, by decide, by decide, by decide, by decide, ?_⟩
    refine ⟨anyL1 ++ anyL2, rfl, by decide, by decide, by omega, fun x hx => ?_⟩
    have hx2 := anyL_mem hx
    clear hx
    walk_at "de"
    refine Eq.mpr (hR _ _) ?_; clear hR
    refine seq_def _ _ _ _ _ (fun R hR => ?_)
    refine for_def _ _ _ _ _ _ (fun F hF => ?_)
    walk_at "de"
    refine ⟨by decide, [.int 0, .int 0, .int 0, .int 1, .int 2, .int 6], rfl, by decide, by decide, by omega, fun k hk => ?_⟩
    obtain ⟨k, rfl, hk1⟩ : ∃ j : Nat, k = .int (j : Int) ∧ j ≤ 6 := by
      simp only [List.mem_cons, List.not_mem_nil, or_false] at hk
      rcases hk with rfl | rfl | rfl | rfl | rfl | rfl
      · exact ⟨0, rfl, by decide⟩
      · exact ⟨0, rfl, by decide⟩
      · exact ⟨0, rfl, by decide⟩
      · exact ⟨1, rfl, by decide⟩
      · exact ⟨2, rfl, by decide⟩
      · exact ⟨6, rfl, by decide⟩
    walk_at "de"
    obtain ⟨Iv, hI⟩ := inv3 (fun (i : Nat) (ρ : DEnv) (m : Nat) => ∃ y u, i ≤ 6 ∧ ρ = [some .box, some (.d (.list anyL1)), some (.d y), u] ∧ AO (660 + 50 * i) (2 + i) y ∧ m ≤ n + 2 + i)
    refine ⟨by omega, hF _ _ ⟨Iv, (hI _ _ _).mpr ⟨x, none, by omega, rfl, hx2, by omega⟩, fun i ρ m z hv hz => ?_, fun ρ m hv => ?_⟩⟩
    · obtain ⟨y, u, _, rfl, hy, hm⟩ := (hI _ _ _).mp hv
      obtain ⟨hi, rfl⟩ := range_get hz
      rw [Int.toNat_natCast] at hi
      walk_at "de"
      refine ⟨by decide, by decide, by decide, by decide, _, rfl, by simp, (by show 4 ≤ 2000; decide), by omega, fun a ha => ?_⟩
      have ha2 : AO (660 + 50 * (i + 1)) (2 + (i + 1)) a := by
        simp only [List.mem_cons, List.not_mem_nil, or_false] at ha
        have i1 : AO 30 0 (.int 1) := ao_int 0 (by decide)
        rcases ha with rfl | rfl | rfl | rfl
        · exact (AO.tup (AOs.cons hy AOs.nil)).mono (by omega) (by omega)
        · exact (AO.lst (AOs.cons hy AOs.nil)).mono (by omega) (by omega)
        · exact (AO.dic (by decide +kernel) (by decide +kernel) hy).mono (by omega) (by omega)
        · exact (AO.tup (AOs.cons hy (AOs.cons (i1.mono (Nat.le_refl _) (Nat.zero_le _)) AOs.nil))).mono (by omega) (by omega)
      walk_at "de"
      exact (hI _ _ _).mpr ⟨a, _, by omega, rfl, ha2, by omega⟩
    · obtain ⟨y, u, hi6, rfl, hy, hm⟩ := (hI _ _ _).mp hv
      rw [range_len, Int.toNat_natCast] at hi6 hy hm
      refine Eq.mpr (hR _ _) ?_; clear hR
      walk_at "de"
      exact hq y m (hy.mono (by omega) (by omega)) (by omega)
theorem appLen {x y : Str} : (x ++ y).length = x.length + y.length := Array.size_append
theorem AO.okv {m d : Nat} {x : PyData} (h : AO m d x) (hm : m ≤ 19000) (hd : d ≤ 60) : okV x :=
  ⟨showable_wt x (Nat.le_trans h.le hm), Nat.le_trans (shown_wt x h.ok) (Nat.le_trans h.le (Nat.le_trans hm (by decide))), Nat.le_trans h.de hd⟩
noncomputable abbrev s_NoBranch___init__ : Stmt := inClass (topS 2) 0
theorem sc_NoBranch___init__ : FnScope ["self", "value"] ["self", "value"] (defScope s_NoBranch___init__) := ⟨rfl, rfl, rfl, by decide +kernel, rfl, by decide +kernel, by decide +kernel⟩
theorem ok_NoBranch_init {C C0 f : Addr} {fd : FuncData} (hsm : Sm base) (F : Fun K "__init__" "NoBranch.__init__" s_NoBranch___init__ f fd) (T : OexC K C) (nof : PySem.W.findIn K (.ref C) "value" = some none) (mP : mg "PastError" = some (.ref C0)) (rP : PySem.W.readsIn K C0 (.type "type") = true)
    (gP : PySem.W.specialIn K (.ref C0) "__getattribute__" = some (some (.builtin "type.__getattribute__"))) (fP : PySem.W.findCls K (.ref C0) (.type "type") "__init__" = some (.val (.builtin "ValueError.__init__"))) : FnG P w K mg base 1 f fd ["self", "value"] (spExI K C "value" okV) := by
  refine fng_of (k := 0) F sc_NoBranch___init__ (fun vs H Q E h => ?_) (fun cdv A outer s H vs Q hr hg h => ?_)
  · obtain ⟨a, v, x, B, rfl, _⟩ := h
    rfl
  · obtain ⟨a, v, x, B, rfl, ha, sb, dv, okx, q⟩ := h
    refine ⟨_, pss_cons (ps_expr (pe_cinit (by rfl) mP rP gP fP (pa_cons (pv 0) (pa_cons (pe_joined (.cons (pe_fmtD hsm hg (un65 hr) (pv 1)) (.cons pe_str .nil))) pa_nil)))) (pss_one (ps_ost (pv 0) (pv 1))), ?_⟩
    refine ⟨.ref a, rfl, _, rfl, x, dpSame sb _ _ dv, okx.repr, ?_⟩
    refine ⟨_, rfl, size_ok (Nat.le_trans (Nat.le_of_eq appLen) ?_), ?_⟩
    · have e2 : Str.empty.length = 0 := by decide
      have := okx.2.1
      omega
    refine ⟨_, rfl, size_ok ?_, ?_⟩
    · rw [appLen, appLen]
      have e2 : Str.empty.length = 0 := by decide
      have e3 : (Str.ofString " is not a branch of the trace").length ≤ 100 := by decide
      have := okx.2.1
      omega
    refine ⟨a, C, _, rfl, by show 1 ≤ 1000; decide, T, ha, ?_⟩
    refine ⟨v, rfl, .ref a, rfl, a, C, rfl, T, nof, .inl ⟨ha, fun d hd hda => ?_⟩⟩
    exact q d hd hda
noncomputable abbrev s_TooShort___init__ : Stmt := inClass (topS 3) 0
theorem sc_TooShort___init__ : FnScope ["self", "reach"] ["self", "reach"] (defScope s_TooShort___init__) := ⟨rfl, rfl, rfl, by decide +kernel, rfl, by decide +kernel, by decide +kernel⟩
theorem ok_TooShort_init {C C0 f : Addr} {fd : FuncData} (hsm : Sm base) (F : Fun K "__init__" "TooShort.__init__" s_TooShort___init__ f fd) (T : OexC K C) (nof : PySem.W.findIn K (.ref C) "reach" = some none) (mP : mg "PastError" = some (.ref C0)) (rP : PySem.W.readsIn K C0 (.type "type") = true)
    (gP : PySem.W.specialIn K (.ref C0) "__getattribute__" = some (some (.builtin "type.__getattribute__"))) (fP : PySem.W.findCls K (.ref C0) (.type "type") "__init__" = some (.val (.builtin "ValueError.__init__"))) : FnG P w K mg base 1 f fd ["self", "reach"] (spExI K C "reach" okV) := by
  refine fng_of (k := 0) F sc_TooShort___init__ (fun vs H Q E h => ?_) (fun cdv A outer s H vs Q hr hg h => ?_)
  · obtain ⟨a, v, x, B, rfl, _⟩ := h
    rfl
  · obtain ⟨a, v, x, B, rfl, ha, sb, dv, okx, q⟩ := h
    refine ⟨_, pss_cons (ps_expr (pe_cinit (by rfl) mP rP gP fP (pa_cons (pv 0) (pa_cons (pe_joined (.cons pe_str (.cons (pe_fmtD hsm hg (un65 hr) (pv 1)) (.cons pe_str .nil)))) pa_nil)))) (pss_one (ps_ost (pv 0) (pv 1))), ?_⟩
    refine ⟨.ref a, rfl, _, rfl, size_ok (by decide), ?_⟩
    refine ⟨v, rfl, x, dpSame sb _ _ dv, okx.repr, ?_⟩
    refine ⟨_, rfl, size_ok ?_, ?_⟩
    · rw [appLen, appLen]
      have e1 : (Str.ofString "the reach ").length ≤ 100 := by decide
      have e2 : Str.empty.length = 0 := by decide
      have := okx.2.1
      omega
    refine ⟨_, rfl, size_ok ?_, ?_⟩
    · rw [appLen, appLen, appLen]
      have e1 : (Str.ofString "the reach ").length ≤ 100 := by decide
      have e2 : Str.empty.length = 0 := by decide
      have e3 : (Str.ofString " is greater than the length").length ≤ 100 := by decide
      have := okx.2.1
      omega
    refine ⟨a, C, _, rfl, by show 1 ≤ 1000; decide, T, ha, ?_⟩
    refine ⟨v, rfl, .ref a, rfl, a, C, rfl, T, nof, .inl ⟨ha, fun d hd hda => ?_⟩⟩
    exact q d hd hda
noncomputable abbrev s_TooLong___init__ : Stmt := inClass (topS 4) 0
theorem sc_TooLong___init__ : FnScope ["self", "limit"] ["self", "limit"] (defScope s_TooLong___init__) := ⟨rfl, rfl, rfl, by decide +kernel, rfl, by decide +kernel, by decide +kernel⟩
theorem ok_TooLong_init {C C0 f : Addr} {fd : FuncData} (hsm : Sm base) (F : Fun K "__init__" "TooLong.__init__" s_TooLong___init__ f fd) (T : OexC K C) (nof : PySem.W.findIn K (.ref C) "limit" = some none) (mP : mg "PastError" = some (.ref C0)) (rP : PySem.W.readsIn K C0 (.type "type") = true)
    (gP : PySem.W.specialIn K (.ref C0) "__getattribute__" = some (some (.builtin "type.__getattribute__"))) (fP : PySem.W.findCls K (.ref C0) (.type "type") "__init__" = some (.val (.builtin "ValueError.__init__"))) : FnG P w K mg base 1 f fd ["self", "limit"] (spExI K C "limit" okV) := by
  refine fng_of (k := 0) F sc_TooLong___init__ (fun vs H Q E h => ?_) (fun cdv A outer s H vs Q hr hg h => ?_)
  · obtain ⟨a, v, x, B, rfl, _⟩ := h
    rfl
  · obtain ⟨a, v, x, B, rfl, ha, sb, dv, okx, q⟩ := h
    refine ⟨_, pss_cons (ps_expr (pe_cinit (by rfl) mP rP gP fP (pa_cons (pv 0) (pa_cons (pe_joined (.cons pe_str (.cons (pe_fmtD hsm hg (un65 hr) (pv 1)) (.cons pe_str .nil)))) pa_nil)))) (pss_one (ps_ost (pv 0) (pv 1))), ?_⟩
    refine ⟨.ref a, rfl, _, rfl, size_ok (by decide), ?_⟩
    refine ⟨v, rfl, x, dpSame sb _ _ dv, okx.repr, ?_⟩
    refine ⟨_, rfl, size_ok ?_, ?_⟩
    · rw [appLen, appLen]
      have e1 : (Str.ofString "there would be more than ").length ≤ 100 := by decide
      have e2 : Str.empty.length = 0 := by decide
      have := okx.2.1
      omega
    refine ⟨_, rfl, size_ok ?_, ?_⟩
    · rw [appLen, appLen, appLen]
      have e1 : (Str.ofString "there would be more than ").length ≤ 100 := by decide
      have e2 : Str.empty.length = 0 := by decide
      have e3 : (Str.ofString " pairs").length ≤ 100 := by decide
      have := okx.2.1
      omega
    refine ⟨a, C, _, rfl, by show 1 ≤ 1000; decide, T, ha, ?_⟩
    refine ⟨v, rfl, .ref a, rfl, a, C, rfl, T, nof, .inl ⟨ha, fun d hd hda => ?_⟩⟩
    exact q d hd hda
noncomputable abbrev s_TooManyBranches___init__ : Stmt := inClass (topS 5) 0
theorem sc_TooManyBranches___init__ : FnScope ["self", "limit"] ["self", "limit"] (defScope s_TooManyBranches___init__) := ⟨rfl, rfl, rfl, by decide +kernel, rfl, by decide +kernel, by decide +kernel⟩
theorem ok_TooManyBranches_init {C C0 f : Addr} {fd : FuncData} (hsm : Sm base) (F : Fun K "__init__" "TooManyBranches.__init__" s_TooManyBranches___init__ f fd) (T : OexC K C) (nof : PySem.W.findIn K (.ref C) "limit" = some none) (mP : mg "PastError" = some (.ref C0)) (rP : PySem.W.readsIn K C0 (.type "type") = true)
    (gP : PySem.W.specialIn K (.ref C0) "__getattribute__" = some (some (.builtin "type.__getattribute__"))) (fP : PySem.W.findCls K (.ref C0) (.type "type") "__init__" = some (.val (.builtin "ValueError.__init__"))) : FnG P w K mg base 1 f fd ["self", "limit"] (spExI K C "limit" okV) := by
  refine fng_of (k := 0) F sc_TooManyBranches___init__ (fun vs H Q E h => ?_) (fun cdv A outer s H vs Q hr hg h => ?_)
  · obtain ⟨a, v, x, B, rfl, _⟩ := h
    rfl
  · obtain ⟨a, v, x, B, rfl, ha, sb, dv, okx, q⟩ := h
    refine ⟨_, pss_cons (ps_expr (pe_cinit (by rfl) mP rP gP fP (pa_cons (pv 0) (pa_cons (pe_joined (.cons pe_str (.cons (pe_fmtD hsm hg (un65 hr) (pv 1)) (.cons pe_str .nil)))) pa_nil)))) (pss_one (ps_ost (pv 0) (pv 1))), ?_⟩
    refine ⟨.ref a, rfl, _, rfl, size_ok (by decide), ?_⟩
    refine ⟨v, rfl, x, dpSame sb _ _ dv, okx.repr, ?_⟩
    refine ⟨_, rfl, size_ok ?_, ?_⟩
    · rw [appLen, appLen]
      have e1 : (Str.ofString "there would be more than ").length ≤ 100 := by decide
      have e2 : Str.empty.length = 0 := by decide
      have := okx.2.1
      omega
    refine ⟨_, rfl, size_ok ?_, ?_⟩
    · rw [appLen, appLen, appLen]
      have e1 : (Str.ofString "there would be more than ").length ≤ 100 := by decide
      have e2 : Str.empty.length = 0 := by decide
      have e3 : (Str.ofString " branches").length ≤ 100 := by decide
      have := okx.2.1
      omega
    refine ⟨a, C, _, rfl, by show 1 ≤ 1000; decide, T, ha, ?_⟩
    refine ⟨v, rfl, .ref a, rfl, a, C, rfl, T, nof, .inl ⟨ha, fun d hd hda => ?_⟩⟩
    exact q d hd hda
noncomputable abbrev s_BadScheme___init__ : Stmt := inClass (topS 6) 0
theorem sc_BadScheme___init__ : FnScope ["self", "value"] ["self", "value"] (defScope s_BadScheme___init__) := ⟨rfl, rfl, rfl, by decide +kernel, rfl, by decide +kernel, by decide +kernel⟩
theorem ok_BadScheme_init {C C0 f : Addr} {fd : FuncData} (hsm : Sm base) (F : Fun K "__init__" "BadScheme.__init__" s_BadScheme___init__ f fd) (T : OexC K C) (nof : PySem.W.findIn K (.ref C) "value" = some none) (mP : mg "PastError" = some (.ref C0)) (rP : PySem.W.readsIn K C0 (.type "type") = true)
    (gP : PySem.W.specialIn K (.ref C0) "__getattribute__" = some (some (.builtin "type.__getattribute__"))) (fP : PySem.W.findCls K (.ref C0) (.type "type") "__init__" = some (.val (.builtin "ValueError.__init__"))) : FnG P w K mg base 1 f fd ["self", "value"] (spExI K C "value" okV) := by
  refine fng_of (k := 0) F sc_BadScheme___init__ (fun vs H Q E h => ?_) (fun cdv A outer s H vs Q hr hg h => ?_)
  · obtain ⟨a, v, x, B, rfl, _⟩ := h
    rfl
  · obtain ⟨a, v, x, B, rfl, ha, sb, dv, okx, q⟩ := h
    refine ⟨_, pss_cons (ps_expr (pe_cinit (by rfl) mP rP gP fP (pa_cons (pv 0) (pa_cons (pe_joined (.cons (pe_fmtD hsm hg (un65 hr) (pv 1)) (.cons pe_str .nil))) pa_nil)))) (pss_one (ps_ost (pv 0) (pv 1))), ?_⟩
    refine ⟨.ref a, rfl, _, rfl, x, dpSame sb _ _ dv, okx.repr, ?_⟩
    refine ⟨_, rfl, size_ok (Nat.le_trans (Nat.le_of_eq appLen) ?_), ?_⟩
    · have e2 : Str.empty.length = 0 := by decide
      have := okx.2.1
      omega
    refine ⟨_, rfl, size_ok ?_, ?_⟩
    · rw [appLen, appLen]
      have e2 : Str.empty.length = 0 := by decide
      have e3 : (Str.ofString " is not a scheme").length ≤ 100 := by decide
      have := okx.2.1
      omega
    refine ⟨a, C, _, rfl, by show 1 ≤ 1000; decide, T, ha, ?_⟩
    refine ⟨v, rfl, .ref a, rfl, a, C, rfl, T, nof, .inl ⟨ha, fun d hd hda => ?_⟩⟩
    exact q d hd hda
noncomputable abbrev s_BadCounter___init__ : Stmt := inClass (topS 7) 0
theorem sc_BadCounter___init__ : FnScope ["self", "value"] ["self", "value"] (defScope s_BadCounter___init__) := ⟨rfl, rfl, rfl, by decide +kernel, rfl, by decide +kernel, by decide +kernel⟩
theorem ok_BadCounter_init {C C0 f : Addr} {fd : FuncData} (hsm : Sm base) (F : Fun K "__init__" "BadCounter.__init__" s_BadCounter___init__ f fd) (T : OexC K C) (nof : PySem.W.findIn K (.ref C) "value" = some none) (mP : mg "PastError" = some (.ref C0)) (rP : PySem.W.readsIn K C0 (.type "type") = true)
    (gP : PySem.W.specialIn K (.ref C0) "__getattribute__" = some (some (.builtin "type.__getattribute__"))) (fP : PySem.W.findCls K (.ref C0) (.type "type") "__init__" = some (.val (.builtin "ValueError.__init__"))) : FnG P w K mg base 1 f fd ["self", "value"] (spExI K C "value" okV) := by
  refine fng_of (k := 0) F sc_BadCounter___init__ (fun vs H Q E h => ?_) (fun cdv A outer s H vs Q hr hg h => ?_)
  · obtain ⟨a, v, x, B, rfl, _⟩ := h
    rfl
  · obtain ⟨a, v, x, B, rfl, ha, sb, dv, okx, q⟩ := h
    refine ⟨_, pss_cons (ps_expr (pe_cinit (by rfl) mP rP gP fP (pa_cons (pv 0) (pa_cons (pe_joined (.cons (pe_fmtD hsm hg (un65 hr) (pv 1)) (.cons pe_str .nil))) pa_nil)))) (pss_one (ps_ost (pv 0) (pv 1))), ?_⟩
    refine ⟨.ref a, rfl, _, rfl, x, dpSame sb _ _ dv, okx.repr, ?_⟩
    refine ⟨_, rfl, size_ok (Nat.le_trans (Nat.le_of_eq appLen) ?_), ?_⟩
    · have e2 : Str.empty.length = 0 := by decide
      have := okx.2.1
      omega
    refine ⟨_, rfl, size_ok ?_, ?_⟩
    · rw [appLen, appLen]
      have e2 : Str.empty.length = 0 := by decide
      have e3 : (Str.ofString " is not a counter").length ≤ 100 := by decide
      have := okx.2.1
      omega
    refine ⟨a, C, _, rfl, by show 1 ≤ 1000; decide, T, ha, ?_⟩
    refine ⟨v, rfl, .ref a, rfl, a, C, rfl, T, nof, .inl ⟨ha, fun d hd hda => ?_⟩⟩
    exact q d hd hda
noncomputable abbrev s_BadBranch___init__ : Stmt := inClass (topS 8) 0
theorem sc_BadBranch___init__ : FnScope ["self", "value"] ["self", "value"] (defScope s_BadBranch___init__) := ⟨rfl, rfl, rfl, by decide +kernel, rfl, by decide +kernel, by decide +kernel⟩
theorem ok_BadBranch_init {C C0 f : Addr} {fd : FuncData} (hsm : Sm base) (F : Fun K "__init__" "BadBranch.__init__" s_BadBranch___init__ f fd) (T : OexC K C) (nof : PySem.W.findIn K (.ref C) "value" = some none) (mP : mg "PastError" = some (.ref C0)) (rP : PySem.W.readsIn K C0 (.type "type") = true)
    (gP : PySem.W.specialIn K (.ref C0) "__getattribute__" = some (some (.builtin "type.__getattribute__"))) (fP : PySem.W.findCls K (.ref C0) (.type "type") "__init__" = some (.val (.builtin "ValueError.__init__"))) : FnG P w K mg base 1 f fd ["self", "value"] (spExI K C "value" okV) := by
  refine fng_of (k := 0) F sc_BadBranch___init__ (fun vs H Q E h => ?_) (fun cdv A outer s H vs Q hr hg h => ?_)
  · obtain ⟨a, v, x, B, rfl, _⟩ := h
    rfl
  · obtain ⟨a, v, x, B, rfl, ha, sb, dv, okx, q⟩ := h
    refine ⟨_, pss_cons (ps_expr (pe_cinit (by rfl) mP rP gP fP (pa_cons (pv 0) (pa_cons (pe_joined (.cons (pe_fmtD hsm hg (un65 hr) (pv 1)) (.cons pe_str .nil))) pa_nil)))) (pss_one (ps_ost (pv 0) (pv 1))), ?_⟩
    refine ⟨.ref a, rfl, _, rfl, x, dpSame sb _ _ dv, okx.repr, ?_⟩
    refine ⟨_, rfl, size_ok (Nat.le_trans (Nat.le_of_eq appLen) ?_), ?_⟩
    · have e2 : Str.empty.length = 0 := by decide
      have := okx.2.1
      omega
    refine ⟨_, rfl, size_ok ?_, ?_⟩
    · rw [appLen, appLen]
      have e2 : Str.empty.length = 0 := by decide
      have e3 : (Str.ofString " is not a branch").length ≤ 100 := by decide
      have := okx.2.1
      omega
    refine ⟨a, C, _, rfl, by show 1 ≤ 1000; decide, T, ha, ?_⟩
    refine ⟨v, rfl, .ref a, rfl, a, C, rfl, T, nof, .inl ⟨ha, fun d hd hda => ?_⟩⟩
    exact q d hd hda
noncomputable abbrev s_BadOutcome___init__ : Stmt := inClass (topS 9) 0
theorem sc_BadOutcome___init__ : FnScope ["self", "value"] ["self", "value"] (defScope s_BadOutcome___init__) := ⟨rfl, rfl, rfl, by decide +kernel, rfl, by decide +kernel, by decide +kernel⟩
theorem ok_BadOutcome_init {C C0 f : Addr} {fd : FuncData} (hsm : Sm base) (F : Fun K "__init__" "BadOutcome.__init__" s_BadOutcome___init__ f fd) (T : OexC K C) (nof : PySem.W.findIn K (.ref C) "value" = some none) (mP : mg "PastError" = some (.ref C0)) (rP : PySem.W.readsIn K C0 (.type "type") = true)
    (gP : PySem.W.specialIn K (.ref C0) "__getattribute__" = some (some (.builtin "type.__getattribute__"))) (fP : PySem.W.findCls K (.ref C0) (.type "type") "__init__" = some (.val (.builtin "ValueError.__init__"))) : FnG P w K mg base 1 f fd ["self", "value"] (spExI K C "value" okV) := by
  refine fng_of (k := 0) F sc_BadOutcome___init__ (fun vs H Q E h => ?_) (fun cdv A outer s H vs Q hr hg h => ?_)
  · obtain ⟨a, v, x, B, rfl, _⟩ := h
    rfl
  · obtain ⟨a, v, x, B, rfl, ha, sb, dv, okx, q⟩ := h
    refine ⟨_, pss_cons (ps_expr (pe_cinit (by rfl) mP rP gP fP (pa_cons (pv 0) (pa_cons (pe_joined (.cons (pe_fmtD hsm hg (un65 hr) (pv 1)) (.cons pe_str .nil))) pa_nil)))) (pss_one (ps_ost (pv 0) (pv 1))), ?_⟩
    refine ⟨.ref a, rfl, _, rfl, x, dpSame sb _ _ dv, okx.repr, ?_⟩
    refine ⟨_, rfl, size_ok (Nat.le_trans (Nat.le_of_eq appLen) ?_), ?_⟩
    · have e2 : Str.empty.length = 0 := by decide
      have := okx.2.1
      omega
    refine ⟨_, rfl, size_ok ?_, ?_⟩
    · rw [appLen, appLen]
      have e2 : Str.empty.length = 0 := by decide
      have e3 : (Str.ofString " is not an outcome").length ≤ 100 := by decide
      have := okx.2.1
      omega
    refine ⟨a, C, _, rfl, by show 1 ≤ 1000; decide, T, ha, ?_⟩
    refine ⟨v, rfl, .ref a, rfl, a, C, rfl, T, nof, .inl ⟨ha, fun d hd hda => ?_⟩⟩
    exact q d hd hda
noncomputable abbrev s_NoCell___init__ : Stmt := inClass (topS 11) 0
theorem sc_NoCell___init__ : FnScope ["self", "value"] ["self", "value"] (defScope s_NoCell___init__) := ⟨rfl, rfl, rfl, by decide +kernel, rfl, by decide +kernel, by decide +kernel⟩
theorem ok_NoCell_init {C C0 f : Addr} {fd : FuncData} (hsm : Sm base) (F : Fun K "__init__" "NoCell.__init__" s_NoCell___init__ f fd) (T : OexC K C) (nof : PySem.W.findIn K (.ref C) "value" = some none) (mP : mg "PastError" = some (.ref C0)) (rP : PySem.W.readsIn K C0 (.type "type") = true)
    (gP : PySem.W.specialIn K (.ref C0) "__getattribute__" = some (some (.builtin "type.__getattribute__"))) (fP : PySem.W.findCls K (.ref C0) (.type "type") "__init__" = some (.val (.builtin "ValueError.__init__"))) : FnG P w K mg base 1 f fd ["self", "value"] (spExI K C "value" okV) := by
  refine fng_of (k := 0) F sc_NoCell___init__ (fun vs H Q E h => ?_) (fun cdv A outer s H vs Q hr hg h => ?_)
  · obtain ⟨a, v, x, B, rfl, _⟩ := h
    rfl
  · obtain ⟨a, v, x, B, rfl, ha, sb, dv, okx, q⟩ := h
    refine ⟨_, pss_cons (ps_expr (pe_cinit (by rfl) mP rP gP fP (pa_cons (pv 0) (pa_cons (pe_joined (.cons (pe_fmtD hsm hg (un65 hr) (pv 1)) (.cons pe_str .nil))) pa_nil)))) (pss_one (ps_ost (pv 0) (pv 1))), ?_⟩
    refine ⟨.ref a, rfl, _, rfl, x, dpSame sb _ _ dv, okx.repr, ?_⟩
    refine ⟨_, rfl, size_ok (Nat.le_trans (Nat.le_of_eq appLen) ?_), ?_⟩
    · have e2 : Str.empty.length = 0 := by decide
      have := okx.2.1
      omega
    refine ⟨_, rfl, size_ok ?_, ?_⟩
    · rw [appLen, appLen]
      have e2 : Str.empty.length = 0 := by decide
      have e3 : (Str.ofString " is not a cell that was used").length ≤ 100 := by decide
      have := okx.2.1
      omega
    refine ⟨a, C, _, rfl, by show 1 ≤ 1000; decide, T, ha, ?_⟩
    refine ⟨v, rfl, .ref a, rfl, a, C, rfl, T, nof, .inl ⟨ha, fun d hd hda => ?_⟩⟩
    exact q d hd hda
noncomputable abbrev s_BadText___init__ : Stmt := inClass (topS 13) 0
theorem sc_BadText___init__ : FnScope ["self", "text"] ["self", "text"] (defScope s_BadText___init__) := ⟨rfl, rfl, rfl, by decide +kernel, rfl, by decide +kernel, by decide +kernel⟩
theorem ok_BadText_init {C C0 f : Addr} {fd : FuncData} (hsm : Sm base) (F : Fun K "__init__" "BadText.__init__" s_BadText___init__ f fd) (T : OexC K C) (nof : PySem.W.findIn K (.ref C) "text" = some none) (mP : mg "PastError" = some (.ref C0)) (rP : PySem.W.readsIn K C0 (.type "type") = true)
    (gP : PySem.W.specialIn K (.ref C0) "__getattribute__" = some (some (.builtin "type.__getattribute__"))) (fP : PySem.W.findCls K (.ref C0) (.type "type") "__init__" = some (.val (.builtin "ValueError.__init__"))) : FnG P w K mg base 1 f fd ["self", "text"] (spExI K C "text" okV) := by
  refine fng_of (k := 0) F sc_BadText___init__ (fun vs H Q E h => ?_) (fun cdv A outer s H vs Q hr hg h => ?_)
  · obtain ⟨a, v, x, B, rfl, _⟩ := h
    rfl
  · obtain ⟨a, v, x, B, rfl, ha, sb, dv, okx, q⟩ := h
    refine ⟨_, pss_cons (ps_expr (pe_cinit (by rfl) mP rP gP fP (pa_cons (pv 0) (pa_cons (pe_joined (.cons (pe_fmtD hsm hg (un65 hr) (pv 1)) (.cons pe_str .nil))) pa_nil)))) (pss_one (ps_ost (pv 0) (pv 1))), ?_⟩
    refine ⟨.ref a, rfl, _, rfl, x, dpSame sb _ _ dv, okx.repr, ?_⟩
    refine ⟨_, rfl, size_ok (Nat.le_trans (Nat.le_of_eq appLen) ?_), ?_⟩
    · have e2 : Str.empty.length = 0 := by decide
      have := okx.2.1
      omega
    refine ⟨_, rfl, size_ok ?_, ?_⟩
    · rw [appLen, appLen]
      have e2 : Str.empty.length = 0 := by decide
      have e3 : (Str.ofString " is not such a text").length ≤ 100 := by decide
      have := okx.2.1
      omega
    refine ⟨a, C, _, rfl, by show 1 ≤ 1000; decide, T, ha, ?_⟩
    refine ⟨v, rfl, .ref a, rfl, a, C, rfl, T, nof, .inl ⟨ha, fun d hd hda => ?_⟩⟩
    exact q d hd hda
noncomputable abbrev s_BadLine___init__ : Stmt := inClass (topS 14) 0
theorem sc_BadLine___init__ : FnScope ["self", "line"] ["self", "line"] (defScope s_BadLine___init__) := ⟨rfl, rfl, rfl, by decide +kernel, rfl, by decide +kernel, by decide +kernel⟩
theorem ok_BadLine_init {C C0 f : Addr} {fd : FuncData} (hsm : Sm base) (F : Fun K "__init__" "BadLine.__init__" s_BadLine___init__ f fd) (T : OexC K C) (nof : PySem.W.findIn K (.ref C) "line" = some none) (mP : mg "PastError" = some (.ref C0)) (rP : PySem.W.readsIn K C0 (.type "type") = true)
    (gP : PySem.W.specialIn K (.ref C0) "__getattribute__" = some (some (.builtin "type.__getattribute__"))) (fP : PySem.W.findCls K (.ref C0) (.type "type") "__init__" = some (.val (.builtin "ValueError.__init__"))) : FnG P w K mg base 1 f fd ["self", "line"] (spExI K C "line" okV) := by
  refine fng_of (k := 0) F sc_BadLine___init__ (fun vs H Q E h => ?_) (fun cdv A outer s H vs Q hr hg h => ?_)
  · obtain ⟨a, v, x, B, rfl, _⟩ := h
    rfl
  · obtain ⟨a, v, x, B, rfl, ha, sb, dv, okx, q⟩ := h
    refine ⟨_, pss_cons (ps_expr (pe_cinit (by rfl) mP rP gP fP (pa_cons (pv 0) (pa_cons (pe_joined (.cons (pe_fmtD hsm hg (un65 hr) (pv 1)) (.cons pe_str .nil))) pa_nil)))) (pss_one (ps_ost (pv 0) (pv 1))), ?_⟩
    refine ⟨.ref a, rfl, _, rfl, x, dpSame sb _ _ dv, okx.repr, ?_⟩
    refine ⟨_, rfl, size_ok (Nat.le_trans (Nat.le_of_eq appLen) ?_), ?_⟩
    · have e2 : Str.empty.length = 0 := by decide
      have := okx.2.1
      omega
    refine ⟨_, rfl, size_ok ?_, ?_⟩
    · rw [appLen, appLen]
      have e2 : Str.empty.length = 0 := by decide
      have e3 : (Str.ofString " is not a line of a desk").length ≤ 100 := by decide
      have := okx.2.1
      omega
    refine ⟨a, C, _, rfl, by show 1 ≤ 1000; decide, T, ha, ?_⟩
    refine ⟨v, rfl, .ref a, rfl, a, C, rfl, T, nof, .inl ⟨ha, fun d hd hda => ?_⟩⟩
    exact q d hd hda
noncomputable abbrev s_NothingToUndo___init__ : Stmt := inClass (topS 10) 0
theorem sc_NothingToUndo___init__ : FnScope ["self"] ["self"] (defScope s_NothingToUndo___init__) := ⟨rfl, rfl, rfl, by decide +kernel, rfl, by decide +kernel, by decide +kernel⟩
theorem ok_NothingToUndo_init {C C0 f : Addr} {fd : FuncData} (F : Fun K "__init__" "NothingToUndo.__init__" s_NothingToUndo___init__ f fd) (T : OexC K C) (mP : mg "PastError" = some (.ref C0)) (rP : PySem.W.readsIn K C0 (.type "type") = true)
    (gP : PySem.W.specialIn K (.ref C0) "__getattribute__" = some (some (.builtin "type.__getattribute__"))) (fP : PySem.W.findCls K (.ref C0) (.type "type") "__init__" = some (.val (.builtin "ValueError.__init__"))) : FnG P w K mg base 1 f fd ["self"] (spExI0 K C) := by
  refine fng_of (k := 0) F sc_NothingToUndo___init__ (fun vs H Q E h => ?_) (fun cdv A outer s H vs Q hr hg h => ?_)
  · obtain ⟨a, rfl, _⟩ := h
    rfl
  · obtain ⟨a, rfl, ha, q⟩ := h
    refine ⟨_, pss_one (ps_expr (pe_cinit (by rfl) mP rP gP fP (pa_cons (pv 0) (pa_cons pe_str pa_nil)))), ?_⟩
    refine ⟨.ref a, rfl, a, C, _, rfl, by show 1 ≤ 1000; decide, T, ha, ?_⟩
    exact q
noncomputable abbrev s_NoPredictor___init__ : Stmt := inClass (topS 12) 0
theorem sc_NoPredictor___init__ : FnScope ["self"] ["self"] (defScope s_NoPredictor___init__) := ⟨rfl, rfl, rfl, by decide +kernel, rfl, by decide +kernel, by decide +kernel⟩
theorem ok_NoPredictor_init {C C0 f : Addr} {fd : FuncData} (F : Fun K "__init__" "NoPredictor.__init__" s_NoPredictor___init__ f fd) (T : OexC K C) (mP : mg "PastError" = some (.ref C0)) (rP : PySem.W.readsIn K C0 (.type "type") = true)
    (gP : PySem.W.specialIn K (.ref C0) "__getattribute__" = some (some (.builtin "type.__getattribute__"))) (fP : PySem.W.findCls K (.ref C0) (.type "type") "__init__" = some (.val (.builtin "ValueError.__init__"))) : FnG P w K mg base 1 f fd ["self"] (spExI0 K C) := by
  refine fng_of (k := 0) F sc_NoPredictor___init__ (fun vs H Q E h => ?_) (fun cdv A outer s H vs Q hr hg h => ?_)
  · obtain ⟨a, rfl, _⟩ := h
    rfl
  · obtain ⟨a, rfl, ha, q⟩ := h
    refine ⟨_, pss_one (ps_expr (pe_cinit (by rfl) mP rP gP fP (pa_cons (pv 0) (pa_cons pe_str pa_nil)))), ?_⟩
    refine ⟨.ref a, rfl, a, C, _, rfl, by show 1 ≤ 1000; decide, T, ha, ?_⟩
    exact q
noncomputable abbrev s_NoTrace___init__ : Stmt := inClass (topS 15) 0
theorem sc_NoTrace___init__ : FnScope ["self"] ["self"] (defScope s_NoTrace___init__) := ⟨rfl, rfl, rfl, by decide +kernel, rfl, by decide +kernel, by decide +kernel⟩
theorem ok_NoTrace_init {C C0 f : Addr} {fd : FuncData} (F : Fun K "__init__" "NoTrace.__init__" s_NoTrace___init__ f fd) (T : OexC K C) (mP : mg "PastError" = some (.ref C0)) (rP : PySem.W.readsIn K C0 (.type "type") = true)
    (gP : PySem.W.specialIn K (.ref C0) "__getattribute__" = some (some (.builtin "type.__getattribute__"))) (fP : PySem.W.findCls K (.ref C0) (.type "type") "__init__" = some (.val (.builtin "ValueError.__init__"))) : FnG P w K mg base 1 f fd ["self"] (spExI0 K C) := by
  refine fng_of (k := 0) F sc_NoTrace___init__ (fun vs H Q E h => ?_) (fun cdv A outer s H vs Q hr hg h => ?_)
  · obtain ⟨a, rfl, _⟩ := h
    rfl
  · obtain ⟨a, rfl, ha, q⟩ := h
    refine ⟨_, pss_one (ps_expr (pe_cinit (by rfl) mP rP gP fP (pa_cons (pv 0) (pa_cons pe_str pa_nil)))), ?_⟩
    refine ⟨.ref a, rfl, a, C, _, rfl, by show 1 ≤ 1000; decide, T, ha, ?_⟩
    exact q
structure XAll (P : Program) (w : World) (K : PySem.W.Frag) (mg : Str → Option Value) (base : Heap) (C_NoBranch C_TooShort C_TooLong C_TooManyBranches C_BadScheme C_BadCounter C_BadBranch C_BadOutcome C_NoCell C_BadText C_BadLine C_NothingToUndo C_NoPredictor C_NoTrace C_PastError : Addr) : Prop where
  v_NoBranch : ExVDef P w K mg base 1 "NoBranch" "value" okV C_NoBranch
  i_NoBranch : IsAll K [C_NoBranch, C_TooShort, C_TooLong, C_TooManyBranches, C_BadScheme, C_BadCounter, C_BadBranch, C_BadOutcome, C_NoCell, C_BadText, C_BadLine, C_NothingToUndo, C_NoPredictor, C_NoTrace, C_PastError] (.ref C_NoBranch) (fun i => decide (i = 0))
  v_TooShort : ExVDef P w K mg base 1 "TooShort" "reach" okV C_TooShort
  i_TooShort : IsAll K [C_NoBranch, C_TooShort, C_TooLong, C_TooManyBranches, C_BadScheme, C_BadCounter, C_BadBranch, C_BadOutcome, C_NoCell, C_BadText, C_BadLine, C_NothingToUndo, C_NoPredictor, C_NoTrace, C_PastError] (.ref C_TooShort) (fun i => decide (i = 1))
  v_TooLong : ExVDef P w K mg base 1 "TooLong" "limit" okV C_TooLong
  i_TooLong : IsAll K [C_NoBranch, C_TooShort, C_TooLong, C_TooManyBranches, C_BadScheme, C_BadCounter, C_BadBranch, C_BadOutcome, C_NoCell, C_BadText, C_BadLine, C_NothingToUndo, C_NoPredictor, C_NoTrace, C_PastError] (.ref C_TooLong) (fun i => decide (i = 2))
  v_TooManyBranches : ExVDef P w K mg base 1 "TooManyBranches" "limit" okV C_TooManyBranches
  i_TooManyBranches : IsAll K [C_NoBranch, C_TooShort, C_TooLong, C_TooManyBranches, C_BadScheme, C_BadCounter, C_BadBranch, C_BadOutcome, C_NoCell, C_BadText, C_BadLine, C_NothingToUndo, C_NoPredictor, C_NoTrace, C_PastError] (.ref C_TooManyBranches) (fun i => decide (i = 3))
  v_BadScheme : ExVDef P w K mg base 1 "BadScheme" "value" okV C_BadScheme
  i_BadScheme : IsAll K [C_NoBranch, C_TooShort, C_TooLong, C_TooManyBranches, C_BadScheme, C_BadCounter, C_BadBranch, C_BadOutcome, C_NoCell, C_BadText, C_BadLine, C_NothingToUndo, C_NoPredictor, C_NoTrace, C_PastError] (.ref C_BadScheme) (fun i => decide (i = 4))
  v_BadCounter : ExVDef P w K mg base 1 "BadCounter" "value" okV C_BadCounter
  i_BadCounter : IsAll K [C_NoBranch, C_TooShort, C_TooLong, C_TooManyBranches, C_BadScheme, C_BadCounter, C_BadBranch, C_BadOutcome, C_NoCell, C_BadText, C_BadLine, C_NothingToUndo, C_NoPredictor, C_NoTrace, C_PastError] (.ref C_BadCounter) (fun i => decide (i = 5))
  v_BadBranch : ExVDef P w K mg base 1 "BadBranch" "value" okV C_BadBranch
  i_BadBranch : IsAll K [C_NoBranch, C_TooShort, C_TooLong, C_TooManyBranches, C_BadScheme, C_BadCounter, C_BadBranch, C_BadOutcome, C_NoCell, C_BadText, C_BadLine, C_NothingToUndo, C_NoPredictor, C_NoTrace, C_PastError] (.ref C_BadBranch) (fun i => decide (i = 6))
  v_BadOutcome : ExVDef P w K mg base 1 "BadOutcome" "value" okV C_BadOutcome
  i_BadOutcome : IsAll K [C_NoBranch, C_TooShort, C_TooLong, C_TooManyBranches, C_BadScheme, C_BadCounter, C_BadBranch, C_BadOutcome, C_NoCell, C_BadText, C_BadLine, C_NothingToUndo, C_NoPredictor, C_NoTrace, C_PastError] (.ref C_BadOutcome) (fun i => decide (i = 7))
  v_NoCell : ExVDef P w K mg base 1 "NoCell" "value" okV C_NoCell
  i_NoCell : IsAll K [C_NoBranch, C_TooShort, C_TooLong, C_TooManyBranches, C_BadScheme, C_BadCounter, C_BadBranch, C_BadOutcome, C_NoCell, C_BadText, C_BadLine, C_NothingToUndo, C_NoPredictor, C_NoTrace, C_PastError] (.ref C_NoCell) (fun i => decide (i = 8))
  v_BadText : ExVDef P w K mg base 1 "BadText" "text" okV C_BadText
  i_BadText : IsAll K [C_NoBranch, C_TooShort, C_TooLong, C_TooManyBranches, C_BadScheme, C_BadCounter, C_BadBranch, C_BadOutcome, C_NoCell, C_BadText, C_BadLine, C_NothingToUndo, C_NoPredictor, C_NoTrace, C_PastError] (.ref C_BadText) (fun i => decide (i = 9))
  v_BadLine : ExVDef P w K mg base 1 "BadLine" "line" okV C_BadLine
  i_BadLine : IsAll K [C_NoBranch, C_TooShort, C_TooLong, C_TooManyBranches, C_BadScheme, C_BadCounter, C_BadBranch, C_BadOutcome, C_NoCell, C_BadText, C_BadLine, C_NothingToUndo, C_NoPredictor, C_NoTrace, C_PastError] (.ref C_BadLine) (fun i => decide (i = 10))
  z_NothingToUndo : ExV0Def P w K mg base 1 "NothingToUndo" C_NothingToUndo
  i_NothingToUndo : IsAll K [C_NoBranch, C_TooShort, C_TooLong, C_TooManyBranches, C_BadScheme, C_BadCounter, C_BadBranch, C_BadOutcome, C_NoCell, C_BadText, C_BadLine, C_NothingToUndo, C_NoPredictor, C_NoTrace, C_PastError] (.ref C_NothingToUndo) (fun i => decide (i = 11))
  z_NoPredictor : ExV0Def P w K mg base 1 "NoPredictor" C_NoPredictor
  i_NoPredictor : IsAll K [C_NoBranch, C_TooShort, C_TooLong, C_TooManyBranches, C_BadScheme, C_BadCounter, C_BadBranch, C_BadOutcome, C_NoCell, C_BadText, C_BadLine, C_NothingToUndo, C_NoPredictor, C_NoTrace, C_PastError] (.ref C_NoPredictor) (fun i => decide (i = 12))
  z_NoTrace : ExV0Def P w K mg base 1 "NoTrace" C_NoTrace
  i_NoTrace : IsAll K [C_NoBranch, C_TooShort, C_TooLong, C_TooManyBranches, C_BadScheme, C_BadCounter, C_BadBranch, C_BadOutcome, C_NoCell, C_BadText, C_BadLine, C_NothingToUndo, C_NoPredictor, C_NoTrace, C_PastError] (.ref C_NoTrace) (fun i => decide (i = 13))
  g_NoBranch : mg "NoBranch" = some (.ref C_NoBranch)
  g_TooShort : mg "TooShort" = some (.ref C_TooShort)
  g_TooLong : mg "TooLong" = some (.ref C_TooLong)
  g_TooManyBranches : mg "TooManyBranches" = some (.ref C_TooManyBranches)
  g_BadScheme : mg "BadScheme" = some (.ref C_BadScheme)
  g_BadCounter : mg "BadCounter" = some (.ref C_BadCounter)
  g_BadBranch : mg "BadBranch" = some (.ref C_BadBranch)
  g_BadOutcome : mg "BadOutcome" = some (.ref C_BadOutcome)
  g_NoCell : mg "NoCell" = some (.ref C_NoCell)
  g_BadText : mg "BadText" = some (.ref C_BadText)
  g_BadLine : mg "BadLine" = some (.ref C_BadLine)
  g_NothingToUndo : mg "NothingToUndo" = some (.ref C_NothingToUndo)
  g_NoPredictor : mg "NoPredictor" = some (.ref C_NoPredictor)
  g_NoTrace : mg "NoTrace" = some (.ref C_NoTrace)
  g_PastError : mg "PastError" = some (.ref C_PastError)
  i_PastError : IsAll K [C_NoBranch, C_TooShort, C_TooLong, C_TooManyBranches, C_BadScheme, C_BadCounter, C_BadBranch, C_BadOutcome, C_NoCell, C_BadText, C_BadLine, C_NothingToUndo, C_NoPredictor, C_NoTrace, C_PastError] (.ref C_PastError) (fun _ => true)
  i_ValueError : IsAll K [C_NoBranch, C_TooShort, C_TooLong, C_TooManyBranches, C_BadScheme, C_BadCounter, C_BadBranch, C_BadOutcome, C_NoCell, C_BadText, C_BadLine, C_NothingToUndo, C_NoPredictor, C_NoTrace, C_PastError] (.type "ValueError") (fun _ => true)
  pI : PySem.W.excIn K C_PastError bmP "ValueError.__new__" = true
  pK : PySem.W.keepIn K (.ref C_PastError) = true

noncomputable def okT (x : PyData) : Prop := AO 1100 8 x
noncomputable def flds : List (Option Str) := [some "value", some "reach", some "limit", some "limit", some "value", some "value", some "value", some "value", some "value", some "text", some "line", none, none, none]
noncomputable def kindsD (i : Nat) : List PyData := (List.range 14).map fun j => .bool (decide (i = j))
noncomputable def spKinds (CS : List Addr) : DSpM := fun rs ms n Q => ∃ (a : Addr) (i : Nat) (C : Addr) (o : Option (Str × PyData)), rs = [.obj a] ∧ ms = [ownM a (exT C o)] ∧ CS[i]? = some C ∧ Q (.d (.list (kindsD i))) [ownM a (exT C o)] n
noncomputable def excL (CS : List Addr) (x : PyData) (as : List Addr) (ms : MS) : Prop := as.length = 14 ∧ ∀ i a, as[i]? = some a → ∃ C, CS[i]? = some C ∧ ownM a (exT C ((flds.getD i none).map fun f => (f, x))) ∈ ms
noncomputable def spMade (CS : List Addr) : DSpM := fun rs ms n Q => ∃ x : PyData, rs = [.d x] ∧ ms = [] ∧ okT x ∧ ∀ (st : Addr) (as : List Addr) (ms' : MS), ownM st (listA as) ∈ ms' → excL CS x as ms' → Q (.obj st) ms' n
noncomputable def spKept (CS : List Addr) : DSpM := fun rs ms n Q => ∃ (st : Addr) (as : List Addr) (x : PyData), rs = [.obj st] ∧ ownM st (listA as) ∈ ms ∧ excL CS x as ms ∧ okT x ∧ Q (.d (.list (List.replicate 11 x))) ms n
theorem excL_at {CS as : List Addr} {x : PyData} {ms : MS} (h : excL CS x as ms) (i : Nat) (C : Addr) (f : Str) (hi : i < 14) (hC : CS[i]? = some C) (hf : flds.getD i none = some f) : ∃ a, atI as (i : Int) = some a ∧ ownM a (exT C (some (f, x))) ∈ ms := by
  obtain ⟨hl, h2⟩ := h
  have e : as[i]? = some as[i] := List.getElem?_eq_getElem (by omega)
  obtain ⟨C', e2, hm⟩ := h2 i _ e
  rw [hC] at e2
  cases e2
  rw [hf] at hm
  exact ⟨_, atI_of (by omega) e, hm⟩
theorem excL_sub {CS as : List Addr} {x : PyData} {ms ms' : MS} (h : excL CS x as ms) (k : ∀ y ∈ ms, y ∈ ms') : excL CS x as ms' := ⟨h.1, fun i a e => let ⟨C, e2, hm⟩ := h.2 i a e; ⟨C, e2, k _ hm⟩⟩
theorem okT_11 {x : PyData} (h : okT x) : ReprOk (.list (List.replicate 11 x)) := by
  have key : ∀ n : Nat, AOs (1200 * n + 10) 8 (List.replicate n x) := fun n => by
    induction n with
    | zero => exact (AOs.nil (d := 8)).mono (by omega) (Nat.le_refl _)
    | succ n ih => exact (AOs.cons h ih).mono (by omega) (by omega)
  exact ((AO.lst (key 11)).okv (by decide) (by decide)).repr
theorem kinds_all : ((List.range 15).all fun k => SeqAt.shaped (.list (kindsD k)) && PyData.eqv (.list (kindsD k)) (.list (kindsD k))) = true := by decide +kernel
theorem kinds_ok (k : Nat) (hk : k < 15) : SeqAt.shaped (.list (kindsD k)) = true ∧ PyData.eqv (.list (kindsD k)) (.list (kindsD k)) = true := by
  have h := List.all_eq_true.mp kinds_all k (List.mem_range.mpr hk)
  rw [Bool.and_eq_true] at h
  exact h
noncomputable def spRight : DSp := fun rs n Q => ∃ x : PyData, rs = [.d x] ∧ okT x ∧ Q (.d (.bool true)) n
theorem ok__law_kinds {C_NoBranch : Addr} {C_TooShort : Addr} {C_TooLong : Addr} {C_TooManyBranches : Addr} {C_BadScheme : Addr} {C_BadCounter : Addr} {C_BadBranch : Addr} {C_BadOutcome : Addr} {C_NoCell : Addr} {C_BadText : Addr} {C_BadLine : Addr} {C_NothingToUndo : Addr} {C_NoPredictor : Addr} {C_NoTrace : Addr} {C_PastError : Addr} {f : Addr} {fd : FuncData} (F : Fun K "_law_kinds" "_law_kinds" s__law_kinds f fd) (hm : mg "_law_kinds" = some (.ref f)) (hb : Binds K fd ["_law_mistake"] []) (m_isinstance : mg "isinstance" = none) (XA : XAll P w K mg base C_NoBranch C_TooShort C_TooLong C_TooManyBranches C_BadScheme C_BadCounter C_BadBranch C_BadOutcome C_NoCell C_BadText C_BadLine C_NothingToUndo C_NoPredictor C_NoTrace C_PastError) : DefM P w K mg base 1 "_law_kinds" ["_law_mistake"] (spKinds [C_NoBranch,C_TooShort,C_TooLong,C_TooManyBranches,C_BadScheme,C_BadCounter,C_BadBranch,C_BadOutcome,C_NoCell,C_BadText,C_BadLine,C_NothingToUndo,C_NoPredictor,C_NoTrace,C_PastError]) := by
  refine defm_mk (k := 0) F sc__law_kinds hm hb ?hlen (fun cdv A outer s H E hr => (lssm_cons (lsm_setAsX 0 1 sc__law_kinds.nd (le_lst (la_cons (le_isG (c := .ref C_NoBranch) 0 XA.i_NoBranch (by rfl) m_isinstance (fun _ h => h) (pe_glob (v := .ref _) (by rfl) XA.g_NoBranch rfl)) (la_cons (le_isG (c := .ref C_TooShort) 0 XA.i_TooShort (by rfl) m_isinstance (fun _ h => h) (pe_glob (v := .ref _) (by rfl) XA.g_TooShort rfl)) (la_cons (le_isG (c := .ref C_TooLong) 0 XA.i_TooLong (by rfl) m_isinstance (fun _ h => h) (pe_glob (v := .ref _) (by rfl) XA.g_TooLong rfl)) la_nil)))))
  (lssm_cons (lsm_extAsX 0 1 (le_lst (la_cons (le_isG (c := .ref C_TooManyBranches) 0 XA.i_TooManyBranches (by rfl) m_isinstance (fun _ h => h) (pe_glob (v := .ref _) (by rfl) XA.g_TooManyBranches rfl)) (la_cons (le_isG (c := .ref C_BadScheme) 0 XA.i_BadScheme (by rfl) m_isinstance (fun _ h => h) (pe_glob (v := .ref _) (by rfl) XA.g_BadScheme rfl)) la_nil))))
  (lssm_cons (lsm_extAsX 0 1 (le_lst (la_cons (le_isG (c := .ref C_BadCounter) 0 XA.i_BadCounter (by rfl) m_isinstance (fun _ h => h) (pe_glob (v := .ref _) (by rfl) XA.g_BadCounter rfl)) (la_cons (le_isG (c := .ref C_BadBranch) 0 XA.i_BadBranch (by rfl) m_isinstance (fun _ h => h) (pe_glob (v := .ref _) (by rfl) XA.g_BadBranch rfl)) la_nil))))
  (lssm_cons (lsm_extAsX 0 1 (le_lst (la_cons (le_isG (c := .ref C_BadOutcome) 0 XA.i_BadOutcome (by rfl) m_isinstance (fun _ h => h) (pe_glob (v := .ref _) (by rfl) XA.g_BadOutcome rfl)) (la_cons (le_isG (c := .ref C_NoCell) 0 XA.i_NoCell (by rfl) m_isinstance (fun _ h => h) (pe_glob (v := .ref _) (by rfl) XA.g_NoCell rfl)) la_nil))))
  (lssm_cons (lsm_extAsX 0 1 (le_lst (la_cons (le_isG (c := .ref C_BadText) 0 XA.i_BadText (by rfl) m_isinstance (fun _ h => h) (pe_glob (v := .ref _) (by rfl) XA.g_BadText rfl)) (la_cons (le_isG (c := .ref C_BadLine) 0 XA.i_BadLine (by rfl) m_isinstance (fun _ h => h) (pe_glob (v := .ref _) (by rfl) XA.g_BadLine rfl)) (la_cons (le_isG (c := .ref C_NothingToUndo) 0 XA.i_NothingToUndo (by rfl) m_isinstance (fun _ h => h) (pe_glob (v := .ref _) (by rfl) XA.g_NothingToUndo rfl)) la_nil)))))
  (lssm_one (lsm_ret (lem_asX 0 (le_op lo_add (le_var 1) (le_lst (la_cons (le_isG (c := .ref C_NoPredictor) 0 XA.i_NoPredictor (by rfl) m_isinstance (fun _ h => h) (pe_glob (v := .ref _) (by rfl) XA.g_NoPredictor rfl)) (la_cons (le_isG (c := .ref C_NoTrace) 0 XA.i_NoTrace (by rfl) m_isinstance (fun _ h => h) (pe_glob (v := .ref _) (by rfl) XA.g_NoTrace rfl)) la_nil))))))))))))) ?hd
  case hlen =>
    rintro rs ms n Q ⟨a, i, C, o, rfl, _⟩
    rfl
  case hd =>
    rintro rs ms n Qd _ ⟨a, i, C, o, rfl, rfl, hi, hq⟩
    refine seqM_def _ _ _ _ _ _ (fun R hR => ?_)
    walk_at "dm"
    refine ⟨a, _, rfl, List.mem_singleton.mpr rfl, i, C, o, hi, rfl, i, C, o, hi, rfl, i, C, o, hi, rfl, by decide, trivial, ?_⟩
    refine Eq.mpr (hR _ _ _) ?_; clear hR
    refine seqM_def _ _ _ _ _ _ (fun R hR => ?_)
    walk_at "dm"
    refine ⟨by decide, a, _, rfl, List.mem_singleton.mpr rfl, i, C, o, hi, rfl, i, C, o, hi, rfl, by decide, by decide, ?_⟩
    refine Eq.mpr (hR _ _ _) ?_; clear hR
    refine seqM_def _ _ _ _ _ _ (fun R hR => ?_)
    walk_at "dm"
    refine ⟨by decide, a, _, rfl, List.mem_singleton.mpr rfl, i, C, o, hi, rfl, i, C, o, hi, rfl, by decide, by decide, ?_⟩
    refine Eq.mpr (hR _ _ _) ?_; clear hR
    refine seqM_def _ _ _ _ _ _ (fun R hR => ?_)
    walk_at "dm"
    refine ⟨by decide, a, _, rfl, List.mem_singleton.mpr rfl, i, C, o, hi, rfl, i, C, o, hi, rfl, by decide, by decide, ?_⟩
    refine Eq.mpr (hR _ _ _) ?_; clear hR
    refine seqM_def _ _ _ _ _ _ (fun R hR => ?_)
    walk_at "dm"
    refine ⟨by decide, a, _, rfl, List.mem_singleton.mpr rfl, i, C, o, hi, rfl, i, C, o, hi, rfl, i, C, o, hi, rfl, by decide, by decide, ?_⟩
    refine Eq.mpr (hR _ _ _) ?_; clear hR
    walk_at "dm"
    exact ⟨a, _, rfl, List.mem_singleton.mpr rfl, i, C, o, hi, rfl, i, C, o, hi, rfl, by decide, by decide, hq⟩
theorem ok__law_by_place {C_NoBranch : Addr} {C_TooShort : Addr} {C_TooLong : Addr} {C_TooManyBranches : Addr} {C_BadScheme : Addr} {C_BadCounter : Addr} {C_BadBranch : Addr} {C_BadOutcome : Addr} {C_NoCell : Addr} {C_BadText : Addr} {C_BadLine : Addr} {C_NothingToUndo : Addr} {C_NoPredictor : Addr} {C_NoTrace : Addr} {C_PastError : Addr} {f : Addr} {fd : FuncData} (F : Fun K "_law_by_place" "_law_by_place" s__law_by_place f fd) (hm : mg "_law_by_place" = some (.ref f)) (hb : Binds K fd ["_law_thing"] []) (XA : XAll P w K mg base C_NoBranch C_TooShort C_TooLong C_TooManyBranches C_BadScheme C_BadCounter C_BadBranch C_BadOutcome C_NoCell C_BadText C_BadLine C_NothingToUndo C_NoPredictor C_NoTrace C_PastError) : DefM P w K mg base 3 "_law_by_place" ["_law_thing"] (spMade [C_NoBranch,C_TooShort,C_TooLong,C_TooManyBranches,C_BadScheme,C_BadCounter,C_BadBranch,C_BadOutcome,C_NoCell,C_BadText,C_BadLine,C_NothingToUndo,C_NoPredictor,C_NoTrace,C_PastError]) := by
  refine defm_mk (k := 2) F sc__law_by_place hm hb ?hlen (fun cdv A outer s H E hr => (lssm_cons (lsm_set 1 sc__law_by_place.nd (lem_lstA (lam_cons (lem_exV XA.v_NoBranch (hr.mono (by decide)) (by rfl) (lam_cons (lem_of (le_var 0)) lam_nil)) (lam_cons (lem_exV XA.v_TooShort (hr.mono (by decide)) (by rfl) (lam_cons (lem_of (le_var 0)) lam_nil)) (lam_cons (lem_exV XA.v_TooLong (hr.mono (by decide)) (by rfl) (lam_cons (lem_of (le_var 0)) lam_nil)) (lam_cons (lem_exV XA.v_TooManyBranches (hr.mono (by decide)) (by rfl) (lam_cons (lem_of (le_var 0)) lam_nil)) (lam_cons (lem_exV XA.v_BadScheme (hr.mono (by decide)) (by rfl) (lam_cons (lem_of (le_var 0)) lam_nil)) lam_nil)))))))
  (lssm_cons (lsm_set 1 sc__law_by_place.nd (lem_addA (lem_of (le_var 1)) (lem_lstA (lam_cons (lem_exV XA.v_BadCounter (hr.mono (by decide)) (by rfl) (lam_cons (lem_of (le_var 0)) lam_nil)) (lam_cons (lem_exV XA.v_BadBranch (hr.mono (by decide)) (by rfl) (lam_cons (lem_of (le_var 0)) lam_nil)) (lam_cons (lem_exV XA.v_BadOutcome (hr.mono (by decide)) (by rfl) (lam_cons (lem_of (le_var 0)) lam_nil)) (lam_cons (lem_exV XA.v_NoCell (hr.mono (by decide)) (by rfl) (lam_cons (lem_of (le_var 0)) lam_nil)) lam_nil)))))))
  (lssm_cons (lsm_set 1 sc__law_by_place.nd (lem_addA (lem_of (le_var 1)) (lem_lstA (lam_cons (lem_exV XA.v_BadText (hr.mono (by decide)) (by rfl) (lam_cons (lem_of (le_var 0)) lam_nil)) (lam_cons (lem_exV XA.v_BadLine (hr.mono (by decide)) (by rfl) (lam_cons (lem_of (le_var 0)) lam_nil)) lam_nil)))))
  (lssm_one (lsm_ret (lem_addA (lem_of (le_var 1)) (lem_lstA (lam_cons (lem_exV0 XA.z_NothingToUndo (hr.mono (by decide)) (by rfl)) (lam_cons (lem_exV0 XA.z_NoPredictor (hr.mono (by decide)) (by rfl)) (lam_cons (lem_exV0 XA.z_NoTrace (hr.mono (by decide)) (by rfl)) lam_nil))))))))))) ?hd
  case hlen =>
    rintro rs ms n Q ⟨x, rfl, _⟩
    rfl
  case hd =>
    rintro rs ms n Qd _ ⟨x, rfl, rfl, hx, hq⟩
    have okx : okV x := hx.okv (by decide) (by decide)
    refine seqM_def _ _ _ _ _ _ (fun R hR => ?_)
    walk_at "dm"
    refine ⟨okx, fun a0 => ⟨okx, fun a1 => ⟨okx, fun a2 => ⟨okx, fun a3 => ⟨okx, fun a4 => ⟨[a0, a1, a2, a3, a4], rfl, (show 5 ≤ sizeLine by decide), fun s1 => ?_⟩⟩⟩⟩⟩⟩
    refine Eq.mpr (hR _ _ _) ?_; clear hR
    refine seqM_def _ _ _ _ _ _ (fun R hR => ?_)
    walk_at "dm"
    refine ⟨okx, fun a5 => ⟨okx, fun a6 => ⟨okx, fun a7 => ⟨okx, fun a8 => ⟨[a5, a6, a7, a8], rfl, (show 4 ≤ sizeLine by decide), fun t1 => ⟨t1, [a0, a1, a2, a3, a4], _, rfl, by simp, List.mem_cons_self, (show 9 ≤ sizeLine by decide), fun s2 => ?_⟩⟩⟩⟩⟩⟩
    refine Eq.mpr (hR _ _ _) ?_; clear hR
    refine seqM_def _ _ _ _ _ _ (fun R hR => ?_)
    walk_at "dm"
    refine ⟨okx, fun a9 => ⟨okx, fun a10 => ⟨[a9, a10], rfl, (show 2 ≤ sizeLine by decide), fun t2 => ⟨t2, [a0, a1, a2, a3, a4, a5, a6, a7, a8], _, rfl, by simp, List.mem_cons_self, (show 11 ≤ sizeLine by decide), fun s3 => ?_⟩⟩⟩⟩
    refine Eq.mpr (hR _ _ _) ?_; clear hR
    walk_at "dm"
    refine fun a11 a12 a13 => ⟨[a11, a12, a13], rfl, (show 3 ≤ sizeLine by decide), fun t3 => ⟨t3, [a0, a1, a2, a3, a4, a5, a6, a7, a8, a9, a10], _, rfl, by simp, List.mem_cons_self, (show 14 ≤ sizeLine by decide), fun s4 => ?_⟩⟩
    refine hq _ _ _ List.mem_cons_self ⟨rfl, fun i a h => ?_⟩
    match i, h with
    | 0, h => cases h; exact ⟨_, rfl, by show ownM a0 (exT C_NoBranch (some ("value", x))) ∈ _; simp⟩
    | 1, h => cases h; exact ⟨_, rfl, by show ownM a1 (exT C_TooShort (some ("reach", x))) ∈ _; simp⟩
    | 2, h => cases h; exact ⟨_, rfl, by show ownM a2 (exT C_TooLong (some ("limit", x))) ∈ _; simp⟩
    | 3, h => cases h; exact ⟨_, rfl, by show ownM a3 (exT C_TooManyBranches (some ("limit", x))) ∈ _; simp⟩
    | 4, h => cases h; exact ⟨_, rfl, by show ownM a4 (exT C_BadScheme (some ("value", x))) ∈ _; simp⟩
    | 5, h => cases h; exact ⟨_, rfl, by show ownM a5 (exT C_BadCounter (some ("value", x))) ∈ _; simp⟩
    | 6, h => cases h; exact ⟨_, rfl, by show ownM a6 (exT C_BadBranch (some ("value", x))) ∈ _; simp⟩
    | 7, h => cases h; exact ⟨_, rfl, by show ownM a7 (exT C_BadOutcome (some ("value", x))) ∈ _; simp⟩
    | 8, h => cases h; exact ⟨_, rfl, by show ownM a8 (exT C_NoCell (some ("value", x))) ∈ _; simp⟩
    | 9, h => cases h; exact ⟨_, rfl, by show ownM a9 (exT C_BadText (some ("text", x))) ∈ _; simp⟩
    | 10, h => cases h; exact ⟨_, rfl, by show ownM a10 (exT C_BadLine (some ("line", x))) ∈ _; simp⟩
    | 11, h => cases h; exact ⟨_, rfl, by show ownM a11 (exT C_NothingToUndo none) ∈ _; simp⟩
    | 12, h => cases h; exact ⟨_, rfl, by show ownM a12 (exT C_NoPredictor none) ∈ _; simp⟩
    | 13, h => cases h; exact ⟨_, rfl, by show ownM a13 (exT C_NoTrace none) ∈ _; simp⟩
    | (n + 14), h => cases h
theorem ok__law_by_name {C_NoBranch : Addr} {C_TooShort : Addr} {C_TooLong : Addr} {C_TooManyBranches : Addr} {C_BadScheme : Addr} {C_BadCounter : Addr} {C_BadBranch : Addr} {C_BadOutcome : Addr} {C_NoCell : Addr} {C_BadText : Addr} {C_BadLine : Addr} {C_NothingToUndo : Addr} {C_NoPredictor : Addr} {C_NoTrace : Addr} {C_PastError : Addr} {f : Addr} {fd : FuncData} (F : Fun K "_law_by_name" "_law_by_name" s__law_by_name f fd) (hm : mg "_law_by_name" = some (.ref f)) (hb : Binds K fd ["_law_thing"] []) (XA : XAll P w K mg base C_NoBranch C_TooShort C_TooLong C_TooManyBranches C_BadScheme C_BadCounter C_BadBranch C_BadOutcome C_NoCell C_BadText C_BadLine C_NothingToUndo C_NoPredictor C_NoTrace C_PastError) : DefM P w K mg base 3 "_law_by_name" ["_law_thing"] (spMade [C_NoBranch,C_TooShort,C_TooLong,C_TooManyBranches,C_BadScheme,C_BadCounter,C_BadBranch,C_BadOutcome,C_NoCell,C_BadText,C_BadLine,C_NothingToUndo,C_NoPredictor,C_NoTrace,C_PastError]) := by
  refine defm_mk (k := 2) F sc__law_by_name hm hb ?hlen (fun cdv A outer s H E hr => (lssm_cons (lsm_set 1 sc__law_by_name.nd (lem_lstA (lam_cons (lem_exVK XA.v_NoBranch (hr.mono (by decide)) (by rfl) (lem_of (le_var 0))) (lam_cons (lem_exVK XA.v_TooShort (hr.mono (by decide)) (by rfl) (lem_of (le_var 0))) (lam_cons (lem_exVK XA.v_TooLong (hr.mono (by decide)) (by rfl) (lem_of (le_var 0))) (lam_cons (lem_exVK XA.v_TooManyBranches (hr.mono (by decide)) (by rfl) (lem_of (le_var 0))) lam_nil))))))
  (lssm_cons (lsm_set 1 sc__law_by_name.nd (lem_addA (lem_of (le_var 1)) (lem_lstA (lam_cons (lem_exVK XA.v_BadScheme (hr.mono (by decide)) (by rfl) (lem_of (le_var 0))) (lam_cons (lem_exVK XA.v_BadCounter (hr.mono (by decide)) (by rfl) (lem_of (le_var 0))) (lam_cons (lem_exVK XA.v_BadBranch (hr.mono (by decide)) (by rfl) (lem_of (le_var 0))) (lam_cons (lem_exVK XA.v_BadOutcome (hr.mono (by decide)) (by rfl) (lem_of (le_var 0))) lam_nil)))))))
  (lssm_cons (lsm_set 1 sc__law_by_name.nd (lem_addA (lem_of (le_var 1)) (lem_lstA (lam_cons (lem_exVK XA.v_NoCell (hr.mono (by decide)) (by rfl) (lem_of (le_var 0))) (lam_cons (lem_exVK XA.v_BadText (hr.mono (by decide)) (by rfl) (lem_of (le_var 0))) (lam_cons (lem_exVK XA.v_BadLine (hr.mono (by decide)) (by rfl) (lem_of (le_var 0))) lam_nil))))))
  (lssm_one (lsm_ret (lem_addA (lem_of (le_var 1)) (lem_lstA (lam_cons (lem_exV0 XA.z_NothingToUndo (hr.mono (by decide)) (by rfl)) (lam_cons (lem_exV0 XA.z_NoPredictor (hr.mono (by decide)) (by rfl)) (lam_cons (lem_exV0 XA.z_NoTrace (hr.mono (by decide)) (by rfl)) lam_nil))))))))))) ?hd
  case hlen =>
    rintro rs ms n Q ⟨x, rfl, _⟩
    rfl
  case hd =>
    rintro rs ms n Qd _ ⟨x, rfl, rfl, hx, hq⟩
    have okx : okV x := hx.okv (by decide) (by decide)
    refine seqM_def _ _ _ _ _ _ (fun R hR => ?_)
    walk_at "dm"
    refine ⟨okx, fun a0 => ⟨okx, fun a1 => ⟨okx, fun a2 => ⟨okx, fun a3 => ⟨[a0, a1, a2, a3], rfl, (show 4 ≤ sizeLine by decide), fun s1 => ?_⟩⟩⟩⟩⟩
    refine Eq.mpr (hR _ _ _) ?_; clear hR
    refine seqM_def _ _ _ _ _ _ (fun R hR => ?_)
    walk_at "dm"
    refine ⟨okx, fun a4 => ⟨okx, fun a5 => ⟨okx, fun a6 => ⟨okx, fun a7 => ⟨[a4, a5, a6, a7], rfl, (show 4 ≤ sizeLine by decide), fun t1 => ⟨t1, [a0, a1, a2, a3], _, rfl, by simp, List.mem_cons_self, (show 8 ≤ sizeLine by decide), fun s2 => ?_⟩⟩⟩⟩⟩⟩
    refine Eq.mpr (hR _ _ _) ?_; clear hR
    refine seqM_def _ _ _ _ _ _ (fun R hR => ?_)
    walk_at "dm"
    refine ⟨okx, fun a8 => ⟨okx, fun a9 => ⟨okx, fun a10 => ⟨[a8, a9, a10], rfl, (show 3 ≤ sizeLine by decide), fun t2 => ⟨t2, [a0, a1, a2, a3, a4, a5, a6, a7], _, rfl, by simp, List.mem_cons_self, (show 11 ≤ sizeLine by decide), fun s3 => ?_⟩⟩⟩⟩⟩
    refine Eq.mpr (hR _ _ _) ?_; clear hR
    walk_at "dm"
    refine fun a11 a12 a13 => ⟨[a11, a12, a13], rfl, (show 3 ≤ sizeLine by decide), fun t3 => ⟨t3, [a0, a1, a2, a3, a4, a5, a6, a7, a8, a9, a10], _, rfl, by simp, List.mem_cons_self, (show 14 ≤ sizeLine by decide), fun s4 => ?_⟩⟩
    refine hq _ _ _ List.mem_cons_self ⟨rfl, fun i a h => ?_⟩
    match i, h with
    | 0, h => cases h; exact ⟨_, rfl, by show ownM a0 (exT C_NoBranch (some ("value", x))) ∈ _; simp⟩
    | 1, h => cases h; exact ⟨_, rfl, by show ownM a1 (exT C_TooShort (some ("reach", x))) ∈ _; simp⟩
    | 2, h => cases h; exact ⟨_, rfl, by show ownM a2 (exT C_TooLong (some ("limit", x))) ∈ _; simp⟩
    | 3, h => cases h; exact ⟨_, rfl, by show ownM a3 (exT C_TooManyBranches (some ("limit", x))) ∈ _; simp⟩
    | 4, h => cases h; exact ⟨_, rfl, by show ownM a4 (exT C_BadScheme (some ("value", x))) ∈ _; simp⟩
    | 5, h => cases h; exact ⟨_, rfl, by show ownM a5 (exT C_BadCounter (some ("value", x))) ∈ _; simp⟩
    | 6, h => cases h; exact ⟨_, rfl, by show ownM a6 (exT C_BadBranch (some ("value", x))) ∈ _; simp⟩
    | 7, h => cases h; exact ⟨_, rfl, by show ownM a7 (exT C_BadOutcome (some ("value", x))) ∈ _; simp⟩
    | 8, h => cases h; exact ⟨_, rfl, by show ownM a8 (exT C_NoCell (some ("value", x))) ∈ _; simp⟩
    | 9, h => cases h; exact ⟨_, rfl, by show ownM a9 (exT C_BadText (some ("text", x))) ∈ _; simp⟩
    | 10, h => cases h; exact ⟨_, rfl, by show ownM a10 (exT C_BadLine (some ("line", x))) ∈ _; simp⟩
    | 11, h => cases h; exact ⟨_, rfl, by show ownM a11 (exT C_NothingToUndo none) ∈ _; simp⟩
    | 12, h => cases h; exact ⟨_, rfl, by show ownM a12 (exT C_NoPredictor none) ∈ _; simp⟩
    | 13, h => cases h; exact ⟨_, rfl, by show ownM a13 (exT C_NoTrace none) ∈ _; simp⟩
    | (n + 14), h => cases h
theorem ok__law_kept {C_NoBranch : Addr} {C_TooShort : Addr} {C_TooLong : Addr} {C_TooManyBranches : Addr} {C_BadScheme : Addr} {C_BadCounter : Addr} {C_BadBranch : Addr} {C_BadOutcome : Addr} {C_NoCell : Addr} {C_BadText : Addr} {C_BadLine : Addr} {C_NothingToUndo : Addr} {C_NoPredictor : Addr} {C_NoTrace : Addr} {C_PastError : Addr} {f : Addr} {fd : FuncData} (F : Fun K "_law_kept" "_law_kept" s__law_kept f fd) (hm : mg "_law_kept" = some (.ref f)) (hb : Binds K fd ["_law_some"] []) (XA : XAll P w K mg base C_NoBranch C_TooShort C_TooLong C_TooManyBranches C_BadScheme C_BadCounter C_BadBranch C_BadOutcome C_NoCell C_BadText C_BadLine C_NothingToUndo C_NoPredictor C_NoTrace C_PastError) : DefM P w K mg base 1 "_law_kept" ["_law_some"] (spKept [C_NoBranch,C_TooShort,C_TooLong,C_TooManyBranches,C_BadScheme,C_BadCounter,C_BadBranch,C_BadOutcome,C_NoCell,C_BadText,C_BadLine,C_NothingToUndo,C_NoPredictor,C_NoTrace,C_PastError]) := by
  refine defm_mk (k := 0) F sc__law_kept hm hb ?hlen (fun cdv A outer s H E hr => (lssm_cons (lsm_set 1 sc__law_kept.nd (lem_lst (lam_cons (lem_fldX XA.v_NoBranch.xfc XA.v_NoBranch.nof (lem_ixA (lem_of (le_var 0)))) (lam_cons (lem_fldX XA.v_TooShort.xfc XA.v_TooShort.nof (lem_ixA (lem_of (le_var 0)))) (lam_cons (lem_fldX XA.v_TooLong.xfc XA.v_TooLong.nof (lem_ixA (lem_of (le_var 0)))) (lam_cons (lem_fldX XA.v_TooManyBranches.xfc XA.v_TooManyBranches.nof (lem_ixA (lem_of (le_var 0)))) (lam_cons (lem_fldX XA.v_BadScheme.xfc XA.v_BadScheme.nof (lem_ixA (lem_of (le_var 0)))) (lam_cons (lem_fldX XA.v_BadCounter.xfc XA.v_BadCounter.nof (lem_ixA (lem_of (le_var 0)))) (lam_cons (lem_fldX XA.v_BadBranch.xfc XA.v_BadBranch.nof (lem_ixA (lem_of (le_var 0)))) lam_nil)))))))))
  (lssm_one (lsm_ret (lem_op lo_add (lem_of (le_var 1)) (lem_lst (lam_cons (lem_fldX XA.v_BadOutcome.xfc XA.v_BadOutcome.nof (lem_ixA (lem_of (le_var 0)))) (lam_cons (lem_fldX XA.v_NoCell.xfc XA.v_NoCell.nof (lem_ixA (lem_of (le_var 0)))) (lam_cons (lem_fldX XA.v_BadText.xfc XA.v_BadText.nof (lem_ixA (lem_of (le_var 0)))) (lam_cons (lem_fldX XA.v_BadLine.xfc XA.v_BadLine.nof (lem_ixA (lem_of (le_var 0)))) lam_nil)))))))))) ?hd
  case hlen =>
    rintro rs ms n Q ⟨st, as, x, rfl, _⟩
    rfl
  case hd =>
    rintro rs ms n Qd _ ⟨st, as, x, rfl, hst, hL, hx, hq⟩
    refine seqM_def _ _ _ _ _ _ (fun R hR => ?_)
    walk_at "dm"
    obtain ⟨a0, e0, m0⟩ := excL_at hL 0 C_NoBranch "value" (by decide) rfl rfl
    obtain ⟨a1, e1, m1⟩ := excL_at hL 1 C_TooShort "reach" (by decide) rfl rfl
    obtain ⟨a2, e2, m2⟩ := excL_at hL 2 C_TooLong "limit" (by decide) rfl rfl
    obtain ⟨a3, e3, m3⟩ := excL_at hL 3 C_TooManyBranches "limit" (by decide) rfl rfl
    obtain ⟨a4, e4, m4⟩ := excL_at hL 4 C_BadScheme "value" (by decide) rfl rfl
    obtain ⟨a5, e5, m5⟩ := excL_at hL 5 C_BadCounter "value" (by decide) rfl rfl
    obtain ⟨a6, e6, m6⟩ := excL_at hL 6 C_BadBranch "value" (by decide) rfl rfl
    obtain ⟨a7, e7, m7⟩ := excL_at hL 7 C_BadOutcome "value" (by decide) rfl rfl
    obtain ⟨a8, e8, m8⟩ := excL_at hL 8 C_NoCell "value" (by decide) rfl rfl
    obtain ⟨a9, e9, m9⟩ := excL_at hL 9 C_BadText "text" (by decide) rfl rfl
    obtain ⟨a10, e10, m10⟩ := excL_at hL 10 C_BadLine "line" (by decide) rfl rfl
    refine ⟨st, as, a0, rfl, hst, e0, a0, x, rfl, m0, st, as, a1, rfl, hst, e1, a1, x, rfl, m1, st, as, a2, rfl, hst, e2, a2, x, rfl, m2, st, as, a3, rfl, hst, e3, a3, x, rfl, m3, st, as, a4, rfl, hst, e4, a4, x, rfl, m4, st, as, a5, rfl, hst, e5, a5, x, rfl, m5, st, as, a6, rfl, hst, e6, a6, x, rfl, m6, by decide, ?_⟩
    refine Eq.mpr (hR _ _ _) ?_; clear hR
    walk_at "dm"
    exact ⟨st, as, a7, rfl, hst, e7, a7, x, rfl, m7, st, as, a8, rfl, hst, e8, a8, x, rfl, m8, st, as, a9, rfl, hst, e9, a9, x, rfl, m9, st, as, a10, rfl, hst, e10, a10, x, rfl, m10, by decide, by decide, hq⟩
theorem ok__law_right {C_NoBranch : Addr} {C_TooShort : Addr} {C_TooLong : Addr} {C_TooManyBranches : Addr} {C_BadScheme : Addr} {C_BadCounter : Addr} {C_BadBranch : Addr} {C_BadOutcome : Addr} {C_NoCell : Addr} {C_BadText : Addr} {C_BadLine : Addr} {C_NothingToUndo : Addr} {C_NoPredictor : Addr} {C_NoTrace : Addr} {C_PastError : Addr} {f : Addr} {fd : FuncData} (F : Fun K "_law_right" "_law_right" s__law_right f fd) (hm : mg "_law_right" = some (.ref f)) (hb : Binds K fd ["_law_thing"] []) (hsm : Sm base) (m_enumerate : mg "enumerate" = none) (m_isinstance : mg "isinstance" = none) (m_ValueError : mg "ValueError" = none) (m_range : mg "range" = none) (m_repr : mg "repr" = none) (XA : XAll P w K mg base C_NoBranch C_TooShort C_TooLong C_TooManyBranches C_BadScheme C_BadCounter C_BadBranch C_BadOutcome C_NoCell C_BadText C_BadLine C_NothingToUndo C_NoPredictor C_NoTrace C_PastError) (D__law_by_name : DefM P w K mg base 3 "_law_by_name" ["_law_thing"] (spMade [C_NoBranch,C_TooShort,C_TooLong,C_TooManyBranches,C_BadScheme,C_BadCounter,C_BadBranch,C_BadOutcome,C_NoCell,C_BadText,C_BadLine,C_NothingToUndo,C_NoPredictor,C_NoTrace,C_PastError])) (D__law_by_place : DefM P w K mg base 3 "_law_by_place" ["_law_thing"] (spMade [C_NoBranch,C_TooShort,C_TooLong,C_TooManyBranches,C_BadScheme,C_BadCounter,C_BadBranch,C_BadOutcome,C_NoCell,C_BadText,C_BadLine,C_NothingToUndo,C_NoPredictor,C_NoTrace,C_PastError])) (D__law_kinds : DefM P w K mg base 1 "_law_kinds" ["_law_mistake"] (spKinds [C_NoBranch,C_TooShort,C_TooLong,C_TooManyBranches,C_BadScheme,C_BadCounter,C_BadBranch,C_BadOutcome,C_NoCell,C_BadText,C_BadLine,C_NothingToUndo,C_NoPredictor,C_NoTrace,C_PastError])) (D__law_kept : DefM P w K mg base 1 "_law_kept" ["_law_some"] (spKept [C_NoBranch,C_TooShort,C_TooLong,C_TooManyBranches,C_BadScheme,C_BadCounter,C_BadBranch,C_BadOutcome,C_NoCell,C_BadText,C_BadLine,C_NothingToUndo,C_NoPredictor,C_NoTrace,C_PastError])) : Def P w K mg base 4 "_law_right" ["_law_thing"] spRight := by
  refine def_mkM (k := 3) F sc__law_right hm hb ?hlen (fun cdv A outer s H E hr => (lssm_cons (lsm_forXT 1 sc__law_right.nd PassesOwn.never rfl (lem_tupA (lam_cons (lem_call D__law_by_place (hr.mono (by decide)) (by rfl) (lam_cons (lem_of (le_var 0)) lam_nil)) (lam_cons (lem_call D__law_by_name (hr.mono (by decide)) (by rfl) (lam_cons (lem_of (le_var 0)) lam_nil)) lam_nil))) (lssm_cons (lsm_if (ltm_cmp (lo_ne hr.room.units) (lem_callB (lc_repr hsm hr.gd hr.room.units) (by rfl) m_repr (by decide +kernel) (lam_cons (lem_call D__law_kept (hr.mono (by decide)) (by rfl) (lam_cons (lem_of (le_var 1)) lam_nil)) lam_nil)) (lem_of (le_callB (lc_repr hsm hr.gd hr.room.units) (by rfl) m_repr (by decide +kernel) (la_cons (le_op lo_mulA (le_lst (la_cons (le_var 0) la_nil)) le_int) la_nil))) (nomark _)) (lssm_one (lsm_of fun _ => (ls_ret le_bl))) lssm_nil)
  (lssm_one (lsm_forEX 2 3 sc__law_right.nd PassesOwn.never rfl (by rfl) m_enumerate (lem_of (le_var 1)) (lssm_cons (lsm_if (ltm_cmp (lo_ne hr.room.units) (lem_call D__law_kinds (hr.mono (by decide)) (by rfl) (lam_cons (lem_of (le_var 3)) lam_nil)) (lem_of (le_lc rfl sc__law_right.nd (own := [("_law_to", 4)]) (li_range1 (by rfl) m_range (la_cons le_int la_nil)) (by walk_at "lc") (fun _ _ _ _ _ => (lg_name (i := 4) sc__law_right.nd rfl (by first | exact Or.inl rfl | exact Or.inr rfl))) (fun _ _ _ _ _ => lts_nil) (fun _ _ _ _ _ => (le_cmp (lo_eq hr.room.units) (le_var 2) (le_var 4) (nomark _))))) (nomark _)) (lssm_one (lsm_of fun _ => (ls_ret le_bl))) lssm_nil)
  (lssm_one (lsm_if (ltm_asX 3 (lt_w (lw_or (lt_not (lt_val (le_isG (c := .ref C_PastError) 3 XA.i_PastError (by rfl) m_isinstance (fun _ h => h) (pe_glob (v := .ref _) (by rfl) XA.g_PastError rfl)))) (lw_or1 (lt_not (lt_val (le_isG (c := .ty "ValueError") 3 XA.i_ValueError (by rfl) m_isinstance (fun _ h => h) (pe_bltn (v := .ty "ValueError") (by rfl) m_ValueError rfl rfl)))))))) (lssm_one (lsm_of fun _ => (ls_ret le_bl))) lssm_nil)))))))
  (lssm_one (lsm_of fun _ => (ls_ret le_bl))))) ?hd
  case hlen =>
    rintro rs n Q ⟨x, rfl, _⟩
    rfl
  case hd =>
    rintro rs n Qd _ ⟨x, rfl, hx, hq⟩
    refine seqM_def _ _ _ _ _ _ (fun R hR => ?_)
    refine forXT_def _ _ _ _ _ _ _ (fun F hF => ?_)
    walk_at "dm"
    refine split_none ⟨x, rfl, rfl, hx, fun st1 as1 ms1 h1 L1 => ?_⟩
    refine split_none ⟨x, rfl, rfl, hx, fun st2 as2 ms2 h2 L2 => ?_⟩
    refine ⟨[st1, st2], rfl, (show 2 ≤ sizeLine by decide), fun tp => ?_⟩
    have hms : ∃ MS0, MS0 = ownM tp (tupA [st1, st2]) :: (ms2 ++ (ms1 ++ [])) := ⟨_, rfl⟩
    obtain ⟨MS0, eMS⟩ := hms
    have htp : ownM tp (tupA [st1, st2]) ∈ MS0 := by
      rw [eMS]
      exact List.mem_cons_self
    have hall : ∀ st ∈ [st1, st2], ∃ as, ownM st (listA as) ∈ MS0 ∧ excL [C_NoBranch, C_TooShort, C_TooLong, C_TooManyBranches, C_BadScheme, C_BadCounter, C_BadBranch, C_BadOutcome, C_NoCell, C_BadText, C_BadLine, C_NothingToUndo, C_NoPredictor, C_NoTrace, C_PastError] x as MS0 := fun st h => by
      have k1 : ∀ y ∈ ms1, y ∈ MS0 := fun y hy => by
        rw [eMS]
        exact .tail _ (List.mem_append_right _ (List.mem_append_left _ hy))
      have k2 : ∀ y ∈ ms2, y ∈ MS0 := fun y hy => by
        rw [eMS]
        exact .tail _ (List.mem_append_left _ hy)
      rcases List.mem_cons.mp h with rfl | h
      · exact ⟨as1, k1 _ h1, excL_sub L1 k1⟩
      · rw [List.mem_singleton.mp h]
        exact ⟨as2, k2 _ h2, excL_sub L2 k2⟩
    rw [← eMS]
    obtain ⟨Iv, hI⟩ := inv4M (fun (i : Nat) (ρ : DEnv) (ms : MS) (m : Nat) => m = n ∧ (∀ y ∈ MS0, y ∈ ms) ∧ ∃ (u1 u2 u3 : Option RV), ρ = [some (.d x), u1, u2, u3, none])
    refine hF _ _ _ ⟨tp, _, rfl, htp, Iv, (hI _ _ _ _).mpr ⟨rfl, fun _ h => h, _, _, _, rfl⟩, fun i ρ ms m st hv hz => ?_, fun ρ ms m hv => ?_⟩
    · obtain ⟨rfl, hsub, u1, u2, u3, rfl⟩ := (hI _ _ _ _).mp hv
      refine ⟨hsub _ htp, ?_⟩
      obtain ⟨as, hst, hL⟩ := hall st (List.mem_of_getElem? hz)
      clear hF hv hz
      refine seqM_def _ _ _ _ _ _ (fun R hR => ?_)
      walk_at "dm"
      have ok11 := okT_11 hx
      rw [show (List.replicate (Int.toNat 11) [x]).flatten = List.replicate 11 x from rfl]
      refine split_all ⟨st, as, x, rfl, hsub _ hst, excL_sub hL hsub, hx, ?_⟩
      walk_at "dm"
      refine ⟨_, rfl, ok11, by decide, by decide, _, rfl, ok11, ?_⟩
      walk_at "dm"
      try rw [if_neg (by simp)]
      refine Eq.mpr (hR _ _ _) ?_; clear hR
      refine forEX_def _ _ _ _ _ _ _ _ (fun F hF => ?_)
      walk_at "dm"
      obtain ⟨Jv, hJ⟩ := inv4M (fun (k : Nat) (ρ : DEnv) (ms' : MS) (m' : Nat) => m' = m ∧ (∀ y ∈ MS0, y ∈ ms') ∧ ∃ (u2 u3 : Option RV), ρ = [some (.d x), some (.obj st), u2, u3, none])
      refine hF _ _ _ ⟨st, as, rfl, hsub _ hst, Jv, (hJ _ _ _ _).mpr ⟨rfl, hsub, _, _, rfl⟩, fun k ρ ms' m' a hv hz => ?_, fun ρ ms' m' hv => ?_⟩
      · obtain ⟨rfl, hsub2, u2, u3, rfl⟩ := (hJ _ _ _ _).mp hv
        refine ⟨hsub2 _ hst, ?_⟩
        obtain ⟨C, hC, hm⟩ := hL.2 k a hz
        have hm := hsub2 _ hm
        have hk : k < 14 := by
          rw [← hL.1]
          exact (List.getElem?_eq_some_iff.mp hz).1
        generalize (flds.getD k none).map (fun f => (f, x)) = o at hm
        clear hF hv hz
        refine seqM_def _ _ _ _ _ _ (fun R hR => ?_)
        walk_at "dm"
        refine split_one hm fun mb hmb => ⟨a, k, C, o, rfl, rfl, hC, ?_⟩
        have hm3 : ownM a (exT C o) ∈ ownM a (exT C o) :: mb := List.mem_cons_self
        have keep : ∀ y ∈ MS0, y ∈ ownM a (exT C o) :: mb := fun y hy => by
          rcases hmb y (hsub2 y hy) with e | e
          · rw [e]
            exact List.mem_cons_self
          · exact .tail _ e
        dsimp only
        refine lc_def _ _ _ _ _ _ _ _ (fun F hF => ?_)
        walk_at "de"
        refine ⟨by decide, hF _ _ ?_⟩
        refine lc_map (fun j => .bool (decide (k = j))) ?hl (fun j z J acc hz ha hJ => ?_) ?_
        case hl => rw [range_len]; decide
        · obtain ⟨hj, rfl⟩ := range_get hz
          unfold wipeD wipeD
          walk_at "de"
          rw [show decide ((k : Int) = 0 + (j : Int)) = decide (k = j) from decide_eq_decide.mpr (by omega)]
          exact ⟨ha, hJ⟩
        clear hF
        rw [range_len]
        walk_at "dm"
        have ks := kinds_ok k (by omega)
        have e : (PyData.list (kindsD k)).eqv (PyData.list (List.map (fun j => PyData.bool (decide (k = j))) (List.range (Int.toNat 14)))) = true := ks.2
        refine ⟨ks.1, ks.1, ?_⟩
        rw [e, if_neg (by decide)]
        refine Eq.mpr (hR _ _ _) ?_; clear hR
        walk_at "dm"
        exact ⟨a, _, rfl, hm3, k, C, o, hC, rfl, k, C, o, hC, rfl, (hJ _ _ _ _).mpr ⟨rfl, keep, _, _, rfl⟩⟩
      · obtain ⟨rfl, hsub2, u2, u3, rfl⟩ := (hJ _ _ _ _).mp hv
        refine ⟨hsub2 _ hst, ?_⟩
        exact (hI _ _ _ _).mpr ⟨rfl, hsub2, _, _, _, rfl⟩
    · obtain ⟨rfl, hsub, u1, u2, u3, rfl⟩ := (hI _ _ _ _).mp hv
      refine ⟨hsub _ htp, ?_⟩
      refine Eq.mpr (hR _ _ _) ?_; clear hR
      walk_at "dm"
      exact hq
theorem cellsB (c L : Int) (hc : 1 ≤ c) : (if (if L < c then L else c) > 1 then (if L < c then L else c) else 1) ≤ c ∧ 1 ≤ (if (if L < c then L else c) > 1 then (if L < c then L else c) else 1) := by
  split
  · split <;> omega
  · omega
theorem ok_law {C_NoBranch : Addr} {C_TooShort : Addr} {C_TooLong : Addr} {C_TooManyBranches : Addr} {C_BadScheme : Addr} {C_BadCounter : Addr} {C_BadBranch : Addr} {C_BadOutcome : Addr} {C_NoCell : Addr} {C_BadText : Addr} {C_BadLine : Addr} {C_NothingToUndo : Addr} {C_NoPredictor : Addr} {C_NoTrace : Addr} {C_PastError : Addr} {f : Addr} {fd : FuncData} (F : Fun K "law" "law" s_law f fd) (m_range : mg "range" = none) (m_max : mg "max" = none) (m_min : mg "min" = none) (m_len : mg "len" = none) (m_all : mg "all" = none) (XA : XAll P w K mg base C_NoBranch C_TooShort C_TooLong C_TooManyBranches C_BadScheme C_BadCounter C_BadBranch C_BadOutcome C_NoCell C_BadText C_BadLine C_NothingToUndo C_NoPredictor C_NoTrace C_PastError) (D__law_box : Def P w K mg base 1 "_law_box" ["_law_script", "_law_k"] spBox) (D__law_right : Def P w K mg base 4 "_law_right" ["_law_thing"] spRight) (D__law_any : Def P w K mg base 3 "_law_any" ["_law_box_here"] spAny) (D__law_kinds : DefM P w K mg base 1 "_law_kinds" ["_law_mistake"] (spKinds [C_NoBranch,C_TooShort,C_TooLong,C_TooManyBranches,C_BadScheme,C_BadCounter,C_BadBranch,C_BadOutcome,C_NoCell,C_BadText,C_BadLine,C_NothingToUndo,C_NoPredictor,C_NoTrace,C_PastError])) : FnG P w K mg base 5 f fd ["_law_script"] (lift K spLaw) := by
  refine fng_mkM (k := 4) F sc_law ?hlen (fun cdv A outer s H E hr => (lssm_cons (lsm_if (ltm_cmp (lo_in (un65 hr.room)) (lem_of le_bl) (lem_call D__law_kinds (hr.mono (by decide)) (by rfl) (lam_cons (lem_exP PySem.F.excBase_ValueError XA.pI XA.g_PastError XA.pK (by rfl)) lam_nil)) (by rfl)) (lssm_one (lsm_of fun _ => (ls_ret le_bl))) lssm_nil)
  (lssm_cons (lsm_of fun _ => (ls_for PassesOwn.never rfl (li_range1 (by rfl) m_range (la_cons (le_callB (lc_max rfl) (by rfl) m_max (by decide +kernel) (la_cons le_int (la_cons (le_callB (lc_min rfl) (by rfl) m_min (by decide +kernel) (la_cons le_int (la_cons (le_callB lc_len (by rfl) m_len (by decide +kernel) (la_cons (le_var 0) la_nil)) la_nil))) la_nil))) la_nil)) (lg_name (i := 1) sc_law.nd rfl (by first | exact Or.inl rfl | exact Or.inr rfl)) (lss_cons (ls_set 2 sc_law.nd (le_def D__law_box (hr.mono (by decide)) (by rfl) (la_cons (le_var 0) (la_cons (le_var 1) la_nil))))
  (lss_one (ls_if (lt_not (lt_val (le_callB (lc_all rfl) (by rfl) m_all (by decide +kernel) (la_cons (le_lc rfl sc_law.nd (own := [("_law_turn", 3)]) (li_range1 (by rfl) m_range (la_cons le_int la_nil)) (by walk_at "lc") (fun _ _ _ _ _ => (lg_name (i := 3) sc_law.nd rfl (by first | exact Or.inl rfl | exact Or.inr rfl))) (fun _ _ _ _ _ => lts_nil) (fun _ _ _ _ _ => (le_def D__law_right (hr.mono (by decide)) (by rfl) (la_cons (le_def D__law_any (hr.mono (by decide)) (by rfl) (la_cons (le_var 2) la_nil)) la_nil)))) la_nil)))) (lss_one (ls_ret le_bl)) lss_nil)))))
  (lssm_one (lsm_of fun _ => (ls_ret le_bl)))))) ?hd
  case hlen =>
    rintro rs n Q ⟨ns, rfl, _⟩
    rfl
  case hd =>
    rintro rs n Qd _ ⟨ns, rfl, h63, hbits, rfl, hq⟩
    obtain ⟨Iv, hI⟩ := inv3 (fun (i : Nat) (ρ : DEnv) (m : Nat) => m ≤ 200 * i ∧ ∃ u v t, ρ = [some (.d (.list (ns.map PyData.int))), u, v, t])
    refine seqM_def _ _ _ _ _ _ (fun R hR => ?_)
    walk_at "dm"
    refine fun a => split_one List.mem_cons_self fun mb hmb => ⟨a, 14, C_PastError, none, rfl, rfl, rfl, ?_⟩
    walk_at "dm"
    refine ⟨rfl, (kinds_ok 14 (by decide)).1, ?_⟩
    rw [show ((kindsD 14).any fun z => z.eqv (.bool true)) = false from by decide +kernel, if_neg (by decide)]
    refine Eq.mpr (hR _ _ _) ?_; clear hR
    refine seqM_def _ _ _ _ _ _ (fun R hR => ?_)
    unfold ofS
    refine for_def _ _ _ _ _ _ (fun F hF => ?_)
    walk_at "de"
    have hmx := cellsB 2 (((ns.map PyData.int).length : Nat) : Int) (by decide)
    generalize (if (if ((ns.map PyData.int).length : Int) < 2 then ((ns.map PyData.int).length : Int) else 2) > 1 then (if ((ns.map PyData.int).length : Int) < 2 then ((ns.map PyData.int).length : Int) else 2) else 1) = t at *
    refine ⟨by omega, hF _ _ ⟨Iv, (hI _ _ _).mpr ⟨by omega, _, _, _, rfl⟩, fun i ρ m z hv hz => ?_, fun ρ m hv => ?_⟩⟩
    · obtain ⟨hm, u, v, t', rfl⟩ := (hI _ _ _).mp hv
      obtain ⟨hi, rfl⟩ := range_get hz
      clear hF hv hz
      refine seq_def _ _ _ _ _ (fun R hR => ?_)
      walk_at "de"
      refine ⟨ns, _, rfl, h63, hbits, by omega, by omega, ?_⟩
      walk_at "de"
      refine Eq.mpr (hR _ _) ?_; clear hR
      walk_at "de"
      refine lc_def _ _ _ _ _ _ _ _ (fun F hF => ?_)
      walk_at "de"
      refine ⟨by decide, hF _ _ ?_⟩
      refine lc_all_true 30 ?hl (fun j z J acc m' hz hj hm' ha hJ => ?_) (fun m' hm' => ?_)
      case hl => rw [range_len]; decide
      · have hj' : j < 6 := hj
        unfold wipeD wipeD
        walk_at "de"
        refine ⟨rfl, by omega, fun x n' hx hn' => ?_⟩
        walk_at "de"
        refine ⟨x, rfl, hx, ?_⟩
        walk_at "de"
        exact ⟨ha, hJ _ (by omega)⟩
      · have hm'' : m' ≤ m + 30 * 6 := hm'
        walk_at "de"
        refine ⟨List.replicate _ true, by rw [List.map_replicate], ?_⟩
        walk_at "de"
        rw [if_neg (by simp)]
        exact (hI _ _ _).mpr ⟨by omega, _, _, _, rfl⟩
    · obtain ⟨hm, u, v, t', rfl⟩ := (hI _ _ _).mp hv
      refine Eq.mpr (hR _ _ _) ?_; clear hR
      walk_at "dm"
      exact hq _

end
theorem bdn1 {C : List Value → Prop} (h : ∀ a0 : Value, C [a0]) : ∀ us : List Value, us.length = 1 → C us
  | [a0], _ => h a0
theorem bdn2 {C : List Value → Prop} (h : ∀ a0 a1 : Value, C [a0, a1]) : ∀ us : List Value, us.length = 2 → C us
  | [a0, a1], _ => h a0 a1
theorem all_mk {l : PySem.W.OpenLaw} {w : World} {K : PySem.W.Frag} {h : Heap} {mg : Str → Option Value} {fa : Addr} (X : K.In h) (G : h.Ns mainGlobals mg) (hfa : mg "law" = some (.ref fa))
    {f0 : Addr} {od0 an0 : Option Addr} {sl0 : Array (Option Value)} {oc0 kV0 dc0 pm0 cd0 ct0 : Value} (a0 : PySem.W.nsIn K mainGlobals "_law_take" = some (some (.ref f0))) (l0 : K.lookup f0 = some ⟨oc0, od0, .func (PySem.W.fnOf "_law_take" "_law_take" (defArgs s__law_take) (defBody s__law_take) (defScope s__law_take) .none kV0 dc0 pm0 an0 cd0 ct0), sl0⟩) (c0 : PySem.W.codeIn K cd0 "_law_take" = true) (k0 : PySem.W.keepIn K (.ref f0) = true)
    {f1 : Addr} {od1 an1 : Option Addr} {sl1 : Array (Option Value)} {oc1 kV1 dc1 pm1 cd1 ct1 : Value} (a1 : PySem.W.nsIn K mainGlobals "_law_box" = some (some (.ref f1))) (l1 : K.lookup f1 = some ⟨oc1, od1, .func (PySem.W.fnOf "_law_box" "_law_box" (defArgs s__law_box) (defBody s__law_box) (defScope s__law_box) .none kV1 dc1 pm1 an1 cd1 ct1), sl1⟩) (c1 : PySem.W.codeIn K cd1 "_law_box" = true) (k1 : PySem.W.keepIn K (.ref f1) = true)
    {f2 : Addr} {od2 an2 : Option Addr} {sl2 : Array (Option Value)} {oc2 kV2 dc2 pm2 cd2 ct2 : Value} (a2 : PySem.W.nsIn K mainGlobals "_law_of" = some (some (.ref f2))) (l2 : K.lookup f2 = some ⟨oc2, od2, .func (PySem.W.fnOf "_law_of" "_law_of" (defArgs s__law_of) (defBody s__law_of) (defScope s__law_of) .none kV2 dc2 pm2 an2 cd2 ct2), sl2⟩) (c2 : PySem.W.codeIn K cd2 "_law_of" = true) (k2 : PySem.W.keepIn K (.ref f2) = true)
    {f3 : Addr} {od3 an3 : Option Addr} {sl3 : Array (Option Value)} {oc3 kV3 dc3 pm3 cd3 ct3 : Value} (a3 : PySem.W.nsIn K mainGlobals "_law_any" = some (some (.ref f3))) (l3 : K.lookup f3 = some ⟨oc3, od3, .func (PySem.W.fnOf "_law_any" "_law_any" (defArgs s__law_any) (defBody s__law_any) (defScope s__law_any) .none kV3 dc3 pm3 an3 cd3 ct3), sl3⟩) (c3 : PySem.W.codeIn K cd3 "_law_any" = true) (k3 : PySem.W.keepIn K (.ref f3) = true)
    {f4 : Addr} {od4 an4 : Option Addr} {sl4 : Array (Option Value)} {oc4 kV4 dc4 pm4 cd4 ct4 : Value} (a4 : PySem.W.nsIn K mainGlobals "_law_kinds" = some (some (.ref f4))) (l4 : K.lookup f4 = some ⟨oc4, od4, .func (PySem.W.fnOf "_law_kinds" "_law_kinds" (defArgs s__law_kinds) (defBody s__law_kinds) (defScope s__law_kinds) .none kV4 dc4 pm4 an4 cd4 ct4), sl4⟩) (c4 : PySem.W.codeIn K cd4 "_law_kinds" = true) (k4 : PySem.W.keepIn K (.ref f4) = true)
    {f5 : Addr} {od5 an5 : Option Addr} {sl5 : Array (Option Value)} {oc5 kV5 dc5 pm5 cd5 ct5 : Value} (a5 : PySem.W.nsIn K mainGlobals "_law_by_place" = some (some (.ref f5))) (l5 : K.lookup f5 = some ⟨oc5, od5, .func (PySem.W.fnOf "_law_by_place" "_law_by_place" (defArgs s__law_by_place) (defBody s__law_by_place) (defScope s__law_by_place) .none kV5 dc5 pm5 an5 cd5 ct5), sl5⟩) (c5 : PySem.W.codeIn K cd5 "_law_by_place" = true) (k5 : PySem.W.keepIn K (.ref f5) = true)
    {f6 : Addr} {od6 an6 : Option Addr} {sl6 : Array (Option Value)} {oc6 kV6 dc6 pm6 cd6 ct6 : Value} (a6 : PySem.W.nsIn K mainGlobals "_law_by_name" = some (some (.ref f6))) (l6 : K.lookup f6 = some ⟨oc6, od6, .func (PySem.W.fnOf "_law_by_name" "_law_by_name" (defArgs s__law_by_name) (defBody s__law_by_name) (defScope s__law_by_name) .none kV6 dc6 pm6 an6 cd6 ct6), sl6⟩) (c6 : PySem.W.codeIn K cd6 "_law_by_name" = true) (k6 : PySem.W.keepIn K (.ref f6) = true)
    {f7 : Addr} {od7 an7 : Option Addr} {sl7 : Array (Option Value)} {oc7 kV7 dc7 pm7 cd7 ct7 : Value} (a7 : PySem.W.nsIn K mainGlobals "_law_kept" = some (some (.ref f7))) (l7 : K.lookup f7 = some ⟨oc7, od7, .func (PySem.W.fnOf "_law_kept" "_law_kept" (defArgs s__law_kept) (defBody s__law_kept) (defScope s__law_kept) .none kV7 dc7 pm7 an7 cd7 ct7), sl7⟩) (c7 : PySem.W.codeIn K cd7 "_law_kept" = true) (k7 : PySem.W.keepIn K (.ref f7) = true)
    {f8 : Addr} {od8 an8 : Option Addr} {sl8 : Array (Option Value)} {oc8 kV8 dc8 pm8 cd8 ct8 : Value} (a8 : PySem.W.nsIn K mainGlobals "_law_right" = some (some (.ref f8))) (l8 : K.lookup f8 = some ⟨oc8, od8, .func (PySem.W.fnOf "_law_right" "_law_right" (defArgs s__law_right) (defBody s__law_right) (defScope s__law_right) .none kV8 dc8 pm8 an8 cd8 ct8), sl8⟩) (c8 : PySem.W.codeIn K cd8 "_law_right" = true) (k8 : PySem.W.keepIn K (.ref f8) = true)
    {f9 : Addr} {od9 an9 : Option Addr} {sl9 : Array (Option Value)} {oc9 kV9 dc9 pm9 cd9 ct9 : Value} (a9 : PySem.W.nsIn K mainGlobals "law" = some (some (.ref f9))) (l9 : K.lookup f9 = some ⟨oc9, od9, .func (PySem.W.fnOf "law" "law" (defArgs s_law) (defBody s_law) (defScope s_law) .none kV9 dc9 pm9 an9 cd9 ct9), sl9⟩) (c9 : PySem.W.codeIn K cd9 "law" = true) (k9 : PySem.W.keepIn K (.ref f9) = true)
    {C_PastError N_PastError : Addr} {nm_PastError q_PastError : Str} {bs_PastError : List Value} {sn_PastError : List Str} {sub_PastError : List Value} {ab_PastError : Bool} {col_PastError : Option Bool} {dd_PastError : Option Addr} {m0_PastError m1_PastError m2_PastError m3_PastError m5_PastError : Option Value} (aX_PastError : PySem.W.nsIn K mainGlobals "PastError" = some (some (.ref C_PastError))) (xL_PastError : K.lookup C_PastError = some (excClassObj nm_PastError q_PastError C_PastError N_PastError bs_PastError [.type "ValueError", .type "Exception", .type "BaseException", .type "object"] true sn_PastError sub_PastError ab_PastError col_PastError dd_PastError m0_PastError m1_PastError m2_PastError m3_PastError m5_PastError "ValueError.__new__")) (ga_PastError : PySem.W.findIn K (.ref C_PastError) "__getattribute__" = some (some (.builtin "BaseException.__getattribute__"))) (gg_PastError : PySem.W.findIn K (.ref C_PastError) "__getattr__" = some none) (kC_PastError : PySem.W.keepIn K (.ref C_PastError) = true) (eC_PastError : PySem.W.subIn K (.ref C_PastError) (.type "BaseException") = some true) (tC_PastError : PySem.W.typeIn K (.ref C_PastError) = some (.type "type")) (iC_PastError : PySem.W.isClsIn K C_PastError = true) (ja_PastError : PySem.W.findIn K (.ref C_PastError) "__class__" = some (some (.builtin "object.__class__"))) (jm_PastError : PySem.W.mroIn K C_PastError (.type "object") = some true) (rB_PastError : PySem.W.readsIn K C_PastError (.type "type") = true) (gB_PastError : PySem.W.specialIn K (.ref C_PastError) "__getattribute__" = some (some (.builtin "type.__getattribute__"))) (fB_PastError : PySem.W.findCls K (.ref C_PastError) (.type "type") "__init__" = some (.val (.builtin "ValueError.__init__"))) (xI_PastError : PySem.W.excIn K C_PastError bmP "ValueError.__new__" = true) (jn : PySem.W.specialIn K (.builtin "object.__class__") "__get__" = some (some (.builtin "getset_descriptor.__get__"))) (jt : PySem.W.takesIn K (.builtin "object.__class__") = some true)
    {C_NoBranch N_NoBranch : Addr} {nm_NoBranch q_NoBranch : Str} {bs_NoBranch : List Value} {sn_NoBranch : List Str} {sub_NoBranch : List Value} {ab_NoBranch : Bool} {col_NoBranch : Option Bool} {dd_NoBranch : Option Addr} {m0_NoBranch m1_NoBranch m2_NoBranch m3_NoBranch m5_NoBranch : Option Value} (aX_NoBranch : PySem.W.nsIn K mainGlobals "NoBranch" = some (some (.ref C_NoBranch))) (xL_NoBranch : K.lookup C_NoBranch = some (excClassObj nm_NoBranch q_NoBranch C_NoBranch N_NoBranch bs_NoBranch [.ref C_PastError, .type "ValueError", .type "Exception", .type "BaseException", .type "object"] true sn_NoBranch sub_NoBranch ab_NoBranch col_NoBranch dd_NoBranch m0_NoBranch m1_NoBranch m2_NoBranch m3_NoBranch m5_NoBranch "ValueError.__new__")) (ga_NoBranch : PySem.W.findIn K (.ref C_NoBranch) "__getattribute__" = some (some (.builtin "BaseException.__getattribute__"))) (gg_NoBranch : PySem.W.findIn K (.ref C_NoBranch) "__getattr__" = some none) (kC_NoBranch : PySem.W.keepIn K (.ref C_NoBranch) = true) (eC_NoBranch : PySem.W.subIn K (.ref C_NoBranch) (.type "BaseException") = some true) (tC_NoBranch : PySem.W.typeIn K (.ref C_NoBranch) = some (.type "type")) (iC_NoBranch : PySem.W.isClsIn K C_NoBranch = true) (ja_NoBranch : PySem.W.findIn K (.ref C_NoBranch) "__class__" = some (some (.builtin "object.__class__"))) (jm_NoBranch : PySem.W.mroIn K C_NoBranch (.type "object") = some true) (sa_NoBranch : PySem.W.findIn K (.ref C_NoBranch) "__setattr__" = some (some (.builtin "object.__setattr__"))) (hC_NoBranch : PySem.W.hasDictIn K C_NoBranch = true) (nf_NoBranch : PySem.W.findIn K (.ref C_NoBranch) "value" = some none)
    {fXNoBranch : Addr} {odXNoBranch anXNoBranch : Option Addr} {slXNoBranch : Array (Option Value)} {ocXNoBranch kVXNoBranch dcXNoBranch pmXNoBranch cdXNoBranch ctXNoBranch : Value} (aXNoBranch : PySem.W.findIn K (.ref C_NoBranch) "__init__" = some (some (.ref fXNoBranch))) (tXNoBranch : PySem.W.typeIn K (.ref fXNoBranch) = some (.type "function")) (lXNoBranch : K.lookup fXNoBranch = some ⟨ocXNoBranch, odXNoBranch, .func (PySem.W.fnOf "__init__" "NoBranch.__init__" (defArgs s_NoBranch___init__) (defBody s_NoBranch___init__) (defScope s_NoBranch___init__) .none kVXNoBranch dcXNoBranch pmXNoBranch anXNoBranch cdXNoBranch ctXNoBranch), slXNoBranch⟩) (cXNoBranch : PySem.W.codeIn K cdXNoBranch "NoBranch.__init__" = true) (kXNoBranch : PySem.W.keepIn K (.ref fXNoBranch) = true)
    {C_TooShort N_TooShort : Addr} {nm_TooShort q_TooShort : Str} {bs_TooShort : List Value} {sn_TooShort : List Str} {sub_TooShort : List Value} {ab_TooShort : Bool} {col_TooShort : Option Bool} {dd_TooShort : Option Addr} {m0_TooShort m1_TooShort m2_TooShort m3_TooShort m5_TooShort : Option Value} (aX_TooShort : PySem.W.nsIn K mainGlobals "TooShort" = some (some (.ref C_TooShort))) (xL_TooShort : K.lookup C_TooShort = some (excClassObj nm_TooShort q_TooShort C_TooShort N_TooShort bs_TooShort [.ref C_PastError, .type "ValueError", .type "Exception", .type "BaseException", .type "object"] true sn_TooShort sub_TooShort ab_TooShort col_TooShort dd_TooShort m0_TooShort m1_TooShort m2_TooShort m3_TooShort m5_TooShort "ValueError.__new__")) (ga_TooShort : PySem.W.findIn K (.ref C_TooShort) "__getattribute__" = some (some (.builtin "BaseException.__getattribute__"))) (gg_TooShort : PySem.W.findIn K (.ref C_TooShort) "__getattr__" = some none) (kC_TooShort : PySem.W.keepIn K (.ref C_TooShort) = true) (eC_TooShort : PySem.W.subIn K (.ref C_TooShort) (.type "BaseException") = some true) (tC_TooShort : PySem.W.typeIn K (.ref C_TooShort) = some (.type "type")) (iC_TooShort : PySem.W.isClsIn K C_TooShort = true) (ja_TooShort : PySem.W.findIn K (.ref C_TooShort) "__class__" = some (some (.builtin "object.__class__"))) (jm_TooShort : PySem.W.mroIn K C_TooShort (.type "object") = some true) (sa_TooShort : PySem.W.findIn K (.ref C_TooShort) "__setattr__" = some (some (.builtin "object.__setattr__"))) (hC_TooShort : PySem.W.hasDictIn K C_TooShort = true) (nf_TooShort : PySem.W.findIn K (.ref C_TooShort) "reach" = some none)
    {fXTooShort : Addr} {odXTooShort anXTooShort : Option Addr} {slXTooShort : Array (Option Value)} {ocXTooShort kVXTooShort dcXTooShort pmXTooShort cdXTooShort ctXTooShort : Value} (aXTooShort : PySem.W.findIn K (.ref C_TooShort) "__init__" = some (some (.ref fXTooShort))) (tXTooShort : PySem.W.typeIn K (.ref fXTooShort) = some (.type "function")) (lXTooShort : K.lookup fXTooShort = some ⟨ocXTooShort, odXTooShort, .func (PySem.W.fnOf "__init__" "TooShort.__init__" (defArgs s_TooShort___init__) (defBody s_TooShort___init__) (defScope s_TooShort___init__) .none kVXTooShort dcXTooShort pmXTooShort anXTooShort cdXTooShort ctXTooShort), slXTooShort⟩) (cXTooShort : PySem.W.codeIn K cdXTooShort "TooShort.__init__" = true) (kXTooShort : PySem.W.keepIn K (.ref fXTooShort) = true)
    {C_TooLong N_TooLong : Addr} {nm_TooLong q_TooLong : Str} {bs_TooLong : List Value} {sn_TooLong : List Str} {sub_TooLong : List Value} {ab_TooLong : Bool} {col_TooLong : Option Bool} {dd_TooLong : Option Addr} {m0_TooLong m1_TooLong m2_TooLong m3_TooLong m5_TooLong : Option Value} (aX_TooLong : PySem.W.nsIn K mainGlobals "TooLong" = some (some (.ref C_TooLong))) (xL_TooLong : K.lookup C_TooLong = some (excClassObj nm_TooLong q_TooLong C_TooLong N_TooLong bs_TooLong [.ref C_PastError, .type "ValueError", .type "Exception", .type "BaseException", .type "object"] true sn_TooLong sub_TooLong ab_TooLong col_TooLong dd_TooLong m0_TooLong m1_TooLong m2_TooLong m3_TooLong m5_TooLong "ValueError.__new__")) (ga_TooLong : PySem.W.findIn K (.ref C_TooLong) "__getattribute__" = some (some (.builtin "BaseException.__getattribute__"))) (gg_TooLong : PySem.W.findIn K (.ref C_TooLong) "__getattr__" = some none) (kC_TooLong : PySem.W.keepIn K (.ref C_TooLong) = true) (eC_TooLong : PySem.W.subIn K (.ref C_TooLong) (.type "BaseException") = some true) (tC_TooLong : PySem.W.typeIn K (.ref C_TooLong) = some (.type "type")) (iC_TooLong : PySem.W.isClsIn K C_TooLong = true) (ja_TooLong : PySem.W.findIn K (.ref C_TooLong) "__class__" = some (some (.builtin "object.__class__"))) (jm_TooLong : PySem.W.mroIn K C_TooLong (.type "object") = some true) (sa_TooLong : PySem.W.findIn K (.ref C_TooLong) "__setattr__" = some (some (.builtin "object.__setattr__"))) (hC_TooLong : PySem.W.hasDictIn K C_TooLong = true) (nf_TooLong : PySem.W.findIn K (.ref C_TooLong) "limit" = some none)
    {fXTooLong : Addr} {odXTooLong anXTooLong : Option Addr} {slXTooLong : Array (Option Value)} {ocXTooLong kVXTooLong dcXTooLong pmXTooLong cdXTooLong ctXTooLong : Value} (aXTooLong : PySem.W.findIn K (.ref C_TooLong) "__init__" = some (some (.ref fXTooLong))) (tXTooLong : PySem.W.typeIn K (.ref fXTooLong) = some (.type "function")) (lXTooLong : K.lookup fXTooLong = some ⟨ocXTooLong, odXTooLong, .func (PySem.W.fnOf "__init__" "TooLong.__init__" (defArgs s_TooLong___init__) (defBody s_TooLong___init__) (defScope s_TooLong___init__) .none kVXTooLong dcXTooLong pmXTooLong anXTooLong cdXTooLong ctXTooLong), slXTooLong⟩) (cXTooLong : PySem.W.codeIn K cdXTooLong "TooLong.__init__" = true) (kXTooLong : PySem.W.keepIn K (.ref fXTooLong) = true)
    {C_TooManyBranches N_TooManyBranches : Addr} {nm_TooManyBranches q_TooManyBranches : Str} {bs_TooManyBranches : List Value} {sn_TooManyBranches : List Str} {sub_TooManyBranches : List Value} {ab_TooManyBranches : Bool} {col_TooManyBranches : Option Bool} {dd_TooManyBranches : Option Addr} {m0_TooManyBranches m1_TooManyBranches m2_TooManyBranches m3_TooManyBranches m5_TooManyBranches : Option Value} (aX_TooManyBranches : PySem.W.nsIn K mainGlobals "TooManyBranches" = some (some (.ref C_TooManyBranches))) (xL_TooManyBranches : K.lookup C_TooManyBranches = some (excClassObj nm_TooManyBranches q_TooManyBranches C_TooManyBranches N_TooManyBranches bs_TooManyBranches [.ref C_PastError, .type "ValueError", .type "Exception", .type "BaseException", .type "object"] true sn_TooManyBranches sub_TooManyBranches ab_TooManyBranches col_TooManyBranches dd_TooManyBranches m0_TooManyBranches m1_TooManyBranches m2_TooManyBranches m3_TooManyBranches m5_TooManyBranches "ValueError.__new__")) (ga_TooManyBranches : PySem.W.findIn K (.ref C_TooManyBranches) "__getattribute__" = some (some (.builtin "BaseException.__getattribute__"))) (gg_TooManyBranches : PySem.W.findIn K (.ref C_TooManyBranches) "__getattr__" = some none) (kC_TooManyBranches : PySem.W.keepIn K (.ref C_TooManyBranches) = true) (eC_TooManyBranches : PySem.W.subIn K (.ref C_TooManyBranches) (.type "BaseException") = some true) (tC_TooManyBranches : PySem.W.typeIn K (.ref C_TooManyBranches) = some (.type "type")) (iC_TooManyBranches : PySem.W.isClsIn K C_TooManyBranches = true) (ja_TooManyBranches : PySem.W.findIn K (.ref C_TooManyBranches) "__class__" = some (some (.builtin "object.__class__"))) (jm_TooManyBranches : PySem.W.mroIn K C_TooManyBranches (.type "object") = some true) (sa_TooManyBranches : PySem.W.findIn K (.ref C_TooManyBranches) "__setattr__" = some (some (.builtin "object.__setattr__"))) (hC_TooManyBranches : PySem.W.hasDictIn K C_TooManyBranches = true) (nf_TooManyBranches : PySem.W.findIn K (.ref C_TooManyBranches) "limit" = some none)
    {fXTooManyBranches : Addr} {odXTooManyBranches anXTooManyBranches : Option Addr} {slXTooManyBranches : Array (Option Value)} {ocXTooManyBranches kVXTooManyBranches dcXTooManyBranches pmXTooManyBranches cdXTooManyBranches ctXTooManyBranches : Value} (aXTooManyBranches : PySem.W.findIn K (.ref C_TooManyBranches) "__init__" = some (some (.ref fXTooManyBranches))) (tXTooManyBranches : PySem.W.typeIn K (.ref fXTooManyBranches) = some (.type "function")) (lXTooManyBranches : K.lookup fXTooManyBranches = some ⟨ocXTooManyBranches, odXTooManyBranches, .func (PySem.W.fnOf "__init__" "TooManyBranches.__init__" (defArgs s_TooManyBranches___init__) (defBody s_TooManyBranches___init__) (defScope s_TooManyBranches___init__) .none kVXTooManyBranches dcXTooManyBranches pmXTooManyBranches anXTooManyBranches cdXTooManyBranches ctXTooManyBranches), slXTooManyBranches⟩) (cXTooManyBranches : PySem.W.codeIn K cdXTooManyBranches "TooManyBranches.__init__" = true) (kXTooManyBranches : PySem.W.keepIn K (.ref fXTooManyBranches) = true)
    {C_BadScheme N_BadScheme : Addr} {nm_BadScheme q_BadScheme : Str} {bs_BadScheme : List Value} {sn_BadScheme : List Str} {sub_BadScheme : List Value} {ab_BadScheme : Bool} {col_BadScheme : Option Bool} {dd_BadScheme : Option Addr} {m0_BadScheme m1_BadScheme m2_BadScheme m3_BadScheme m5_BadScheme : Option Value} (aX_BadScheme : PySem.W.nsIn K mainGlobals "BadScheme" = some (some (.ref C_BadScheme))) (xL_BadScheme : K.lookup C_BadScheme = some (excClassObj nm_BadScheme q_BadScheme C_BadScheme N_BadScheme bs_BadScheme [.ref C_PastError, .type "ValueError", .type "Exception", .type "BaseException", .type "object"] true sn_BadScheme sub_BadScheme ab_BadScheme col_BadScheme dd_BadScheme m0_BadScheme m1_BadScheme m2_BadScheme m3_BadScheme m5_BadScheme "ValueError.__new__")) (ga_BadScheme : PySem.W.findIn K (.ref C_BadScheme) "__getattribute__" = some (some (.builtin "BaseException.__getattribute__"))) (gg_BadScheme : PySem.W.findIn K (.ref C_BadScheme) "__getattr__" = some none) (kC_BadScheme : PySem.W.keepIn K (.ref C_BadScheme) = true) (eC_BadScheme : PySem.W.subIn K (.ref C_BadScheme) (.type "BaseException") = some true) (tC_BadScheme : PySem.W.typeIn K (.ref C_BadScheme) = some (.type "type")) (iC_BadScheme : PySem.W.isClsIn K C_BadScheme = true) (ja_BadScheme : PySem.W.findIn K (.ref C_BadScheme) "__class__" = some (some (.builtin "object.__class__"))) (jm_BadScheme : PySem.W.mroIn K C_BadScheme (.type "object") = some true) (sa_BadScheme : PySem.W.findIn K (.ref C_BadScheme) "__setattr__" = some (some (.builtin "object.__setattr__"))) (hC_BadScheme : PySem.W.hasDictIn K C_BadScheme = true) (nf_BadScheme : PySem.W.findIn K (.ref C_BadScheme) "value" = some none)
    {fXBadScheme : Addr} {odXBadScheme anXBadScheme : Option Addr} {slXBadScheme : Array (Option Value)} {ocXBadScheme kVXBadScheme dcXBadScheme pmXBadScheme cdXBadScheme ctXBadScheme : Value} (aXBadScheme : PySem.W.findIn K (.ref C_BadScheme) "__init__" = some (some (.ref fXBadScheme))) (tXBadScheme : PySem.W.typeIn K (.ref fXBadScheme) = some (.type "function")) (lXBadScheme : K.lookup fXBadScheme = some ⟨ocXBadScheme, odXBadScheme, .func (PySem.W.fnOf "__init__" "BadScheme.__init__" (defArgs s_BadScheme___init__) (defBody s_BadScheme___init__) (defScope s_BadScheme___init__) .none kVXBadScheme dcXBadScheme pmXBadScheme anXBadScheme cdXBadScheme ctXBadScheme), slXBadScheme⟩) (cXBadScheme : PySem.W.codeIn K cdXBadScheme "BadScheme.__init__" = true) (kXBadScheme : PySem.W.keepIn K (.ref fXBadScheme) = true)
    {C_BadCounter N_BadCounter : Addr} {nm_BadCounter q_BadCounter : Str} {bs_BadCounter : List Value} {sn_BadCounter : List Str} {sub_BadCounter : List Value} {ab_BadCounter : Bool} {col_BadCounter : Option Bool} {dd_BadCounter : Option Addr} {m0_BadCounter m1_BadCounter m2_BadCounter m3_BadCounter m5_BadCounter : Option Value} (aX_BadCounter : PySem.W.nsIn K mainGlobals "BadCounter" = some (some (.ref C_BadCounter))) (xL_BadCounter : K.lookup C_BadCounter = some (excClassObj nm_BadCounter q_BadCounter C_BadCounter N_BadCounter bs_BadCounter [.ref C_PastError, .type "ValueError", .type "Exception", .type "BaseException", .type "object"] true sn_BadCounter sub_BadCounter ab_BadCounter col_BadCounter dd_BadCounter m0_BadCounter m1_BadCounter m2_BadCounter m3_BadCounter m5_BadCounter "ValueError.__new__")) (ga_BadCounter : PySem.W.findIn K (.ref C_BadCounter) "__getattribute__" = some (some (.builtin "BaseException.__getattribute__"))) (gg_BadCounter : PySem.W.findIn K (.ref C_BadCounter) "__getattr__" = some none) (kC_BadCounter : PySem.W.keepIn K (.ref C_BadCounter) = true) (eC_BadCounter : PySem.W.subIn K (.ref C_BadCounter) (.type "BaseException") = some true) (tC_BadCounter : PySem.W.typeIn K (.ref C_BadCounter) = some (.type "type")) (iC_BadCounter : PySem.W.isClsIn K C_BadCounter = true) (ja_BadCounter : PySem.W.findIn K (.ref C_BadCounter) "__class__" = some (some (.builtin "object.__class__"))) (jm_BadCounter : PySem.W.mroIn K C_BadCounter (.type "object") = some true) (sa_BadCounter : PySem.W.findIn K (.ref C_BadCounter) "__setattr__" = some (some (.builtin "object.__setattr__"))) (hC_BadCounter : PySem.W.hasDictIn K C_BadCounter = true) (nf_BadCounter : PySem.W.findIn K (.ref C_BadCounter) "value" = some none)
    {fXBadCounter : Addr} {odXBadCounter anXBadCounter : Option Addr} {slXBadCounter : Array (Option Value)} {ocXBadCounter kVXBadCounter dcXBadCounter pmXBadCounter cdXBadCounter ctXBadCounter : Value} (aXBadCounter : PySem.W.findIn K (.ref C_BadCounter) "__init__" = some (some (.ref fXBadCounter))) (tXBadCounter : PySem.W.typeIn K (.ref fXBadCounter) = some (.type "function")) (lXBadCounter : K.lookup fXBadCounter = some ⟨ocXBadCounter, odXBadCounter, .func (PySem.W.fnOf "__init__" "BadCounter.__init__" (defArgs s_BadCounter___init__) (defBody s_BadCounter___init__) (defScope s_BadCounter___init__) .none kVXBadCounter dcXBadCounter pmXBadCounter anXBadCounter cdXBadCounter ctXBadCounter), slXBadCounter⟩) (cXBadCounter : PySem.W.codeIn K cdXBadCounter "BadCounter.__init__" = true) (kXBadCounter : PySem.W.keepIn K (.ref fXBadCounter) = true)
    {C_BadBranch N_BadBranch : Addr} {nm_BadBranch q_BadBranch : Str} {bs_BadBranch : List Value} {sn_BadBranch : List Str} {sub_BadBranch : List Value} {ab_BadBranch : Bool} {col_BadBranch : Option Bool} {dd_BadBranch : Option Addr} {m0_BadBranch m1_BadBranch m2_BadBranch m3_BadBranch m5_BadBranch : Option Value} (aX_BadBranch : PySem.W.nsIn K mainGlobals "BadBranch" = some (some (.ref C_BadBranch))) (xL_BadBranch : K.lookup C_BadBranch = some (excClassObj nm_BadBranch q_BadBranch C_BadBranch N_BadBranch bs_BadBranch [.ref C_PastError, .type "ValueError", .type "Exception", .type "BaseException", .type "object"] true sn_BadBranch sub_BadBranch ab_BadBranch col_BadBranch dd_BadBranch m0_BadBranch m1_BadBranch m2_BadBranch m3_BadBranch m5_BadBranch "ValueError.__new__")) (ga_BadBranch : PySem.W.findIn K (.ref C_BadBranch) "__getattribute__" = some (some (.builtin "BaseException.__getattribute__"))) (gg_BadBranch : PySem.W.findIn K (.ref C_BadBranch) "__getattr__" = some none) (kC_BadBranch : PySem.W.keepIn K (.ref C_BadBranch) = true) (eC_BadBranch : PySem.W.subIn K (.ref C_BadBranch) (.type "BaseException") = some true) (tC_BadBranch : PySem.W.typeIn K (.ref C_BadBranch) = some (.type "type")) (iC_BadBranch : PySem.W.isClsIn K C_BadBranch = true) (ja_BadBranch : PySem.W.findIn K (.ref C_BadBranch) "__class__" = some (some (.builtin "object.__class__"))) (jm_BadBranch : PySem.W.mroIn K C_BadBranch (.type "object") = some true) (sa_BadBranch : PySem.W.findIn K (.ref C_BadBranch) "__setattr__" = some (some (.builtin "object.__setattr__"))) (hC_BadBranch : PySem.W.hasDictIn K C_BadBranch = true) (nf_BadBranch : PySem.W.findIn K (.ref C_BadBranch) "value" = some none)
    {fXBadBranch : Addr} {odXBadBranch anXBadBranch : Option Addr} {slXBadBranch : Array (Option Value)} {ocXBadBranch kVXBadBranch dcXBadBranch pmXBadBranch cdXBadBranch ctXBadBranch : Value} (aXBadBranch : PySem.W.findIn K (.ref C_BadBranch) "__init__" = some (some (.ref fXBadBranch))) (tXBadBranch : PySem.W.typeIn K (.ref fXBadBranch) = some (.type "function")) (lXBadBranch : K.lookup fXBadBranch = some ⟨ocXBadBranch, odXBadBranch, .func (PySem.W.fnOf "__init__" "BadBranch.__init__" (defArgs s_BadBranch___init__) (defBody s_BadBranch___init__) (defScope s_BadBranch___init__) .none kVXBadBranch dcXBadBranch pmXBadBranch anXBadBranch cdXBadBranch ctXBadBranch), slXBadBranch⟩) (cXBadBranch : PySem.W.codeIn K cdXBadBranch "BadBranch.__init__" = true) (kXBadBranch : PySem.W.keepIn K (.ref fXBadBranch) = true)
    {C_BadOutcome N_BadOutcome : Addr} {nm_BadOutcome q_BadOutcome : Str} {bs_BadOutcome : List Value} {sn_BadOutcome : List Str} {sub_BadOutcome : List Value} {ab_BadOutcome : Bool} {col_BadOutcome : Option Bool} {dd_BadOutcome : Option Addr} {m0_BadOutcome m1_BadOutcome m2_BadOutcome m3_BadOutcome m5_BadOutcome : Option Value} (aX_BadOutcome : PySem.W.nsIn K mainGlobals "BadOutcome" = some (some (.ref C_BadOutcome))) (xL_BadOutcome : K.lookup C_BadOutcome = some (excClassObj nm_BadOutcome q_BadOutcome C_BadOutcome N_BadOutcome bs_BadOutcome [.ref C_PastError, .type "ValueError", .type "Exception", .type "BaseException", .type "object"] true sn_BadOutcome sub_BadOutcome ab_BadOutcome col_BadOutcome dd_BadOutcome m0_BadOutcome m1_BadOutcome m2_BadOutcome m3_BadOutcome m5_BadOutcome "ValueError.__new__")) (ga_BadOutcome : PySem.W.findIn K (.ref C_BadOutcome) "__getattribute__" = some (some (.builtin "BaseException.__getattribute__"))) (gg_BadOutcome : PySem.W.findIn K (.ref C_BadOutcome) "__getattr__" = some none) (kC_BadOutcome : PySem.W.keepIn K (.ref C_BadOutcome) = true) (eC_BadOutcome : PySem.W.subIn K (.ref C_BadOutcome) (.type "BaseException") = some true) (tC_BadOutcome : PySem.W.typeIn K (.ref C_BadOutcome) = some (.type "type")) (iC_BadOutcome : PySem.W.isClsIn K C_BadOutcome = true) (ja_BadOutcome : PySem.W.findIn K (.ref C_BadOutcome) "__class__" = some (some (.builtin "object.__class__"))) (jm_BadOutcome : PySem.W.mroIn K C_BadOutcome (.type "object") = some true) (sa_BadOutcome : PySem.W.findIn K (.ref C_BadOutcome) "__setattr__" = some (some (.builtin "object.__setattr__"))) (hC_BadOutcome : PySem.W.hasDictIn K C_BadOutcome = true) (nf_BadOutcome : PySem.W.findIn K (.ref C_BadOutcome) "value" = some none)
    {fXBadOutcome : Addr} {odXBadOutcome anXBadOutcome : Option Addr} {slXBadOutcome : Array (Option Value)} {ocXBadOutcome kVXBadOutcome dcXBadOutcome pmXBadOutcome cdXBadOutcome ctXBadOutcome : Value} (aXBadOutcome : PySem.W.findIn K (.ref C_BadOutcome) "__init__" = some (some (.ref fXBadOutcome))) (tXBadOutcome : PySem.W.typeIn K (.ref fXBadOutcome) = some (.type "function")) (lXBadOutcome : K.lookup fXBadOutcome = some ⟨ocXBadOutcome, odXBadOutcome, .func (PySem.W.fnOf "__init__" "BadOutcome.__init__" (defArgs s_BadOutcome___init__) (defBody s_BadOutcome___init__) (defScope s_BadOutcome___init__) .none kVXBadOutcome dcXBadOutcome pmXBadOutcome anXBadOutcome cdXBadOutcome ctXBadOutcome), slXBadOutcome⟩) (cXBadOutcome : PySem.W.codeIn K cdXBadOutcome "BadOutcome.__init__" = true) (kXBadOutcome : PySem.W.keepIn K (.ref fXBadOutcome) = true)
    {C_NoCell N_NoCell : Addr} {nm_NoCell q_NoCell : Str} {bs_NoCell : List Value} {sn_NoCell : List Str} {sub_NoCell : List Value} {ab_NoCell : Bool} {col_NoCell : Option Bool} {dd_NoCell : Option Addr} {m0_NoCell m1_NoCell m2_NoCell m3_NoCell m5_NoCell : Option Value} (aX_NoCell : PySem.W.nsIn K mainGlobals "NoCell" = some (some (.ref C_NoCell))) (xL_NoCell : K.lookup C_NoCell = some (excClassObj nm_NoCell q_NoCell C_NoCell N_NoCell bs_NoCell [.ref C_PastError, .type "ValueError", .type "Exception", .type "BaseException", .type "object"] true sn_NoCell sub_NoCell ab_NoCell col_NoCell dd_NoCell m0_NoCell m1_NoCell m2_NoCell m3_NoCell m5_NoCell "ValueError.__new__")) (ga_NoCell : PySem.W.findIn K (.ref C_NoCell) "__getattribute__" = some (some (.builtin "BaseException.__getattribute__"))) (gg_NoCell : PySem.W.findIn K (.ref C_NoCell) "__getattr__" = some none) (kC_NoCell : PySem.W.keepIn K (.ref C_NoCell) = true) (eC_NoCell : PySem.W.subIn K (.ref C_NoCell) (.type "BaseException") = some true) (tC_NoCell : PySem.W.typeIn K (.ref C_NoCell) = some (.type "type")) (iC_NoCell : PySem.W.isClsIn K C_NoCell = true) (ja_NoCell : PySem.W.findIn K (.ref C_NoCell) "__class__" = some (some (.builtin "object.__class__"))) (jm_NoCell : PySem.W.mroIn K C_NoCell (.type "object") = some true) (sa_NoCell : PySem.W.findIn K (.ref C_NoCell) "__setattr__" = some (some (.builtin "object.__setattr__"))) (hC_NoCell : PySem.W.hasDictIn K C_NoCell = true) (nf_NoCell : PySem.W.findIn K (.ref C_NoCell) "value" = some none)
    {fXNoCell : Addr} {odXNoCell anXNoCell : Option Addr} {slXNoCell : Array (Option Value)} {ocXNoCell kVXNoCell dcXNoCell pmXNoCell cdXNoCell ctXNoCell : Value} (aXNoCell : PySem.W.findIn K (.ref C_NoCell) "__init__" = some (some (.ref fXNoCell))) (tXNoCell : PySem.W.typeIn K (.ref fXNoCell) = some (.type "function")) (lXNoCell : K.lookup fXNoCell = some ⟨ocXNoCell, odXNoCell, .func (PySem.W.fnOf "__init__" "NoCell.__init__" (defArgs s_NoCell___init__) (defBody s_NoCell___init__) (defScope s_NoCell___init__) .none kVXNoCell dcXNoCell pmXNoCell anXNoCell cdXNoCell ctXNoCell), slXNoCell⟩) (cXNoCell : PySem.W.codeIn K cdXNoCell "NoCell.__init__" = true) (kXNoCell : PySem.W.keepIn K (.ref fXNoCell) = true)
    {C_BadText N_BadText : Addr} {nm_BadText q_BadText : Str} {bs_BadText : List Value} {sn_BadText : List Str} {sub_BadText : List Value} {ab_BadText : Bool} {col_BadText : Option Bool} {dd_BadText : Option Addr} {m0_BadText m1_BadText m2_BadText m3_BadText m5_BadText : Option Value} (aX_BadText : PySem.W.nsIn K mainGlobals "BadText" = some (some (.ref C_BadText))) (xL_BadText : K.lookup C_BadText = some (excClassObj nm_BadText q_BadText C_BadText N_BadText bs_BadText [.ref C_PastError, .type "ValueError", .type "Exception", .type "BaseException", .type "object"] true sn_BadText sub_BadText ab_BadText col_BadText dd_BadText m0_BadText m1_BadText m2_BadText m3_BadText m5_BadText "ValueError.__new__")) (ga_BadText : PySem.W.findIn K (.ref C_BadText) "__getattribute__" = some (some (.builtin "BaseException.__getattribute__"))) (gg_BadText : PySem.W.findIn K (.ref C_BadText) "__getattr__" = some none) (kC_BadText : PySem.W.keepIn K (.ref C_BadText) = true) (eC_BadText : PySem.W.subIn K (.ref C_BadText) (.type "BaseException") = some true) (tC_BadText : PySem.W.typeIn K (.ref C_BadText) = some (.type "type")) (iC_BadText : PySem.W.isClsIn K C_BadText = true) (ja_BadText : PySem.W.findIn K (.ref C_BadText) "__class__" = some (some (.builtin "object.__class__"))) (jm_BadText : PySem.W.mroIn K C_BadText (.type "object") = some true) (sa_BadText : PySem.W.findIn K (.ref C_BadText) "__setattr__" = some (some (.builtin "object.__setattr__"))) (hC_BadText : PySem.W.hasDictIn K C_BadText = true) (nf_BadText : PySem.W.findIn K (.ref C_BadText) "text" = some none)
    {fXBadText : Addr} {odXBadText anXBadText : Option Addr} {slXBadText : Array (Option Value)} {ocXBadText kVXBadText dcXBadText pmXBadText cdXBadText ctXBadText : Value} (aXBadText : PySem.W.findIn K (.ref C_BadText) "__init__" = some (some (.ref fXBadText))) (tXBadText : PySem.W.typeIn K (.ref fXBadText) = some (.type "function")) (lXBadText : K.lookup fXBadText = some ⟨ocXBadText, odXBadText, .func (PySem.W.fnOf "__init__" "BadText.__init__" (defArgs s_BadText___init__) (defBody s_BadText___init__) (defScope s_BadText___init__) .none kVXBadText dcXBadText pmXBadText anXBadText cdXBadText ctXBadText), slXBadText⟩) (cXBadText : PySem.W.codeIn K cdXBadText "BadText.__init__" = true) (kXBadText : PySem.W.keepIn K (.ref fXBadText) = true)
    {C_BadLine N_BadLine : Addr} {nm_BadLine q_BadLine : Str} {bs_BadLine : List Value} {sn_BadLine : List Str} {sub_BadLine : List Value} {ab_BadLine : Bool} {col_BadLine : Option Bool} {dd_BadLine : Option Addr} {m0_BadLine m1_BadLine m2_BadLine m3_BadLine m5_BadLine : Option Value} (aX_BadLine : PySem.W.nsIn K mainGlobals "BadLine" = some (some (.ref C_BadLine))) (xL_BadLine : K.lookup C_BadLine = some (excClassObj nm_BadLine q_BadLine C_BadLine N_BadLine bs_BadLine [.ref C_PastError, .type "ValueError", .type "Exception", .type "BaseException", .type "object"] true sn_BadLine sub_BadLine ab_BadLine col_BadLine dd_BadLine m0_BadLine m1_BadLine m2_BadLine m3_BadLine m5_BadLine "ValueError.__new__")) (ga_BadLine : PySem.W.findIn K (.ref C_BadLine) "__getattribute__" = some (some (.builtin "BaseException.__getattribute__"))) (gg_BadLine : PySem.W.findIn K (.ref C_BadLine) "__getattr__" = some none) (kC_BadLine : PySem.W.keepIn K (.ref C_BadLine) = true) (eC_BadLine : PySem.W.subIn K (.ref C_BadLine) (.type "BaseException") = some true) (tC_BadLine : PySem.W.typeIn K (.ref C_BadLine) = some (.type "type")) (iC_BadLine : PySem.W.isClsIn K C_BadLine = true) (ja_BadLine : PySem.W.findIn K (.ref C_BadLine) "__class__" = some (some (.builtin "object.__class__"))) (jm_BadLine : PySem.W.mroIn K C_BadLine (.type "object") = some true) (sa_BadLine : PySem.W.findIn K (.ref C_BadLine) "__setattr__" = some (some (.builtin "object.__setattr__"))) (hC_BadLine : PySem.W.hasDictIn K C_BadLine = true) (nf_BadLine : PySem.W.findIn K (.ref C_BadLine) "line" = some none)
    {fXBadLine : Addr} {odXBadLine anXBadLine : Option Addr} {slXBadLine : Array (Option Value)} {ocXBadLine kVXBadLine dcXBadLine pmXBadLine cdXBadLine ctXBadLine : Value} (aXBadLine : PySem.W.findIn K (.ref C_BadLine) "__init__" = some (some (.ref fXBadLine))) (tXBadLine : PySem.W.typeIn K (.ref fXBadLine) = some (.type "function")) (lXBadLine : K.lookup fXBadLine = some ⟨ocXBadLine, odXBadLine, .func (PySem.W.fnOf "__init__" "BadLine.__init__" (defArgs s_BadLine___init__) (defBody s_BadLine___init__) (defScope s_BadLine___init__) .none kVXBadLine dcXBadLine pmXBadLine anXBadLine cdXBadLine ctXBadLine), slXBadLine⟩) (cXBadLine : PySem.W.codeIn K cdXBadLine "BadLine.__init__" = true) (kXBadLine : PySem.W.keepIn K (.ref fXBadLine) = true)
    {C_NothingToUndo N_NothingToUndo : Addr} {nm_NothingToUndo q_NothingToUndo : Str} {bs_NothingToUndo : List Value} {sn_NothingToUndo : List Str} {sub_NothingToUndo : List Value} {ab_NothingToUndo : Bool} {col_NothingToUndo : Option Bool} {dd_NothingToUndo : Option Addr} {m0_NothingToUndo m1_NothingToUndo m2_NothingToUndo m3_NothingToUndo m5_NothingToUndo : Option Value} (aX_NothingToUndo : PySem.W.nsIn K mainGlobals "NothingToUndo" = some (some (.ref C_NothingToUndo))) (xL_NothingToUndo : K.lookup C_NothingToUndo = some (excClassObj nm_NothingToUndo q_NothingToUndo C_NothingToUndo N_NothingToUndo bs_NothingToUndo [.ref C_PastError, .type "ValueError", .type "Exception", .type "BaseException", .type "object"] true sn_NothingToUndo sub_NothingToUndo ab_NothingToUndo col_NothingToUndo dd_NothingToUndo m0_NothingToUndo m1_NothingToUndo m2_NothingToUndo m3_NothingToUndo m5_NothingToUndo "ValueError.__new__")) (ga_NothingToUndo : PySem.W.findIn K (.ref C_NothingToUndo) "__getattribute__" = some (some (.builtin "BaseException.__getattribute__"))) (gg_NothingToUndo : PySem.W.findIn K (.ref C_NothingToUndo) "__getattr__" = some none) (kC_NothingToUndo : PySem.W.keepIn K (.ref C_NothingToUndo) = true) (eC_NothingToUndo : PySem.W.subIn K (.ref C_NothingToUndo) (.type "BaseException") = some true) (tC_NothingToUndo : PySem.W.typeIn K (.ref C_NothingToUndo) = some (.type "type")) (iC_NothingToUndo : PySem.W.isClsIn K C_NothingToUndo = true) (ja_NothingToUndo : PySem.W.findIn K (.ref C_NothingToUndo) "__class__" = some (some (.builtin "object.__class__"))) (jm_NothingToUndo : PySem.W.mroIn K C_NothingToUndo (.type "object") = some true) (sa_NothingToUndo : PySem.W.findIn K (.ref C_NothingToUndo) "__setattr__" = some (some (.builtin "object.__setattr__"))) (hC_NothingToUndo : PySem.W.hasDictIn K C_NothingToUndo = true)
    {fXNothingToUndo : Addr} {odXNothingToUndo anXNothingToUndo : Option Addr} {slXNothingToUndo : Array (Option Value)} {ocXNothingToUndo kVXNothingToUndo dcXNothingToUndo pmXNothingToUndo cdXNothingToUndo ctXNothingToUndo : Value} (aXNothingToUndo : PySem.W.findIn K (.ref C_NothingToUndo) "__init__" = some (some (.ref fXNothingToUndo))) (tXNothingToUndo : PySem.W.typeIn K (.ref fXNothingToUndo) = some (.type "function")) (lXNothingToUndo : K.lookup fXNothingToUndo = some ⟨ocXNothingToUndo, odXNothingToUndo, .func (PySem.W.fnOf "__init__" "NothingToUndo.__init__" (defArgs s_NothingToUndo___init__) (defBody s_NothingToUndo___init__) (defScope s_NothingToUndo___init__) .none kVXNothingToUndo dcXNothingToUndo pmXNothingToUndo anXNothingToUndo cdXNothingToUndo ctXNothingToUndo), slXNothingToUndo⟩) (cXNothingToUndo : PySem.W.codeIn K cdXNothingToUndo "NothingToUndo.__init__" = true) (kXNothingToUndo : PySem.W.keepIn K (.ref fXNothingToUndo) = true)
    {C_NoPredictor N_NoPredictor : Addr} {nm_NoPredictor q_NoPredictor : Str} {bs_NoPredictor : List Value} {sn_NoPredictor : List Str} {sub_NoPredictor : List Value} {ab_NoPredictor : Bool} {col_NoPredictor : Option Bool} {dd_NoPredictor : Option Addr} {m0_NoPredictor m1_NoPredictor m2_NoPredictor m3_NoPredictor m5_NoPredictor : Option Value} (aX_NoPredictor : PySem.W.nsIn K mainGlobals "NoPredictor" = some (some (.ref C_NoPredictor))) (xL_NoPredictor : K.lookup C_NoPredictor = some (excClassObj nm_NoPredictor q_NoPredictor C_NoPredictor N_NoPredictor bs_NoPredictor [.ref C_PastError, .type "ValueError", .type "Exception", .type "BaseException", .type "object"] true sn_NoPredictor sub_NoPredictor ab_NoPredictor col_NoPredictor dd_NoPredictor m0_NoPredictor m1_NoPredictor m2_NoPredictor m3_NoPredictor m5_NoPredictor "ValueError.__new__")) (ga_NoPredictor : PySem.W.findIn K (.ref C_NoPredictor) "__getattribute__" = some (some (.builtin "BaseException.__getattribute__"))) (gg_NoPredictor : PySem.W.findIn K (.ref C_NoPredictor) "__getattr__" = some none) (kC_NoPredictor : PySem.W.keepIn K (.ref C_NoPredictor) = true) (eC_NoPredictor : PySem.W.subIn K (.ref C_NoPredictor) (.type "BaseException") = some true) (tC_NoPredictor : PySem.W.typeIn K (.ref C_NoPredictor) = some (.type "type")) (iC_NoPredictor : PySem.W.isClsIn K C_NoPredictor = true) (ja_NoPredictor : PySem.W.findIn K (.ref C_NoPredictor) "__class__" = some (some (.builtin "object.__class__"))) (jm_NoPredictor : PySem.W.mroIn K C_NoPredictor (.type "object") = some true) (sa_NoPredictor : PySem.W.findIn K (.ref C_NoPredictor) "__setattr__" = some (some (.builtin "object.__setattr__"))) (hC_NoPredictor : PySem.W.hasDictIn K C_NoPredictor = true)
    {fXNoPredictor : Addr} {odXNoPredictor anXNoPredictor : Option Addr} {slXNoPredictor : Array (Option Value)} {ocXNoPredictor kVXNoPredictor dcXNoPredictor pmXNoPredictor cdXNoPredictor ctXNoPredictor : Value} (aXNoPredictor : PySem.W.findIn K (.ref C_NoPredictor) "__init__" = some (some (.ref fXNoPredictor))) (tXNoPredictor : PySem.W.typeIn K (.ref fXNoPredictor) = some (.type "function")) (lXNoPredictor : K.lookup fXNoPredictor = some ⟨ocXNoPredictor, odXNoPredictor, .func (PySem.W.fnOf "__init__" "NoPredictor.__init__" (defArgs s_NoPredictor___init__) (defBody s_NoPredictor___init__) (defScope s_NoPredictor___init__) .none kVXNoPredictor dcXNoPredictor pmXNoPredictor anXNoPredictor cdXNoPredictor ctXNoPredictor), slXNoPredictor⟩) (cXNoPredictor : PySem.W.codeIn K cdXNoPredictor "NoPredictor.__init__" = true) (kXNoPredictor : PySem.W.keepIn K (.ref fXNoPredictor) = true)
    {C_NoTrace N_NoTrace : Addr} {nm_NoTrace q_NoTrace : Str} {bs_NoTrace : List Value} {sn_NoTrace : List Str} {sub_NoTrace : List Value} {ab_NoTrace : Bool} {col_NoTrace : Option Bool} {dd_NoTrace : Option Addr} {m0_NoTrace m1_NoTrace m2_NoTrace m3_NoTrace m5_NoTrace : Option Value} (aX_NoTrace : PySem.W.nsIn K mainGlobals "NoTrace" = some (some (.ref C_NoTrace))) (xL_NoTrace : K.lookup C_NoTrace = some (excClassObj nm_NoTrace q_NoTrace C_NoTrace N_NoTrace bs_NoTrace [.ref C_PastError, .type "ValueError", .type "Exception", .type "BaseException", .type "object"] true sn_NoTrace sub_NoTrace ab_NoTrace col_NoTrace dd_NoTrace m0_NoTrace m1_NoTrace m2_NoTrace m3_NoTrace m5_NoTrace "ValueError.__new__")) (ga_NoTrace : PySem.W.findIn K (.ref C_NoTrace) "__getattribute__" = some (some (.builtin "BaseException.__getattribute__"))) (gg_NoTrace : PySem.W.findIn K (.ref C_NoTrace) "__getattr__" = some none) (kC_NoTrace : PySem.W.keepIn K (.ref C_NoTrace) = true) (eC_NoTrace : PySem.W.subIn K (.ref C_NoTrace) (.type "BaseException") = some true) (tC_NoTrace : PySem.W.typeIn K (.ref C_NoTrace) = some (.type "type")) (iC_NoTrace : PySem.W.isClsIn K C_NoTrace = true) (ja_NoTrace : PySem.W.findIn K (.ref C_NoTrace) "__class__" = some (some (.builtin "object.__class__"))) (jm_NoTrace : PySem.W.mroIn K C_NoTrace (.type "object") = some true) (sa_NoTrace : PySem.W.findIn K (.ref C_NoTrace) "__setattr__" = some (some (.builtin "object.__setattr__"))) (hC_NoTrace : PySem.W.hasDictIn K C_NoTrace = true)
    {fXNoTrace : Addr} {odXNoTrace anXNoTrace : Option Addr} {slXNoTrace : Array (Option Value)} {ocXNoTrace kVXNoTrace dcXNoTrace pmXNoTrace cdXNoTrace ctXNoTrace : Value} (aXNoTrace : PySem.W.findIn K (.ref C_NoTrace) "__init__" = some (some (.ref fXNoTrace))) (tXNoTrace : PySem.W.typeIn K (.ref fXNoTrace) = some (.type "function")) (lXNoTrace : K.lookup fXNoTrace = some ⟨ocXNoTrace, odXNoTrace, .func (PySem.W.fnOf "__init__" "NoTrace.__init__" (defArgs s_NoTrace___init__) (defBody s_NoTrace___init__) (defScope s_NoTrace___init__) .none kVXNoTrace dcXNoTrace pmXNoTrace anXNoTrace cdXNoTrace ctXNoTrace), slXNoTrace⟩) (cXNoTrace : PySem.W.codeIn K cdXNoTrace "NoTrace.__init__" = true) (kXNoTrace : PySem.W.keepIn K (.ref fXNoTrace) = true)
    (ndX : ([C_NoBranch, C_TooShort, C_TooLong, C_TooManyBranches, C_BadScheme, C_BadCounter, C_BadBranch, C_BadOutcome, C_NoCell, C_BadText, C_BadLine, C_NothingToUndo, C_NoPredictor, C_NoTrace, C_PastError] : List Addr).Nodup) (z_len : PySem.W.nsIn K mainGlobals "len" = some none) (z_abs : PySem.W.nsIn K mainGlobals "abs" = some none) (z_int : PySem.W.nsIn K mainGlobals "int" = some none) (z_range : PySem.W.nsIn K mainGlobals "range" = some none) (z_isinstance : PySem.W.nsIn K mainGlobals "isinstance" = some none) (z_enumerate : PySem.W.nsIn K mainGlobals "enumerate" = some none) (z_ValueError : PySem.W.nsIn K mainGlobals "ValueError" = some none) (z_repr : PySem.W.nsIn K mainGlobals "repr" = some none) (z_max : PySem.W.nsIn K mainGlobals "max" = some none) (z_min : PySem.W.nsIn K mainGlobals "min" = some none) (z_all : PySem.W.nsIn K mainGlobals "all" = some none) :
    ∃ fd : FuncData, (∀ (s : Shared) (v : Value), BindsTo s fd ⟨[v], []⟩ [("_law_script", v)]) ∧ ∀ base : Heap, K.In base → base.Ns mainGlobals mg → Sm base → FnG l.prog w K mg base 5 fa fd ["_law_script"] (lift K spLaw) := by
  have e := hfa.symm.trans (PySem.W.mg_of X G a9)
  cases e
  have m_len := PySem.W.mg_none_of X G z_len
  have m_abs := PySem.W.mg_none_of X G z_abs
  have m_int := PySem.W.mg_none_of X G z_int
  have m_range := PySem.W.mg_none_of X G z_range
  have m_isinstance := PySem.W.mg_none_of X G z_isinstance
  have m_enumerate := PySem.W.mg_none_of X G z_enumerate
  have m_ValueError := PySem.W.mg_none_of X G z_ValueError
  have m_repr := PySem.W.mg_none_of X G z_repr
  have m_max := PySem.W.mg_none_of X G z_max
  have m_min := PySem.W.mg_none_of X G z_min
  have m_all := PySem.W.mg_none_of X G z_all
  refine ⟨PySem.W.fnOf "law" "law" (defArgs s_law) (defBody s_law) (defScope s_law) .none kV9 dc9 pm9 an9 cd9 ct9, fun s v => .of_eq rfl, fun base _ _ hsm => ?_⟩
  have E_PastError : ExCls K bmP C_PastError := ⟨⟨iC_PastError, ga_PastError, gg_PastError, eC_PastError, ja_PastError, jn, jt, jm_PastError⟩, tC_PastError, sub_exc xL_PastError⟩
  have O_NoBranch : OexC K C_NoBranch := ⟨⟨_, _, _, _, _, _, _, _, _, _, _, _, _, _, _, xL_NoBranch, by rfl⟩, sa_NoBranch, eC_NoBranch, tC_NoBranch, kC_NoBranch⟩
  have FXNoBranch := fun_mk (st := s_NoBranch___init__) lXNoBranch cXNoBranch kXNoBranch
  have bXNoBranch := FXNoBranch.binds (ps := ["self", "value"]) fun _ _ _ _ _ _ => bdn2 fun _ _ => rfl
  have KXNoBranch := bindKs_of FXNoBranch (ps := ["self", "value"]) (ks := ["value"]) fun _ _ _ _ _ _ _ us hl => match us, hl with | [_], _ => rfl
  have V_NoBranch : ExVDef l.prog w K mg base 1 "NoBranch" "value" okV C_NoBranch := ⟨O_NoBranch, ⟨fXNoBranch, _, aXNoBranch, tXNoBranch, ok_NoBranch_init (P := l.prog) (w := w) (base := base) hsm FXNoBranch O_NoBranch nf_NoBranch (PySem.W.mg_of X G aX_PastError) rB_PastError gB_PastError fB_PastError, bXNoBranch, KXNoBranch⟩, PySem.W.mg_of X G aX_NoBranch, ⟨ga_NoBranch, gg_NoBranch, eC_NoBranch, hC_NoBranch⟩, nf_NoBranch⟩
  have E_NoBranch : ExCls K (.ref C_PastError :: bmP) C_NoBranch := ⟨⟨iC_NoBranch, ga_NoBranch, gg_NoBranch, eC_NoBranch, ja_NoBranch, jn, jt, jm_NoBranch⟩, tC_NoBranch, sub_exc xL_NoBranch⟩
  have O_TooShort : OexC K C_TooShort := ⟨⟨_, _, _, _, _, _, _, _, _, _, _, _, _, _, _, xL_TooShort, by rfl⟩, sa_TooShort, eC_TooShort, tC_TooShort, kC_TooShort⟩
  have FXTooShort := fun_mk (st := s_TooShort___init__) lXTooShort cXTooShort kXTooShort
  have bXTooShort := FXTooShort.binds (ps := ["self", "reach"]) fun _ _ _ _ _ _ => bdn2 fun _ _ => rfl
  have KXTooShort := bindKs_of FXTooShort (ps := ["self", "reach"]) (ks := ["reach"]) fun _ _ _ _ _ _ _ us hl => match us, hl with | [_], _ => rfl
  have V_TooShort : ExVDef l.prog w K mg base 1 "TooShort" "reach" okV C_TooShort := ⟨O_TooShort, ⟨fXTooShort, _, aXTooShort, tXTooShort, ok_TooShort_init (P := l.prog) (w := w) (base := base) hsm FXTooShort O_TooShort nf_TooShort (PySem.W.mg_of X G aX_PastError) rB_PastError gB_PastError fB_PastError, bXTooShort, KXTooShort⟩, PySem.W.mg_of X G aX_TooShort, ⟨ga_TooShort, gg_TooShort, eC_TooShort, hC_TooShort⟩, nf_TooShort⟩
  have E_TooShort : ExCls K (.ref C_PastError :: bmP) C_TooShort := ⟨⟨iC_TooShort, ga_TooShort, gg_TooShort, eC_TooShort, ja_TooShort, jn, jt, jm_TooShort⟩, tC_TooShort, sub_exc xL_TooShort⟩
  have O_TooLong : OexC K C_TooLong := ⟨⟨_, _, _, _, _, _, _, _, _, _, _, _, _, _, _, xL_TooLong, by rfl⟩, sa_TooLong, eC_TooLong, tC_TooLong, kC_TooLong⟩
  have FXTooLong := fun_mk (st := s_TooLong___init__) lXTooLong cXTooLong kXTooLong
  have bXTooLong := FXTooLong.binds (ps := ["self", "limit"]) fun _ _ _ _ _ _ => bdn2 fun _ _ => rfl
  have KXTooLong := bindKs_of FXTooLong (ps := ["self", "limit"]) (ks := ["limit"]) fun _ _ _ _ _ _ _ us hl => match us, hl with | [_], _ => rfl
  have V_TooLong : ExVDef l.prog w K mg base 1 "TooLong" "limit" okV C_TooLong := ⟨O_TooLong, ⟨fXTooLong, _, aXTooLong, tXTooLong, ok_TooLong_init (P := l.prog) (w := w) (base := base) hsm FXTooLong O_TooLong nf_TooLong (PySem.W.mg_of X G aX_PastError) rB_PastError gB_PastError fB_PastError, bXTooLong, KXTooLong⟩, PySem.W.mg_of X G aX_TooLong, ⟨ga_TooLong, gg_TooLong, eC_TooLong, hC_TooLong⟩, nf_TooLong⟩
  have E_TooLong : ExCls K (.ref C_PastError :: bmP) C_TooLong := ⟨⟨iC_TooLong, ga_TooLong, gg_TooLong, eC_TooLong, ja_TooLong, jn, jt, jm_TooLong⟩, tC_TooLong, sub_exc xL_TooLong⟩
  have O_TooManyBranches : OexC K C_TooManyBranches := ⟨⟨_, _, _, _, _, _, _, _, _, _, _, _, _, _, _, xL_TooManyBranches, by rfl⟩, sa_TooManyBranches, eC_TooManyBranches, tC_TooManyBranches, kC_TooManyBranches⟩
  have FXTooManyBranches := fun_mk (st := s_TooManyBranches___init__) lXTooManyBranches cXTooManyBranches kXTooManyBranches
  have bXTooManyBranches := FXTooManyBranches.binds (ps := ["self", "limit"]) fun _ _ _ _ _ _ => bdn2 fun _ _ => rfl
  have KXTooManyBranches := bindKs_of FXTooManyBranches (ps := ["self", "limit"]) (ks := ["limit"]) fun _ _ _ _ _ _ _ us hl => match us, hl with | [_], _ => rfl
  have V_TooManyBranches : ExVDef l.prog w K mg base 1 "TooManyBranches" "limit" okV C_TooManyBranches := ⟨O_TooManyBranches, ⟨fXTooManyBranches, _, aXTooManyBranches, tXTooManyBranches, ok_TooManyBranches_init (P := l.prog) (w := w) (base := base) hsm FXTooManyBranches O_TooManyBranches nf_TooManyBranches (PySem.W.mg_of X G aX_PastError) rB_PastError gB_PastError fB_PastError, bXTooManyBranches, KXTooManyBranches⟩, PySem.W.mg_of X G aX_TooManyBranches, ⟨ga_TooManyBranches, gg_TooManyBranches, eC_TooManyBranches, hC_TooManyBranches⟩, nf_TooManyBranches⟩
  have E_TooManyBranches : ExCls K (.ref C_PastError :: bmP) C_TooManyBranches := ⟨⟨iC_TooManyBranches, ga_TooManyBranches, gg_TooManyBranches, eC_TooManyBranches, ja_TooManyBranches, jn, jt, jm_TooManyBranches⟩, tC_TooManyBranches, sub_exc xL_TooManyBranches⟩
  have O_BadScheme : OexC K C_BadScheme := ⟨⟨_, _, _, _, _, _, _, _, _, _, _, _, _, _, _, xL_BadScheme, by rfl⟩, sa_BadScheme, eC_BadScheme, tC_BadScheme, kC_BadScheme⟩
  have FXBadScheme := fun_mk (st := s_BadScheme___init__) lXBadScheme cXBadScheme kXBadScheme
  have bXBadScheme := FXBadScheme.binds (ps := ["self", "value"]) fun _ _ _ _ _ _ => bdn2 fun _ _ => rfl
  have KXBadScheme := bindKs_of FXBadScheme (ps := ["self", "value"]) (ks := ["value"]) fun _ _ _ _ _ _ _ us hl => match us, hl with | [_], _ => rfl
  have V_BadScheme : ExVDef l.prog w K mg base 1 "BadScheme" "value" okV C_BadScheme := ⟨O_BadScheme, ⟨fXBadScheme, _, aXBadScheme, tXBadScheme, ok_BadScheme_init (P := l.prog) (w := w) (base := base) hsm FXBadScheme O_BadScheme nf_BadScheme (PySem.W.mg_of X G aX_PastError) rB_PastError gB_PastError fB_PastError, bXBadScheme, KXBadScheme⟩, PySem.W.mg_of X G aX_BadScheme, ⟨ga_BadScheme, gg_BadScheme, eC_BadScheme, hC_BadScheme⟩, nf_BadScheme⟩
  have E_BadScheme : ExCls K (.ref C_PastError :: bmP) C_BadScheme := ⟨⟨iC_BadScheme, ga_BadScheme, gg_BadScheme, eC_BadScheme, ja_BadScheme, jn, jt, jm_BadScheme⟩, tC_BadScheme, sub_exc xL_BadScheme⟩
  have O_BadCounter : OexC K C_BadCounter := ⟨⟨_, _, _, _, _, _, _, _, _, _, _, _, _, _, _, xL_BadCounter, by rfl⟩, sa_BadCounter, eC_BadCounter, tC_BadCounter, kC_BadCounter⟩
  have FXBadCounter := fun_mk (st := s_BadCounter___init__) lXBadCounter cXBadCounter kXBadCounter
  have bXBadCounter := FXBadCounter.binds (ps := ["self", "value"]) fun _ _ _ _ _ _ => bdn2 fun _ _ => rfl
  have KXBadCounter := bindKs_of FXBadCounter (ps := ["self", "value"]) (ks := ["value"]) fun _ _ _ _ _ _ _ us hl => match us, hl with | [_], _ => rfl
  have V_BadCounter : ExVDef l.prog w K mg base 1 "BadCounter" "value" okV C_BadCounter := ⟨O_BadCounter, ⟨fXBadCounter, _, aXBadCounter, tXBadCounter, ok_BadCounter_init (P := l.prog) (w := w) (base := base) hsm FXBadCounter O_BadCounter nf_BadCounter (PySem.W.mg_of X G aX_PastError) rB_PastError gB_PastError fB_PastError, bXBadCounter, KXBadCounter⟩, PySem.W.mg_of X G aX_BadCounter, ⟨ga_BadCounter, gg_BadCounter, eC_BadCounter, hC_BadCounter⟩, nf_BadCounter⟩
  have E_BadCounter : ExCls K (.ref C_PastError :: bmP) C_BadCounter := ⟨⟨iC_BadCounter, ga_BadCounter, gg_BadCounter, eC_BadCounter, ja_BadCounter, jn, jt, jm_BadCounter⟩, tC_BadCounter, sub_exc xL_BadCounter⟩
  have O_BadBranch : OexC K C_BadBranch := ⟨⟨_, _, _, _, _, _, _, _, _, _, _, _, _, _, _, xL_BadBranch, by rfl⟩, sa_BadBranch, eC_BadBranch, tC_BadBranch, kC_BadBranch⟩
  have FXBadBranch := fun_mk (st := s_BadBranch___init__) lXBadBranch cXBadBranch kXBadBranch
  have bXBadBranch := FXBadBranch.binds (ps := ["self", "value"]) fun _ _ _ _ _ _ => bdn2 fun _ _ => rfl
  have KXBadBranch := bindKs_of FXBadBranch (ps := ["self", "value"]) (ks := ["value"]) fun _ _ _ _ _ _ _ us hl => match us, hl with | [_], _ => rfl
  have V_BadBranch : ExVDef l.prog w K mg base 1 "BadBranch" "value" okV C_BadBranch := ⟨O_BadBranch, ⟨fXBadBranch, _, aXBadBranch, tXBadBranch, ok_BadBranch_init (P := l.prog) (w := w) (base := base) hsm FXBadBranch O_BadBranch nf_BadBranch (PySem.W.mg_of X G aX_PastError) rB_PastError gB_PastError fB_PastError, bXBadBranch, KXBadBranch⟩, PySem.W.mg_of X G aX_BadBranch, ⟨ga_BadBranch, gg_BadBranch, eC_BadBranch, hC_BadBranch⟩, nf_BadBranch⟩
  have E_BadBranch : ExCls K (.ref C_PastError :: bmP) C_BadBranch := ⟨⟨iC_BadBranch, ga_BadBranch, gg_BadBranch, eC_BadBranch, ja_BadBranch, jn, jt, jm_BadBranch⟩, tC_BadBranch, sub_exc xL_BadBranch⟩
  have O_BadOutcome : OexC K C_BadOutcome := ⟨⟨_, _, _, _, _, _, _, _, _, _, _, _, _, _, _, xL_BadOutcome, by rfl⟩, sa_BadOutcome, eC_BadOutcome, tC_BadOutcome, kC_BadOutcome⟩
  have FXBadOutcome := fun_mk (st := s_BadOutcome___init__) lXBadOutcome cXBadOutcome kXBadOutcome
  have bXBadOutcome := FXBadOutcome.binds (ps := ["self", "value"]) fun _ _ _ _ _ _ => bdn2 fun _ _ => rfl
  have KXBadOutcome := bindKs_of FXBadOutcome (ps := ["self", "value"]) (ks := ["value"]) fun _ _ _ _ _ _ _ us hl => match us, hl with | [_], _ => rfl
  have V_BadOutcome : ExVDef l.prog w K mg base 1 "BadOutcome" "value" okV C_BadOutcome := ⟨O_BadOutcome, ⟨fXBadOutcome, _, aXBadOutcome, tXBadOutcome, ok_BadOutcome_init (P := l.prog) (w := w) (base := base) hsm FXBadOutcome O_BadOutcome nf_BadOutcome (PySem.W.mg_of X G aX_PastError) rB_PastError gB_PastError fB_PastError, bXBadOutcome, KXBadOutcome⟩, PySem.W.mg_of X G aX_BadOutcome, ⟨ga_BadOutcome, gg_BadOutcome, eC_BadOutcome, hC_BadOutcome⟩, nf_BadOutcome⟩
  have E_BadOutcome : ExCls K (.ref C_PastError :: bmP) C_BadOutcome := ⟨⟨iC_BadOutcome, ga_BadOutcome, gg_BadOutcome, eC_BadOutcome, ja_BadOutcome, jn, jt, jm_BadOutcome⟩, tC_BadOutcome, sub_exc xL_BadOutcome⟩
  have O_NoCell : OexC K C_NoCell := ⟨⟨_, _, _, _, _, _, _, _, _, _, _, _, _, _, _, xL_NoCell, by rfl⟩, sa_NoCell, eC_NoCell, tC_NoCell, kC_NoCell⟩
  have FXNoCell := fun_mk (st := s_NoCell___init__) lXNoCell cXNoCell kXNoCell
  have bXNoCell := FXNoCell.binds (ps := ["self", "value"]) fun _ _ _ _ _ _ => bdn2 fun _ _ => rfl
  have KXNoCell := bindKs_of FXNoCell (ps := ["self", "value"]) (ks := ["value"]) fun _ _ _ _ _ _ _ us hl => match us, hl with | [_], _ => rfl
  have V_NoCell : ExVDef l.prog w K mg base 1 "NoCell" "value" okV C_NoCell := ⟨O_NoCell, ⟨fXNoCell, _, aXNoCell, tXNoCell, ok_NoCell_init (P := l.prog) (w := w) (base := base) hsm FXNoCell O_NoCell nf_NoCell (PySem.W.mg_of X G aX_PastError) rB_PastError gB_PastError fB_PastError, bXNoCell, KXNoCell⟩, PySem.W.mg_of X G aX_NoCell, ⟨ga_NoCell, gg_NoCell, eC_NoCell, hC_NoCell⟩, nf_NoCell⟩
  have E_NoCell : ExCls K (.ref C_PastError :: bmP) C_NoCell := ⟨⟨iC_NoCell, ga_NoCell, gg_NoCell, eC_NoCell, ja_NoCell, jn, jt, jm_NoCell⟩, tC_NoCell, sub_exc xL_NoCell⟩
  have O_BadText : OexC K C_BadText := ⟨⟨_, _, _, _, _, _, _, _, _, _, _, _, _, _, _, xL_BadText, by rfl⟩, sa_BadText, eC_BadText, tC_BadText, kC_BadText⟩
  have FXBadText := fun_mk (st := s_BadText___init__) lXBadText cXBadText kXBadText
  have bXBadText := FXBadText.binds (ps := ["self", "text"]) fun _ _ _ _ _ _ => bdn2 fun _ _ => rfl
  have KXBadText := bindKs_of FXBadText (ps := ["self", "text"]) (ks := ["text"]) fun _ _ _ _ _ _ _ us hl => match us, hl with | [_], _ => rfl
  have V_BadText : ExVDef l.prog w K mg base 1 "BadText" "text" okV C_BadText := ⟨O_BadText, ⟨fXBadText, _, aXBadText, tXBadText, ok_BadText_init (P := l.prog) (w := w) (base := base) hsm FXBadText O_BadText nf_BadText (PySem.W.mg_of X G aX_PastError) rB_PastError gB_PastError fB_PastError, bXBadText, KXBadText⟩, PySem.W.mg_of X G aX_BadText, ⟨ga_BadText, gg_BadText, eC_BadText, hC_BadText⟩, nf_BadText⟩
  have E_BadText : ExCls K (.ref C_PastError :: bmP) C_BadText := ⟨⟨iC_BadText, ga_BadText, gg_BadText, eC_BadText, ja_BadText, jn, jt, jm_BadText⟩, tC_BadText, sub_exc xL_BadText⟩
  have O_BadLine : OexC K C_BadLine := ⟨⟨_, _, _, _, _, _, _, _, _, _, _, _, _, _, _, xL_BadLine, by rfl⟩, sa_BadLine, eC_BadLine, tC_BadLine, kC_BadLine⟩
  have FXBadLine := fun_mk (st := s_BadLine___init__) lXBadLine cXBadLine kXBadLine
  have bXBadLine := FXBadLine.binds (ps := ["self", "line"]) fun _ _ _ _ _ _ => bdn2 fun _ _ => rfl
  have KXBadLine := bindKs_of FXBadLine (ps := ["self", "line"]) (ks := ["line"]) fun _ _ _ _ _ _ _ us hl => match us, hl with | [_], _ => rfl
  have V_BadLine : ExVDef l.prog w K mg base 1 "BadLine" "line" okV C_BadLine := ⟨O_BadLine, ⟨fXBadLine, _, aXBadLine, tXBadLine, ok_BadLine_init (P := l.prog) (w := w) (base := base) hsm FXBadLine O_BadLine nf_BadLine (PySem.W.mg_of X G aX_PastError) rB_PastError gB_PastError fB_PastError, bXBadLine, KXBadLine⟩, PySem.W.mg_of X G aX_BadLine, ⟨ga_BadLine, gg_BadLine, eC_BadLine, hC_BadLine⟩, nf_BadLine⟩
  have E_BadLine : ExCls K (.ref C_PastError :: bmP) C_BadLine := ⟨⟨iC_BadLine, ga_BadLine, gg_BadLine, eC_BadLine, ja_BadLine, jn, jt, jm_BadLine⟩, tC_BadLine, sub_exc xL_BadLine⟩
  have O_NothingToUndo : OexC K C_NothingToUndo := ⟨⟨_, _, _, _, _, _, _, _, _, _, _, _, _, _, _, xL_NothingToUndo, by rfl⟩, sa_NothingToUndo, eC_NothingToUndo, tC_NothingToUndo, kC_NothingToUndo⟩
  have FXNothingToUndo := fun_mk (st := s_NothingToUndo___init__) lXNothingToUndo cXNothingToUndo kXNothingToUndo
  have bXNothingToUndo := FXNothingToUndo.binds (ps := ["self"]) fun _ _ _ _ _ _ => bdn1 fun _ => rfl
  have V_NothingToUndo : ExV0Def l.prog w K mg base 1 "NothingToUndo" C_NothingToUndo := ⟨O_NothingToUndo, ⟨fXNothingToUndo, _, aXNothingToUndo, tXNothingToUndo, ok_NothingToUndo_init (P := l.prog) (w := w) (base := base) FXNothingToUndo O_NothingToUndo (PySem.W.mg_of X G aX_PastError) rB_PastError gB_PastError fB_PastError, bXNothingToUndo⟩, PySem.W.mg_of X G aX_NothingToUndo⟩
  have E_NothingToUndo : ExCls K (.ref C_PastError :: bmP) C_NothingToUndo := ⟨⟨iC_NothingToUndo, ga_NothingToUndo, gg_NothingToUndo, eC_NothingToUndo, ja_NothingToUndo, jn, jt, jm_NothingToUndo⟩, tC_NothingToUndo, sub_exc xL_NothingToUndo⟩
  have O_NoPredictor : OexC K C_NoPredictor := ⟨⟨_, _, _, _, _, _, _, _, _, _, _, _, _, _, _, xL_NoPredictor, by rfl⟩, sa_NoPredictor, eC_NoPredictor, tC_NoPredictor, kC_NoPredictor⟩
  have FXNoPredictor := fun_mk (st := s_NoPredictor___init__) lXNoPredictor cXNoPredictor kXNoPredictor
  have bXNoPredictor := FXNoPredictor.binds (ps := ["self"]) fun _ _ _ _ _ _ => bdn1 fun _ => rfl
  have V_NoPredictor : ExV0Def l.prog w K mg base 1 "NoPredictor" C_NoPredictor := ⟨O_NoPredictor, ⟨fXNoPredictor, _, aXNoPredictor, tXNoPredictor, ok_NoPredictor_init (P := l.prog) (w := w) (base := base) FXNoPredictor O_NoPredictor (PySem.W.mg_of X G aX_PastError) rB_PastError gB_PastError fB_PastError, bXNoPredictor⟩, PySem.W.mg_of X G aX_NoPredictor⟩
  have E_NoPredictor : ExCls K (.ref C_PastError :: bmP) C_NoPredictor := ⟨⟨iC_NoPredictor, ga_NoPredictor, gg_NoPredictor, eC_NoPredictor, ja_NoPredictor, jn, jt, jm_NoPredictor⟩, tC_NoPredictor, sub_exc xL_NoPredictor⟩
  have O_NoTrace : OexC K C_NoTrace := ⟨⟨_, _, _, _, _, _, _, _, _, _, _, _, _, _, _, xL_NoTrace, by rfl⟩, sa_NoTrace, eC_NoTrace, tC_NoTrace, kC_NoTrace⟩
  have FXNoTrace := fun_mk (st := s_NoTrace___init__) lXNoTrace cXNoTrace kXNoTrace
  have bXNoTrace := FXNoTrace.binds (ps := ["self"]) fun _ _ _ _ _ _ => bdn1 fun _ => rfl
  have V_NoTrace : ExV0Def l.prog w K mg base 1 "NoTrace" C_NoTrace := ⟨O_NoTrace, ⟨fXNoTrace, _, aXNoTrace, tXNoTrace, ok_NoTrace_init (P := l.prog) (w := w) (base := base) FXNoTrace O_NoTrace (PySem.W.mg_of X G aX_PastError) rB_PastError gB_PastError fB_PastError, bXNoTrace⟩, PySem.W.mg_of X G aX_NoTrace⟩
  have E_NoTrace : ExCls K (.ref C_PastError :: bmP) C_NoTrace := ⟨⟨iC_NoTrace, ga_NoTrace, gg_NoTrace, eC_NoTrace, ja_NoTrace, jn, jt, jm_NoTrace⟩, tC_NoTrace, sub_exc xL_NoTrace⟩
  have hCs : ∀ C ∈ ([C_NoBranch, C_TooShort, C_TooLong, C_TooManyBranches, C_BadScheme, C_BadCounter, C_BadBranch, C_BadOutcome, C_NoCell, C_BadText, C_BadLine, C_NothingToUndo, C_NoPredictor, C_NoTrace] : List Addr), ExCls K (.ref C_PastError :: bmP) C := (List.forall_mem_cons.mpr ⟨E_NoBranch, (List.forall_mem_cons.mpr ⟨E_TooShort, (List.forall_mem_cons.mpr ⟨E_TooLong, (List.forall_mem_cons.mpr ⟨E_TooManyBranches, (List.forall_mem_cons.mpr ⟨E_BadScheme, (List.forall_mem_cons.mpr ⟨E_BadCounter, (List.forall_mem_cons.mpr ⟨E_BadBranch, (List.forall_mem_cons.mpr ⟨E_BadOutcome, (List.forall_mem_cons.mpr ⟨E_NoCell, (List.forall_mem_cons.mpr ⟨E_BadText, (List.forall_mem_cons.mpr ⟨E_BadLine, (List.forall_mem_cons.mpr ⟨E_NothingToUndo, (List.forall_mem_cons.mpr ⟨E_NoPredictor, (List.forall_mem_cons.mpr ⟨E_NoTrace, (fun _ h => absurd h List.not_mem_nil)⟩)⟩)⟩)⟩)⟩)⟩)⟩)⟩)⟩)⟩)⟩)⟩)⟩)⟩)
  have XA : XAll l.prog w K mg base C_NoBranch C_TooShort C_TooLong C_TooManyBranches C_BadScheme C_BadCounter C_BadBranch C_BadOutcome C_NoCell C_BadText C_BadLine C_NothingToUndo C_NoPredictor C_NoTrace C_PastError := { v_NoBranch := V_NoBranch, v_TooShort := V_TooShort, v_TooLong := V_TooLong, v_TooManyBranches := V_TooManyBranches, v_BadScheme := V_BadScheme, v_BadCounter := V_BadCounter, v_BadBranch := V_BadBranch, v_BadOutcome := V_BadOutcome, v_NoCell := V_NoCell, v_BadText := V_BadText, v_BadLine := V_BadLine, z_NothingToUndo := V_NothingToUndo, z_NoPredictor := V_NoPredictor, z_NoTrace := V_NoTrace, i_NoBranch := isAll_mk ndX hCs E_PastError (j := 0) rfl, i_TooShort := isAll_mk ndX hCs E_PastError (j := 1) rfl, i_TooLong := isAll_mk ndX hCs E_PastError (j := 2) rfl, i_TooManyBranches := isAll_mk ndX hCs E_PastError (j := 3) rfl, i_BadScheme := isAll_mk ndX hCs E_PastError (j := 4) rfl, i_BadCounter := isAll_mk ndX hCs E_PastError (j := 5) rfl, i_BadBranch := isAll_mk ndX hCs E_PastError (j := 6) rfl, i_BadOutcome := isAll_mk ndX hCs E_PastError (j := 7) rfl, i_NoCell := isAll_mk ndX hCs E_PastError (j := 8) rfl, i_BadText := isAll_mk ndX hCs E_PastError (j := 9) rfl, i_BadLine := isAll_mk ndX hCs E_PastError (j := 10) rfl, i_NothingToUndo := isAll_mk ndX hCs E_PastError (j := 11) rfl, i_NoPredictor := isAll_mk ndX hCs E_PastError (j := 12) rfl, i_NoTrace := isAll_mk ndX hCs E_PastError (j := 13) rfl, g_NoBranch := PySem.W.mg_of X G aX_NoBranch, g_TooShort := PySem.W.mg_of X G aX_TooShort, g_TooLong := PySem.W.mg_of X G aX_TooLong, g_TooManyBranches := PySem.W.mg_of X G aX_TooManyBranches, g_BadScheme := PySem.W.mg_of X G aX_BadScheme, g_BadCounter := PySem.W.mg_of X G aX_BadCounter, g_BadBranch := PySem.W.mg_of X G aX_BadBranch, g_BadOutcome := PySem.W.mg_of X G aX_BadOutcome, g_NoCell := PySem.W.mg_of X G aX_NoCell, g_BadText := PySem.W.mg_of X G aX_BadText, g_BadLine := PySem.W.mg_of X G aX_BadLine, g_NothingToUndo := PySem.W.mg_of X G aX_NothingToUndo, g_NoPredictor := PySem.W.mg_of X G aX_NoPredictor, g_NoTrace := PySem.W.mg_of X G aX_NoTrace, g_PastError := PySem.W.mg_of X G aX_PastError, i_PastError := isAll_P hCs E_PastError, i_ValueError := isAll_V hCs E_PastError, pI := xI_PastError, pK := kC_PastError }
  have F0 := fun_mk (st := s__law_take) l0 c0 k0
  have b0 := F0.binds (ps := ["_law_box_here", "_law_many"]) fun _ _ _ _ _ _ => bdn2 fun _ _ => rfl
  have D__law_take : Def l.prog w K mg base 1 "_law_take" ["_law_box_here", "_law_many"] spTake := ok__law_take F0 (PySem.W.mg_of X G a0) b0 
  have F1 := fun_mk (st := s__law_box) l1 c1 k1
  have b1 := F1.binds (ps := ["_law_script", "_law_k"]) fun _ _ _ _ _ _ => bdn2 fun _ _ => rfl
  have D__law_box : Def l.prog w K mg base 1 "_law_box" ["_law_script", "_law_k"] spBox := ok__law_box F1 (PySem.W.mg_of X G a1) b1 m_len m_abs m_int
  have F2 := fun_mk (st := s__law_of) l2 c2 k2
  have b2 := F2.binds (ps := ["_law_box_here", "_law_some"]) fun _ _ _ _ _ _ => bdn2 fun _ _ => rfl
  have D__law_of : Def l.prog w K mg base 2 "_law_of" ["_law_box_here", "_law_some"] spOf := ok__law_of F2 (PySem.W.mg_of X G a2) b2 m_len D__law_take
  have F3 := fun_mk (st := s__law_any) l3 c3 k3
  have b3 := F3.binds (ps := ["_law_box_here"]) fun _ _ _ _ _ _ => bdn1 fun _ => rfl
  have D__law_any : Def l.prog w K mg base 3 "_law_any" ["_law_box_here"] spAny := ok__law_any F3 (PySem.W.mg_of X G a3) b3 m_range D__law_of
  have F4 := fun_mk (st := s__law_kinds) l4 c4 k4
  have b4 := F4.binds (ps := ["_law_mistake"]) fun _ _ _ _ _ _ => bdn1 fun _ => rfl
  have D__law_kinds : DefM l.prog w K mg base 1 "_law_kinds" ["_law_mistake"] (spKinds [C_NoBranch,C_TooShort,C_TooLong,C_TooManyBranches,C_BadScheme,C_BadCounter,C_BadBranch,C_BadOutcome,C_NoCell,C_BadText,C_BadLine,C_NothingToUndo,C_NoPredictor,C_NoTrace,C_PastError]) := ok__law_kinds F4 (PySem.W.mg_of X G a4) b4 m_isinstance XA
  have F5 := fun_mk (st := s__law_by_place) l5 c5 k5
  have b5 := F5.binds (ps := ["_law_thing"]) fun _ _ _ _ _ _ => bdn1 fun _ => rfl
  have D__law_by_place : DefM l.prog w K mg base 3 "_law_by_place" ["_law_thing"] (spMade [C_NoBranch,C_TooShort,C_TooLong,C_TooManyBranches,C_BadScheme,C_BadCounter,C_BadBranch,C_BadOutcome,C_NoCell,C_BadText,C_BadLine,C_NothingToUndo,C_NoPredictor,C_NoTrace,C_PastError]) := ok__law_by_place F5 (PySem.W.mg_of X G a5) b5 XA
  have F6 := fun_mk (st := s__law_by_name) l6 c6 k6
  have b6 := F6.binds (ps := ["_law_thing"]) fun _ _ _ _ _ _ => bdn1 fun _ => rfl
  have D__law_by_name : DefM l.prog w K mg base 3 "_law_by_name" ["_law_thing"] (spMade [C_NoBranch,C_TooShort,C_TooLong,C_TooManyBranches,C_BadScheme,C_BadCounter,C_BadBranch,C_BadOutcome,C_NoCell,C_BadText,C_BadLine,C_NothingToUndo,C_NoPredictor,C_NoTrace,C_PastError]) := ok__law_by_name F6 (PySem.W.mg_of X G a6) b6 XA
  have F7 := fun_mk (st := s__law_kept) l7 c7 k7
  have b7 := F7.binds (ps := ["_law_some"]) fun _ _ _ _ _ _ => bdn1 fun _ => rfl
  have D__law_kept : DefM l.prog w K mg base 1 "_law_kept" ["_law_some"] (spKept [C_NoBranch,C_TooShort,C_TooLong,C_TooManyBranches,C_BadScheme,C_BadCounter,C_BadBranch,C_BadOutcome,C_NoCell,C_BadText,C_BadLine,C_NothingToUndo,C_NoPredictor,C_NoTrace,C_PastError]) := ok__law_kept F7 (PySem.W.mg_of X G a7) b7 XA
  have F8 := fun_mk (st := s__law_right) l8 c8 k8
  have b8 := F8.binds (ps := ["_law_thing"]) fun _ _ _ _ _ _ => bdn1 fun _ => rfl
  have D__law_right : Def l.prog w K mg base 4 "_law_right" ["_law_thing"] spRight := ok__law_right F8 (PySem.W.mg_of X G a8) b8 hsm m_enumerate m_isinstance m_ValueError m_range m_repr XA D__law_by_name D__law_by_place D__law_kinds D__law_kept
  have F9 := fun_mk (st := s_law) l9 c9 k9
  exact ok_law F9 m_range m_max m_min m_len m_all XA D__law_box D__law_right D__law_any D__law_kinds

end Lw
open PySem PySem.W PyProof.Rows in
set_option maxRecDepth 100000 in
set_option maxHeartbeats 0 in
theorem PySem.Challenge.cw_pastenough_k05_exceptions_made_holds : PySem.Challenge.rw_pastenough_k05_exceptions_made.Holds := by
  w_on; o_law; k_head; (case hw => w_witness2)
  k_fill
  refine Dl.walk_g (l := PySem.Challenge.rw_pastenough_k05_exceptions_made) (k := 5) (x := "_law_script") rfl rfl (by decide +kernel) ⟨rfl, by decide, by decide⟩ (fun w h Y => PySem.W.kIn_of Y) ?F
  case F =>
    intro w mg fa h KX G hmg
    refine' Lw.all_mk KX G hmg ?a0 ?l0 ?c0 ?k0 ?a1 ?l1 ?c1 ?k1 ?a2 ?l2 ?c2 ?k2 ?a3 ?l3 ?c3 ?k3 ?a4 ?l4 ?c4 ?k4 ?a5 ?l5 ?c5 ?k5 ?a6 ?l6 ?c6 ?k6 ?a7 ?l7 ?c7 ?k7 ?a8 ?l8 ?c8 ?k8 ?a9 ?l9 ?c9 ?k9 ?aX_PastError ?xL_PastError ?ga_PastError ?gg_PastError ?kC_PastError ?eC_PastError ?tC_PastError ?iC_PastError ?ja_PastError ?jm_PastError ?rB_PastError ?gB_PastError ?fB_PastError ?xI_PastError ?jn ?jt ?aX_NoBranch ?xL_NoBranch ?ga_NoBranch ?gg_NoBranch ?kC_NoBranch ?eC_NoBranch ?tC_NoBranch ?iC_NoBranch ?ja_NoBranch ?jm_NoBranch ?sa_NoBranch ?hC_NoBranch ?nf_NoBranch ?aXNoBranch ?tXNoBranch ?lXNoBranch ?cXNoBranch ?kXNoBranch ?aX_TooShort ?xL_TooShort ?ga_TooShort ?gg_TooShort ?kC_TooShort ?eC_TooShort ?tC_TooShort ?iC_TooShort ?ja_TooShort ?jm_TooShort ?sa_TooShort ?hC_TooShort ?nf_TooShort ?aXTooShort ?tXTooShort ?lXTooShort ?cXTooShort ?kXTooShort ?aX_TooLong ?xL_TooLong ?ga_TooLong ?gg_TooLong ?kC_TooLong ?eC_TooLong ?tC_TooLong ?iC_TooLong ?ja_TooLong ?jm_TooLong ?sa_TooLong ?hC_TooLong ?nf_TooLong ?aXTooLong ?tXTooLong ?lXTooLong ?cXTooLong ?kXTooLong ?aX_TooManyBranches ?xL_TooManyBranches ?ga_TooManyBranches ?gg_TooManyBranches ?kC_TooManyBranches ?eC_TooManyBranches ?tC_TooManyBranches ?iC_TooManyBranches ?ja_TooManyBranches ?jm_TooManyBranches ?sa_TooManyBranches ?hC_TooManyBranches ?nf_TooManyBranches ?aXTooManyBranches ?tXTooManyBranches ?lXTooManyBranches ?cXTooManyBranches ?kXTooManyBranches ?aX_BadScheme ?xL_BadScheme ?ga_BadScheme ?gg_BadScheme ?kC_BadScheme ?eC_BadScheme ?tC_BadScheme ?iC_BadScheme ?ja_BadScheme ?jm_BadScheme ?sa_BadScheme ?hC_BadScheme ?nf_BadScheme ?aXBadScheme ?tXBadScheme ?lXBadScheme ?cXBadScheme ?kXBadScheme ?aX_BadCounter ?xL_BadCounter ?ga_BadCounter ?gg_BadCounter ?kC_BadCounter ?eC_BadCounter ?tC_BadCounter ?iC_BadCounter ?ja_BadCounter ?jm_BadCounter ?sa_BadCounter ?hC_BadCounter ?nf_BadCounter ?aXBadCounter ?tXBadCounter ?lXBadCounter ?cXBadCounter ?kXBadCounter ?aX_BadBranch ?xL_BadBranch ?ga_BadBranch ?gg_BadBranch ?kC_BadBranch ?eC_BadBranch ?tC_BadBranch ?iC_BadBranch ?ja_BadBranch ?jm_BadBranch ?sa_BadBranch ?hC_BadBranch ?nf_BadBranch ?aXBadBranch ?tXBadBranch ?lXBadBranch ?cXBadBranch ?kXBadBranch ?aX_BadOutcome ?xL_BadOutcome ?ga_BadOutcome ?gg_BadOutcome ?kC_BadOutcome ?eC_BadOutcome ?tC_BadOutcome ?iC_BadOutcome ?ja_BadOutcome ?jm_BadOutcome ?sa_BadOutcome ?hC_BadOutcome ?nf_BadOutcome ?aXBadOutcome ?tXBadOutcome ?lXBadOutcome ?cXBadOutcome ?kXBadOutcome ?aX_NoCell ?xL_NoCell ?ga_NoCell ?gg_NoCell ?kC_NoCell ?eC_NoCell ?tC_NoCell ?iC_NoCell ?ja_NoCell ?jm_NoCell ?sa_NoCell ?hC_NoCell ?nf_NoCell ?aXNoCell ?tXNoCell ?lXNoCell ?cXNoCell ?kXNoCell ?aX_BadText ?xL_BadText ?ga_BadText ?gg_BadText ?kC_BadText ?eC_BadText ?tC_BadText ?iC_BadText ?ja_BadText ?jm_BadText ?sa_BadText ?hC_BadText ?nf_BadText ?aXBadText ?tXBadText ?lXBadText ?cXBadText ?kXBadText ?aX_BadLine ?xL_BadLine ?ga_BadLine ?gg_BadLine ?kC_BadLine ?eC_BadLine ?tC_BadLine ?iC_BadLine ?ja_BadLine ?jm_BadLine ?sa_BadLine ?hC_BadLine ?nf_BadLine ?aXBadLine ?tXBadLine ?lXBadLine ?cXBadLine ?kXBadLine ?aX_NothingToUndo ?xL_NothingToUndo ?ga_NothingToUndo ?gg_NothingToUndo ?kC_NothingToUndo ?eC_NothingToUndo ?tC_NothingToUndo ?iC_NothingToUndo ?ja_NothingToUndo ?jm_NothingToUndo ?sa_NothingToUndo ?hC_NothingToUndo ?aXNothingToUndo ?tXNothingToUndo ?lXNothingToUndo ?cXNothingToUndo ?kXNothingToUndo ?aX_NoPredictor ?xL_NoPredictor ?ga_NoPredictor ?gg_NoPredictor ?kC_NoPredictor ?eC_NoPredictor ?tC_NoPredictor ?iC_NoPredictor ?ja_NoPredictor ?jm_NoPredictor ?sa_NoPredictor ?hC_NoPredictor ?aXNoPredictor ?tXNoPredictor ?lXNoPredictor ?cXNoPredictor ?kXNoPredictor ?aX_NoTrace ?xL_NoTrace ?ga_NoTrace ?gg_NoTrace ?kC_NoTrace ?eC_NoTrace ?tC_NoTrace ?iC_NoTrace ?ja_NoTrace ?jm_NoTrace ?sa_NoTrace ?hC_NoTrace ?aXNoTrace ?tXNoTrace ?lXNoTrace ?cXNoTrace ?kXNoTrace ?ndX ?z_len ?z_abs ?z_int ?z_range ?z_isinstance ?z_enumerate ?z_ValueError ?z_repr ?z_max ?z_min ?z_all
    (case a0 => k_is)
    (case l0 => k_is)
    (case c0 => k_is)
    (case k0 => k_is)
    (case a1 => k_is)
    (case l1 => k_is)
    (case c1 => k_is)
    (case k1 => k_is)
    (case a2 => k_is)
    (case l2 => k_is)
    (case c2 => k_is)
    (case k2 => k_is)
    (case a3 => k_is)
    (case l3 => k_is)
    (case c3 => k_is)
    (case k3 => k_is)
    (case a4 => k_is)
    (case l4 => k_is)
    (case c4 => k_is)
    (case k4 => k_is)
    (case a5 => k_is)
    (case l5 => k_is)
    (case c5 => k_is)
    (case k5 => k_is)
    (case a6 => k_is)
    (case l6 => k_is)
    (case c6 => k_is)
    (case k6 => k_is)
    (case a7 => k_is)
    (case l7 => k_is)
    (case c7 => k_is)
    (case k7 => k_is)
    (case a8 => k_is)
    (case l8 => k_is)
    (case c8 => k_is)
    (case k8 => k_is)
    (case a9 => k_is)
    (case l9 => k_is)
    (case c9 => k_is)
    (case k9 => k_is)
    (case aX_PastError => k_is)
    (case xL_PastError => k_is)
    (case ga_PastError => k_is)
    (case gg_PastError => k_is)
    (case kC_PastError => k_is)
    (case eC_PastError => k_is)
    (case tC_PastError => k_is)
    (case iC_PastError => k_is)
    (case ja_PastError => k_is)
    (case jm_PastError => k_is)
    (case rB_PastError => k_is)
    (case gB_PastError => k_is)
    (case fB_PastError => k_is)
    (case xI_PastError => kernel_rfl)
    (case jn => k_is)
    (case jt => k_is)
    (case aX_NoBranch => k_is)
    (case xL_NoBranch => k_is)
    (case ga_NoBranch => k_is)
    (case gg_NoBranch => k_is)
    (case kC_NoBranch => k_is)
    (case eC_NoBranch => k_is)
    (case tC_NoBranch => k_is)
    (case iC_NoBranch => k_is)
    (case ja_NoBranch => k_is)
    (case jm_NoBranch => k_is)
    (case sa_NoBranch => k_is)
    (case hC_NoBranch => k_is)
    (case nf_NoBranch => k_is)
    (case aXNoBranch => k_is)
    (case tXNoBranch => k_is)
    (case lXNoBranch => k_is)
    (case cXNoBranch => k_is)
    (case kXNoBranch => k_is)
    (case aX_TooShort => k_is)
    (case xL_TooShort => k_is)
    (case ga_TooShort => k_is)
    (case gg_TooShort => k_is)
    (case kC_TooShort => k_is)
    (case eC_TooShort => k_is)
    (case tC_TooShort => k_is)
    (case iC_TooShort => k_is)
    (case ja_TooShort => k_is)
    (case jm_TooShort => k_is)
    (case sa_TooShort => k_is)
    (case hC_TooShort => k_is)
    (case nf_TooShort => k_is)
    (case aXTooShort => k_is)
    (case tXTooShort => k_is)
    (case lXTooShort => k_is)
    (case cXTooShort => k_is)
    (case kXTooShort => k_is)
    (case aX_TooLong => k_is)
    (case xL_TooLong => k_is)
    (case ga_TooLong => k_is)
    (case gg_TooLong => k_is)
    (case kC_TooLong => k_is)
    (case eC_TooLong => k_is)
    (case tC_TooLong => k_is)
    (case iC_TooLong => k_is)
    (case ja_TooLong => k_is)
    (case jm_TooLong => k_is)
    (case sa_TooLong => k_is)
    (case hC_TooLong => k_is)
    (case nf_TooLong => k_is)
    (case aXTooLong => k_is)
    (case tXTooLong => k_is)
    (case lXTooLong => k_is)
    (case cXTooLong => k_is)
    (case kXTooLong => k_is)
    (case aX_TooManyBranches => k_is)
    (case xL_TooManyBranches => k_is)
    (case ga_TooManyBranches => k_is)
    (case gg_TooManyBranches => k_is)
    (case kC_TooManyBranches => k_is)
    (case eC_TooManyBranches => k_is)
    (case tC_TooManyBranches => k_is)
    (case iC_TooManyBranches => k_is)
    (case ja_TooManyBranches => k_is)
    (case jm_TooManyBranches => k_is)
    (case sa_TooManyBranches => k_is)
    (case hC_TooManyBranches => k_is)
    (case nf_TooManyBranches => k_is)
    (case aXTooManyBranches => k_is)
    (case tXTooManyBranches => k_is)
    (case lXTooManyBranches => k_is)
    (case cXTooManyBranches => k_is)
    (case kXTooManyBranches => k_is)
    (case aX_BadScheme => k_is)
    (case xL_BadScheme => k_is)
    (case ga_BadScheme => k_is)
    (case gg_BadScheme => k_is)
    (case kC_BadScheme => k_is)
    (case eC_BadScheme => k_is)
    (case tC_BadScheme => k_is)
    (case iC_BadScheme => k_is)
    (case ja_BadScheme => k_is)
    (case jm_BadScheme => k_is)
    (case sa_BadScheme => k_is)
    (case hC_BadScheme => k_is)
    (case nf_BadScheme => k_is)
    (case aXBadScheme => k_is)
    (case tXBadScheme => k_is)
    (case lXBadScheme => k_is)
    (case cXBadScheme => k_is)
    (case kXBadScheme => k_is)
    (case aX_BadCounter => k_is)
    (case xL_BadCounter => k_is)
    (case ga_BadCounter => k_is)
    (case gg_BadCounter => k_is)
    (case kC_BadCounter => k_is)
    (case eC_BadCounter => k_is)
    (case tC_BadCounter => k_is)
    (case iC_BadCounter => k_is)
    (case ja_BadCounter => k_is)
    (case jm_BadCounter => k_is)
    (case sa_BadCounter => k_is)
    (case hC_BadCounter => k_is)
    (case nf_BadCounter => k_is)
    (case aXBadCounter => k_is)
    (case tXBadCounter => k_is)
    (case lXBadCounter => k_is)
    (case cXBadCounter => k_is)
    (case kXBadCounter => k_is)
    (case aX_BadBranch => k_is)
    (case xL_BadBranch => k_is)
    (case ga_BadBranch => k_is)
    (case gg_BadBranch => k_is)
    (case kC_BadBranch => k_is)
    (case eC_BadBranch => k_is)
    (case tC_BadBranch => k_is)
    (case iC_BadBranch => k_is)
    (case ja_BadBranch => k_is)
    (case jm_BadBranch => k_is)
    (case sa_BadBranch => k_is)
    (case hC_BadBranch => k_is)
    (case nf_BadBranch => k_is)
    (case aXBadBranch => k_is)
    (case tXBadBranch => k_is)
    (case lXBadBranch => k_is)
    (case cXBadBranch => k_is)
    (case kXBadBranch => k_is)
    (case aX_BadOutcome => k_is)
    (case xL_BadOutcome => k_is)
    (case ga_BadOutcome => k_is)
    (case gg_BadOutcome => k_is)
    (case kC_BadOutcome => k_is)
    (case eC_BadOutcome => k_is)
    (case tC_BadOutcome => k_is)
    (case iC_BadOutcome => k_is)
    (case ja_BadOutcome => k_is)
    (case jm_BadOutcome => k_is)
    (case sa_BadOutcome => k_is)
    (case hC_BadOutcome => k_is)
    (case nf_BadOutcome => k_is)
    (case aXBadOutcome => k_is)
    (case tXBadOutcome => k_is)
    (case lXBadOutcome => k_is)
    (case cXBadOutcome => k_is)
    (case kXBadOutcome => k_is)
    (case aX_NoCell => k_is)
    (case xL_NoCell => k_is)
    (case ga_NoCell => k_is)
    (case gg_NoCell => k_is)
    (case kC_NoCell => k_is)
    (case eC_NoCell => k_is)
    (case tC_NoCell => k_is)
    (case iC_NoCell => k_is)
    (case ja_NoCell => k_is)
    (case jm_NoCell => k_is)
    (case sa_NoCell => k_is)
    (case hC_NoCell => k_is)
    (case nf_NoCell => k_is)
    (case aXNoCell => k_is)
    (case tXNoCell => k_is)
    (case lXNoCell => k_is)
    (case cXNoCell => k_is)
    (case kXNoCell => k_is)
    (case aX_BadText => k_is)
    (case xL_BadText => k_is)
    (case ga_BadText => k_is)
    (case gg_BadText => k_is)
    (case kC_BadText => k_is)
    (case eC_BadText => k_is)
    (case tC_BadText => k_is)
    (case iC_BadText => k_is)
    (case ja_BadText => k_is)
    (case jm_BadText => k_is)
    (case sa_BadText => k_is)
    (case hC_BadText => k_is)
    (case nf_BadText => k_is)
    (case aXBadText => k_is)
    (case tXBadText => k_is)
    (case lXBadText => k_is)
    (case cXBadText => k_is)
    (case kXBadText => k_is)
    (case aX_BadLine => k_is)
    (case xL_BadLine => k_is)
    (case ga_BadLine => k_is)
    (case gg_BadLine => k_is)
    (case kC_BadLine => k_is)
    (case eC_BadLine => k_is)
    (case tC_BadLine => k_is)
    (case iC_BadLine => k_is)
    (case ja_BadLine => k_is)
    (case jm_BadLine => k_is)
    (case sa_BadLine => k_is)
    (case hC_BadLine => k_is)
    (case nf_BadLine => k_is)
    (case aXBadLine => k_is)
    (case tXBadLine => k_is)
    (case lXBadLine => k_is)
    (case cXBadLine => k_is)
    (case kXBadLine => k_is)
    (case aX_NothingToUndo => k_is)
    (case xL_NothingToUndo => k_is)
    (case ga_NothingToUndo => k_is)
    (case gg_NothingToUndo => k_is)
    (case kC_NothingToUndo => k_is)
    (case eC_NothingToUndo => k_is)
    (case tC_NothingToUndo => k_is)
    (case iC_NothingToUndo => k_is)
    (case ja_NothingToUndo => k_is)
    (case jm_NothingToUndo => k_is)
    (case sa_NothingToUndo => k_is)
    (case hC_NothingToUndo => k_is)
    (case aXNothingToUndo => k_is)
    (case tXNothingToUndo => k_is)
    (case lXNothingToUndo => k_is)
    (case cXNothingToUndo => k_is)
    (case kXNothingToUndo => k_is)
    (case aX_NoPredictor => k_is)
    (case xL_NoPredictor => k_is)
    (case ga_NoPredictor => k_is)
    (case gg_NoPredictor => k_is)
    (case kC_NoPredictor => k_is)
    (case eC_NoPredictor => k_is)
    (case tC_NoPredictor => k_is)
    (case iC_NoPredictor => k_is)
    (case ja_NoPredictor => k_is)
    (case jm_NoPredictor => k_is)
    (case sa_NoPredictor => k_is)
    (case hC_NoPredictor => k_is)
    (case aXNoPredictor => k_is)
    (case tXNoPredictor => k_is)
    (case lXNoPredictor => k_is)
    (case cXNoPredictor => k_is)
    (case kXNoPredictor => k_is)
    (case aX_NoTrace => k_is)
    (case xL_NoTrace => k_is)
    (case ga_NoTrace => k_is)
    (case gg_NoTrace => k_is)
    (case kC_NoTrace => k_is)
    (case eC_NoTrace => k_is)
    (case tC_NoTrace => k_is)
    (case iC_NoTrace => k_is)
    (case ja_NoTrace => k_is)
    (case jm_NoTrace => k_is)
    (case sa_NoTrace => k_is)
    (case hC_NoTrace => k_is)
    (case aXNoTrace => k_is)
    (case tXNoTrace => k_is)
    (case lXNoTrace => k_is)
    (case cXNoTrace => k_is)
    (case kXNoTrace => k_is)
    (case ndX => decide)
    (case z_len => k_is)
    (case z_abs => k_is)
    (case z_int => k_is)
    (case z_range => k_is)
    (case z_isinstance => k_is)
    (case z_enumerate => k_is)
    (case z_ValueError => k_is)
    (case z_repr => k_is)
    (case z_max => k_is)
    (case z_min => k_is)
    (case z_all => k_is)
#print axioms PySem.Challenge.cw_pastenough_k05_exceptions_made_holds
