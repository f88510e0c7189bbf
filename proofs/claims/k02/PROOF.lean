import PyProof.Rows.All
import Wide.All
import OpenK.AllK
import Wide.FinOn
import HandS.ForMost
import HandS.Exc
import HandS.ExcOwn
import HandS.TryOnly
import HandS.WordsExc
import HandS.ExcInit
import HandS.CallSlots
import HandS.Deep
import HandS.IsInst
import HandS.Gcd
import HandS.Wide
import HandS.TupAny
import PyProof.ReprRoads
import KE.KDictKeyed
import KE.KDictDisplayH
import KE.KDictWalk
import KE.DataCmp
import HandS.WideBits
import HandS.Style
import KE.KRevSl
import HandS.Small
import PyProof.ReprLen
import KE.SortData
import KE.GoesEnum
import HandS.Conv
import KE.DataMinMax
import HandS.TupSets
import HandS.Strs
import HandS.SetFor
import PySem.Challenge.RW_heardagain_k02_points_and_voices
set_option Elab.async false
set_option linter.all false
set_option maxRecDepth 100000
set_option maxHeartbeats 4000000
/-! ### data in the abstract heap -/
namespace HA
open PySem PySem.Spec PyProof.Rows L2

def keyD : Key → PyData
  | .inl i => .int i
  | .inr x => .str x

mutual
/-- v stands for the datum in the frozen part F -/
inductive Rp (K : PySem.W.Frag) (F : Hp) : V → PyData → Prop
  | non : Rp K F .non .none
  | bl (b : Bool) : Rp K F (.bl b) (.bool b)
  | int (i : Int) : Rp K F (.int i) (.int i)
  | str (x : Str) : Rp K F (.str x) (.str x)
  | lst {a : Addr} {xs : List V} {ds : List PyData} : F a = some (.lst xs) → RpAll K F xs ds → Rp K F (.ref a) (.list ds)
  | tup {a : Addr} {xs : List V} {ds : List PyData} : SqT K F a xs → RpAll K F xs ds → Rp K F (.ref a) (.tuple ds)
  | dic {a : Addr} {kvs : List (Key × V)} {ds : List (PyData × PyData)} : F a = some (.dK kvs) → RpKv K F kvs ds → Rp K F (.ref a) (.dict ds)
inductive RpAll (K : PySem.W.Frag) (F : Hp) : List V → List PyData → Prop
  | nil : RpAll K F [] []
  | cons {v : V} {vs : List V} {d : PyData} {ds : List PyData} : Rp K F v d → RpAll K F vs ds → RpAll K F (v :: vs) (d :: ds)
inductive RpKv (K : PySem.W.Frag) (F : Hp) : List (Key × V) → List (PyData × PyData) → Prop
  | nil : RpKv K F [] []
  | cons {k : Key} {v : V} {kvs : List (Key × V)} {d : PyData} {ds : List (PyData × PyData)} : Rp K F v d → RpKv K F kvs ds → RpKv K F ((k, v) :: kvs) ((keyD k, d) :: ds)
end

section
variable {K : PySem.W.Frag} {F F' H : Hp}
theorem sqT_mono (e : Same F F') {a : Addr} {xs : List V} (h : SqT K F a xs) : SqT K F' a xs := by
  rcases h with (h | ⟨o, h⟩) | h
  · exact .inl (.inl (e _ _ h))
  · exact .inl (.inr ⟨o, e _ _ h⟩)
  · exact .inr h
theorem sqL_mono (e : Same F F') {a : Addr} {xs : List V} (h : SqL K F a xs) : SqL K F' a xs := by
  rcases h with (h | ⟨o, h⟩) | h
  · exact .inl (.inl (e _ _ h))
  · exact .inl (.inr ⟨o, e _ _ h⟩)
  · exact .inr h
mutual
theorem Rp.mono (e : Same F F') : ∀ {d : PyData} {v : V}, Rp K F v d → Rp K F' v d
  | .none, _, h => by cases h; exact .non
  | .bool _, _, h => by cases h; exact .bl _
  | .int _, _, h => by cases h; exact .int _
  | .str _, _, h => by cases h; exact .str _
  | .list ds, _, h => by
    cases h with
    | lst h1 h2 => exact .lst (e _ _ h1) (RpAll.mono e h2)
  | .tuple ds, _, h => by
    cases h with
    | tup h1 h2 => exact .tup (sqT_mono e h1) (RpAll.mono e h2)
  | .dict ds, _, h => by
    cases h with
    | dic h1 h2 => exact .dic (e _ _ h1) (RpKv.mono e h2)
theorem RpAll.mono (e : Same F F') : ∀ {ds : List PyData} {vs : List V}, RpAll K F vs ds → RpAll K F' vs ds
  | [], _, h => by cases h; exact .nil
  | _ :: _, _, h => by
    cases h with
    | cons h1 h2 => exact .cons (Rp.mono e h1) (RpAll.mono e h2)
theorem RpKv.mono (e : Same F F') : ∀ {ds : List (PyData × PyData)} {vs : List (Key × V)}, RpKv K F vs ds → RpKv K F' vs ds
  | [], _, h => by cases h; exact .nil
  | (_, _) :: _, _, h => by
    cases h with
    | cons h1 h2 => exact .cons (Rp.mono e h1) (RpKv.mono e h2)
end
theorem RpAll.length : ∀ {ds : List PyData} {vs : List V}, RpAll K F vs ds → vs.length = ds.length
  | [], _, h => by cases h; rfl
  | _ :: _, _, h => by
    cases h with
    | cons h1 h2 => simp [RpAll.length h2]
theorem RpAll.append : ∀ {ds es : List PyData} {vs ws : List V}, RpAll K F vs ds → RpAll K F ws es → RpAll K F (vs ++ ws) (ds ++ es)
  | [], _, _, _, h, g => by cases h; exact g
  | _ :: _, _, _, _, h, g => by
    cases h with
    | cons h1 h2 => exact .cons h1 (RpAll.append h2 g)
theorem RpAll.take : ∀ {ds : List PyData} {vs : List V} (n : Nat), RpAll K F vs ds → RpAll K F (vs.take n) (ds.take n)
  | _, _, 0, _ => .nil
  | [], _, _ + 1, h => by cases h; exact .nil
  | _ :: _, _, n + 1, h => by
    cases h with
    | cons h1 h2 => exact .cons h1 (RpAll.take n h2)
theorem RpAll.drop : ∀ {ds : List PyData} {vs : List V} (n : Nat), RpAll K F vs ds → RpAll K F (vs.drop n) (ds.drop n)
  | _, _, 0, h => h
  | [], _, _ + 1, h => by cases h; exact .nil
  | _ :: _, _, n + 1, h => by
    cases h with
    | cons h1 h2 => exact RpAll.drop n h2
theorem RpAll.reverse : ∀ {ds : List PyData} {vs : List V}, RpAll K F vs ds → RpAll K F vs.reverse ds.reverse
  | [], _, h => by cases h; exact .nil
  | _ :: _, _, h => by
    cases h with
    | cons h1 h2 =>
      rw [List.reverse_cons, List.reverse_cons]
      exact RpAll.append (RpAll.reverse h2) (.cons h1 .nil)
theorem RpAll.get : ∀ {ds : List PyData} {vs : List V} {i : Nat} {v : V}, RpAll K F vs ds → vs[i]? = some v → ∃ d, ds[i]? = some d ∧ Rp K F v d
  | [], _, _, _, h, e => by cases h; simp at e
  | d :: ds, _, i, v, h, e => by
    cases h with
    | cons h1 h2 =>
      cases i with
      | zero => simp at e; subst e; exact ⟨d, rfl, h1⟩
      | succ i => exact RpAll.get (i := i) h2 (by simpa using e)
theorem RpAll.getD : ∀ {ds : List PyData} {vs : List V} {i : Nat} {d : PyData}, RpAll K F vs ds → ds[i]? = some d → ∃ v, vs[i]? = some v ∧ Rp K F v d
  | [], _, _, _, h, e => by simp at e
  | d :: ds, _, i, v, h, e => by
    cases h with
    | cons h1 h2 =>
      cases i with
      | zero => simp at e; subst e; exact ⟨_, rfl, h1⟩
      | succ i => exact RpAll.getD (i := i) h2 (by simpa using e)
theorem RpAll.set {x : V} {d : PyData} (r : Rp K F x d) : ∀ {ds : List PyData} {vs : List V} (i : Nat), RpAll K F vs ds → RpAll K F (vs.set i x) (ds.set i d)
  | [], _, _, h => by cases h; exact .nil
  | _ :: _, _, 0, h => by
    cases h with
    | cons h1 h2 => exact .cons r h2
  | _ :: _, _, i + 1, h => by
    cases h with
    | cons h1 h2 => exact .cons h1 (RpAll.set r i h2)

/-- v can be read as the datum: its top in H, the rest frozen -/
inductive Rr (K : PySem.W.Frag) (F H : Hp) : V → PyData → Prop
  | fz {v : V} {d : PyData} : Rp K F v d → Rr K F H v d
  | lst {a : Addr} {xs : List V} {ds : List PyData} : H a = some (.lst xs) → RpAll K F xs ds → Rr K F H (.ref a) (.list ds)
  | dic {a : Addr} {kvs : List (Key × V)} {ds : List (PyData × PyData)} : H a = some (.dK kvs) → RpKv K F kvs ds → Rr K F H (.ref a) (.dict ds)
  | scr {a : Addr} {ns : List Int} : SqL K F a (ns.map V.int) → Rr K F H (.ref a) (.list (ns.map PyData.int))
theorem RpAll.ints : ∀ ns : List Int, RpAll K F (ns.map V.int) (ns.map PyData.int)
  | [] => .nil
  | n :: ns => .cons (.int n) (RpAll.ints ns)
theorem Rr.list (e : Same F H) {v : V} {ds : List PyData} (h : Rr K F H v (.list ds)) : ∃ a xs, v = .ref a ∧ SqL K H a xs ∧ RpAll K F xs ds := by
  cases h with
  | fz h => cases h with
    | lst h1 h2 => exact ⟨_, _, rfl, SqL.of (e _ _ h1), h2⟩
  | lst h1 h2 => exact ⟨_, _, rfl, SqL.of h1, h2⟩
  | scr h1 => exact ⟨_, _, rfl, sqL_mono e h1, RpAll.ints _⟩
theorem Rr.tuple {v : V} {ds : List PyData} (h : Rr K F H v (.tuple ds)) : ∃ a xs, v = .ref a ∧ SqT K F a xs ∧ RpAll K F xs ds := by
  cases h with
  | fz h => cases h with
    | tup h1 h2 => exact ⟨_, _, rfl, h1, h2⟩
theorem Rr.dict (e : Same F H) {v : V} {ds : List (PyData × PyData)} (h : Rr K F H v (.dict ds)) : ∃ a xs, v = .ref a ∧ H a = some (.dK xs) ∧ RpKv K F xs ds := by
  cases h with
  | fz h => cases h with
    | dic h1 h2 => exact ⟨_, _, rfl, e _ _ h1, h2⟩
  | dic h1 h2 => exact ⟨_, _, rfl, h1, h2⟩
theorem Rr.none {v : V} (h : Rr K F H v .none) : v = .non := by
  cases h with
  | fz h => cases h; rfl
theorem Rr.bool {v : V} {b : Bool} (h : Rr K F H v (.bool b)) : v = .bl b := by
  cases h with
  | fz h => cases h; rfl
theorem Rr.int {v : V} {b : Int} (h : Rr K F H v (.int b)) : v = .int b := by
  cases h with
  | fz h => cases h; rfl
theorem Rr.str {v : V} {b : Str} (h : Rr K F H v (.str b)) : v = .str b := by
  cases h with
  | fz h => cases h; rfl
end

/-! ### reading them in the model's heap -/
def noSys (_ : Cx) : Prop := True
section
variable {X : Cx} {pins : List (Addr × Obj)} {σ : List (Option V)} {H : Hp} {s : Shared}
mutual
theorem Rp.reads (I : Inv X pins σ H s) : ∀ (d : PyData) (v : V) (u : Value), Rp X.K H v d → RelV v u → ∃ as, Reads s.heap u d as
  | .none, _, _, h, r => by
    cases h
    cases r
    exact ⟨_, Reads.none⟩
  | .bool b, _, _, h, r => by
    cases h
    cases r
    exact ⟨_, Reads.bool b⟩
  | .int i, _, _, h, r => by
    cases h
    obtain ⟨t, rfl⟩ := r
    exact ⟨_, Reads.int i t⟩
  | .str x, _, _, h, r => by
    cases h
    obtain ⟨t, rfl⟩ := r
    exact ⟨_, Reads.str x t⟩
  | .list ds, _, _, h, r => by
    cases h with
    | lst hl ha =>
      cases r
      obtain ⟨its, rv, ⟨o, n, ho, hc, _, hd⟩, _⟩ := I.list (SqL.of hl)
      obtain ⟨as, hr⟩ := RpAll.reads I ds _ its ha rv
      exact ⟨_, Reads.list ho hc hd hr⟩
  | .tuple ds, _, _, h, r => by
    cases h with
    | tup hl ha =>
      cases r
      obtain ⟨its, rv, ⟨o, ho, hc, n, hd⟩, _⟩ := I.tuple hl
      obtain ⟨as, hr⟩ := RpAll.reads I ds _ its ha rv
      exact ⟨_, Reads.tuple ho hc hd hr⟩
  | .dict ds, _, _, h, r => by
    cases h with
    | dic hl ha =>
      cases r
      obtain ⟨_, _, vs, rk, o, es, ep, h1, h2, h3, h4, h5, _⟩ := I.hok _ _ hl
      obtain ⟨as, bs, r1, r2⟩ := RpKv.reads I ds _ vs es.toList ha rk h5
      exact ⟨_, Reads.dict h1 h2.1 h3 r1 r2⟩
theorem RpAll.reads (I : Inv X pins σ H s) : ∀ (ds : List PyData) (vs : List V) (us : List Value), RpAll X.K H vs ds → Vals vs us → ∃ as, ReadsAll s.heap us ds as
  | [], _, _, h, r => by
    cases h
    cases r
    exact ⟨_, ReadsAll.nil⟩
  | d :: ds, _, _, h, r => by
    cases h with
    | cons h1 h2 =>
      cases r with
      | cons r1 r2 =>
        obtain ⟨as, q1⟩ := Rp.reads I d _ _ h1 r1
        obtain ⟨bs, q2⟩ := RpAll.reads I ds _ _ h2 r2
        exact ⟨_, ReadsAll.cons q1 q2⟩
theorem RpKv.reads (I : Inv X pins σ H s) : ∀ (ds : List (PyData × PyData)) (kvs : List (Key × V)) (us : List (Key × Value)) (es : List DictEntry), RpKv X.K H kvs ds → KV kvs us → Pairs (mixKind X.prog X.w) es us →
    ∃ as bs, ReadsAll s.heap (es.map (·.key)) (ds.map (·.1)) as ∧ ReadsAll s.heap (es.map (·.val)) (ds.map (·.2)) bs
  | [], _, _, _, h, r, p => by
    cases h
    cases r
    cases p
    exact ⟨_, _, ReadsAll.nil, ReadsAll.nil⟩
  | (d1, d2) :: ds, _, _, _, h, r, p => by
    cases h with
    | cons h1 h2 =>
      cases r with
      | cons r1 r2 =>
        cases p with
        | cons p1 p2 p3 =>
          obtain ⟨re, rv⟩ := r1
          obtain ⟨as, bs, q1, q2⟩ := RpKv.reads I ds _ _ _ h2 r2 p3
          simp only at re
          subst re
          rw [← p2] at rv
          obtain ⟨cs, q3⟩ := Rp.reads I d2 _ _ h1 rv
          have hk := p1
          rw [mixKind_is] at hk
          rcases keyIs_shape hk with ⟨i, t, e1, e2⟩ | ⟨x, t, e1, e2⟩
          · rw [e1]
            refine ⟨[] ++ as, cs ++ bs, ?_, ?_⟩
            · rw [List.map_cons, List.map_cons, e2]
              exact ReadsAll.cons (Reads.int i t) q1
            · rw [List.map_cons, List.map_cons]
              exact ReadsAll.cons q3 q2
          · rw [e1]
            refine ⟨[] ++ as, cs ++ bs, ?_, ?_⟩
            · rw [List.map_cons, List.map_cons, e2]
              exact ReadsAll.cons (Reads.str x t) q1
            · rw [List.map_cons, List.map_cons]
              exact ReadsAll.cons q3 q2
end
/-! what repr makes of them: only the dicts have to stand elsewhere than sys.modules -/
mutual
theorem Rp.shows (I : Inv X pins σ H s) : ∀ (d : PyData) (v : V) (u : Value), Rp X.K H v d → RelV v u → d.showable = true → d.shown.length ≤ sizeLine → ∃ bs, ReadAtMost s.heap d.depth bs ∧ ReprK X.prog X.w bs s.heap d.depth u d.shown
  | .none, _, _, h, r, _, _ => by
    cases h
    cases r
    exact ⟨[], (fun _ h => nomatch h), .of_is ReprIs.none _ _ _⟩
  | .bool b, _, _, h, r, _, _ => by
    cases h
    cases r
    exact ⟨[], (fun _ h => nomatch h), .of_is (ReprIs.bool b) _ _ _⟩
  | .int i, _, _, h, r, hs, _ => by
    cases h
    obtain ⟨t, rfl⟩ := r
    exact ⟨[], (fun _ h => nomatch h), .of_is (ReprIs.int t (of_decide_eq_true hs)) _ _ _⟩
  | .str x, _, _, h, r, _, hz => by
    cases h
    obtain ⟨t, rfl⟩ := r
    exact ⟨[], (fun _ h => nomatch h), .of_is (ReprIs.str x t hz) _ _ _⟩
  | .list ds, _, _, h, r, hs, hz => by
    cases h with
    | lst hl ha =>
      rename_i a xs
      cases r
      obtain ⟨its, rv, ⟨o, n, h1, h2, _, h3⟩, _⟩ := I.list (SqL.of hl)
      have hz' : (listText (PyData.shownAll ds)).length ≤ sizeLine := hz
      obtain ⟨as, h4⟩ := RpAll.reads I ds _ its ha rv
      obtain ⟨bs, hb, hk⟩ := RpAll.shows I ds _ its ha rv hs fun t ht => Nat.le_trans (listText_mem_le ht) hz'
      have r0 : Reads s.heap (.ref a) (.list ds) _ := .list h1 h2 h3 h4
      have hna : a ∉ bs := not_mem_of_deeper r0 (Nat.lt_succ_self _) hb
      refine ⟨a :: bs, ReadAtMost.cons r0 (by simp only [PyData.depth]; omega) hb, ?_⟩
      cases its with
      | nil =>
        cases h4
        show ReprK _ _ _ _ _ _ (listText [])
        rw [listText_nil]
        exact ReprK.listEmpty h1 h2 h3
      | cons x l => exact ReprK.list h1 h2 h3 hna (by simpa using hk.length_eq) (fun i y e => hk.item i y (by simpa using e))
  | .tuple ds, _, _, h, r, hs, hz => by
    cases h with
    | tup hl ha =>
      rename_i a xs
      cases r
      obtain ⟨its, rv, ⟨o, h1, h2, n, h3⟩, _⟩ := I.tuple hl
      have hz' : (tupleText (PyData.shownAll ds)).length ≤ sizeLine := hz
      obtain ⟨as, h4⟩ := RpAll.reads I ds _ its ha rv
      obtain ⟨bs, hb, hk⟩ := RpAll.shows I ds _ its ha rv hs fun t ht => Nat.le_trans (tupleText_mem_le ht) hz'
      have r0 : Reads s.heap (.ref a) (.tuple ds) _ := .tuple h1 h2 h3 h4
      have hna : a ∉ bs := not_mem_of_deeper r0 (Nat.lt_succ_self _) hb
      exact ⟨a :: bs, ReadAtMost.cons r0 (by simp only [PyData.depth]; omega) hb, ReprK.tuple h1 h2 h3 hna hk⟩
  | .dict ds, _, _, h, r, hs, hz => by
    cases h with
    | dic hl ha =>
      rename_i a kvs
      cases r
      obtain ⟨_, hsys, vs, rk, o, es, ep, h1, h2, h3, _, h5, _⟩ := I.hok _ _ hl
      have hz' : (dictText (PyData.shownKv ds)).length ≤ sizeLine := hz
      obtain ⟨as, cs, q1, q2⟩ := RpKv.reads I ds _ vs es.toList ha rk h5
      obtain ⟨b1, b2, hb1, hb2, k1, k2⟩ := RpKv.shows I ds _ vs es.toList ha rk h5 hs fun t ht => Nat.le_trans (dictText_mem_le ht) hz'
      have r0 : Reads s.heap (.ref a) (.dict ds) _ := .dict h1 h2.1 h3 q1 q2
      have hb : ReadAtMost s.heap (PyData.depthKv ds) (b1 ++ b2) := (hb1.mono (PyData.depthAll_keys_le ds)).append (hb2.mono (PyData.depthAll_vals_le ds))
      have hna : a ∉ b1 ++ b2 := not_mem_of_deeper r0 (Nat.lt_succ_self _) hb
      refine ⟨a :: (b1 ++ b2), ReadAtMost.cons r0 (by simp only [PyData.depth]; omega) hb, ?_⟩
      simp only [PyData.depth, PyData.shown, PyData.shownKv_eq]
      exact ReprK.dict h1 h2.1 h3 hsys hna (ReprEntriesK.of_two es.toList _ _ (k1.more_le (fun b hb => List.mem_append_left _ hb) (PyData.depthAll_keys_le ds)) (k2.more_le (fun b hb => List.mem_append_right _ hb) (PyData.depthAll_vals_le ds)))
theorem RpAll.shows (I : Inv X pins σ H s) : ∀ (ds : List PyData) (vs : List V) (us : List Value), RpAll X.K H vs ds → Vals vs us → PyData.showableAll ds = true → (∀ t ∈ PyData.shownAll ds, t.length ≤ sizeLine) →
    ∃ bs, ReadAtMost s.heap (PyData.depthAll ds) bs ∧ ReprAllK X.prog X.w bs s.heap (PyData.depthAll ds) us (PyData.shownAll ds)
  | [], _, _, h, r, _, _ => by
    cases h
    cases r
    exact ⟨[], (fun _ h => nomatch h), .nil⟩
  | d :: ds, _, _, h, r, hs, hz => by
    cases h with
    | cons h1 h2 =>
      cases r with
      | cons r1 r2 =>
        have hs' : d.showable = true ∧ PyData.showableAll ds = true := by simpa [PyData.showableAll] using hs
        obtain ⟨b1, hb1, k1⟩ := Rp.shows I d _ _ h1 r1 hs'.1 (hz _ List.mem_cons_self)
        obtain ⟨b2, hb2, k2⟩ := RpAll.shows I ds _ _ h2 r2 hs'.2 fun t ht => hz t (List.mem_cons_of_mem _ ht)
        refine ⟨b1 ++ b2, (hb1.mono (Nat.le_max_left _ _)).append (hb2.mono (Nat.le_max_right _ _)), ?_⟩
        exact .cons ((k1.more fun b hb => List.mem_append_left _ hb).level_le (Nat.le_max_left _ _)) (k2.more_le (fun b hb => List.mem_append_right _ hb) (Nat.le_max_right _ _))
theorem RpKv.shows (I : Inv X pins σ H s) : ∀ (ds : List (PyData × PyData)) (kvs : List (Key × V)) (us : List (Key × Value)) (es : List DictEntry), RpKv X.K H kvs ds → KV kvs us → Pairs (mixKind X.prog X.w) es us → PyData.showableKv ds = true → (∀ t ∈ PyData.shownKv ds, t.length ≤ sizeLine) →
    ∃ b1 b2, ReadAtMost s.heap (PyData.depthAll (ds.map (·.1))) b1 ∧ ReadAtMost s.heap (PyData.depthAll (ds.map (·.2))) b2 ∧
      ReprAllK X.prog X.w b1 s.heap (PyData.depthAll (ds.map (·.1))) (es.map (·.key)) (PyData.shownAll (ds.map (·.1))) ∧ ReprAllK X.prog X.w b2 s.heap (PyData.depthAll (ds.map (·.2))) (es.map (·.val)) (PyData.shownAll (ds.map (·.2)))
  | [], _, _, _, h, r, p, _, _ => by
    cases h
    cases r
    cases p
    exact ⟨[], [], (fun _ h => nomatch h), (fun _ h => nomatch h), .nil, .nil⟩
  | (d1, d2) :: ds, _, _, _, h, r, p, hs, hz => by
    cases h with
    | @cons key v kvs _ _ h1 h2 =>
      cases r with
      | @cons _ kb _ us r1 r2 =>
        obtain ⟨kb, ub⟩ := kb
        cases p with
        | @cons en _ es _ p1 p2 p3 =>
          obtain ⟨re, rv⟩ := r1
          have hs' : ((keyD key).showable = true ∧ d2.showable = true) ∧ PyData.showableKv ds = true := by simpa [PyData.showableKv] using hs
          obtain ⟨b1, b2, hb1, hb2, k1, k2⟩ := RpKv.shows I ds _ _ _ h2 r2 p3 hs'.2 fun t ht => hz t (List.mem_cons_of_mem _ ht)
          have hlen := hz _ (List.mem_cons_self (a := (keyD key).shown ++ ": " ++ d2.shown) (l := PyData.shownKv ds))
          rw [strLen_append, strLen_append] at hlen
          have re : key = kb := re
          subst re
          have p2 : en.val = ub := p2
          have rv : RelV v ub := rv
          rw [← p2] at rv
          obtain ⟨c2, hc2, j2⟩ := Rp.shows I d2 _ _ h1 rv hs'.1.2 (by omega)
          have hk := p1
          rw [mixKind_is] at hk
          have fin : ∀ (kv : Value), ReprK X.prog X.w [] s.heap (keyD key).depth kv (keyD key).shown → ∃ b1 b2, ReadAtMost s.heap (PyData.depthAll (((keyD key, d2) :: ds).map (·.1))) b1 ∧ ReadAtMost s.heap (PyData.depthAll (((keyD key, d2) :: ds).map (·.2))) b2 ∧
              ReprAllK X.prog X.w b1 s.heap (PyData.depthAll (((keyD key, d2) :: ds).map (·.1))) (kv :: es.map (·.key)) (PyData.shownAll (((keyD key, d2) :: ds).map (·.1))) ∧
              ReprAllK X.prog X.w b2 s.heap (PyData.depthAll (((keyD key, d2) :: ds).map (·.2))) (en.val :: es.map (·.val)) (PyData.shownAll (((keyD key, d2) :: ds).map (·.2))) := fun kv j1 =>
            ⟨b1, c2 ++ b2, hb1.mono (Nat.le_max_right _ _), (hc2.mono (Nat.le_max_left _ _)).append (hb2.mono (Nat.le_max_right _ _)),
              .cons ((j1.more fun b hb => (nomatch hb)).level_le (Nat.le_max_left _ _)) (k1.more_le (fun b hb => hb) (Nat.le_max_right _ _)),
              .cons ((j2.more fun b hb => List.mem_append_left _ hb).level_le (Nat.le_max_left _ _)) (k2.more_le (fun b hb => List.mem_append_right _ hb) (Nat.le_max_right _ _))⟩
          rcases keyIs_shape hk with ⟨i, t, e1, e2⟩ | ⟨x, t, e1, e2⟩
          · have e1 : key = .inl i := e1
            subst e1
            refine fin en.key ?_
            rw [e2]
            exact .of_is (ReprIs.int t (of_decide_eq_true hs'.1.1)) _ _ _
          · have e1 : key = .inr x := e1
            subst e1
            refine fin en.key ?_
            rw [e2]
            exact .of_is (ReprIs.str x t (by have e : (keyD (.inr x)).shown = reprText x := rfl; rw [e] at hlen; omega)) _ _ _
end
theorem shows_list (I : Inv X pins σ H s) {a : Addr} {xs : List V} {ds : List PyData} (hl : SqL X.K H a xs) (ha : RpAll X.K H xs ds) (hs : (PyData.list ds).showable = true) (hz : (PyData.list ds).shown.length ≤ sizeLine) : ∃ T idr, ShowsBy X.prog X.w s.heap a (.list ds) T idr := by
  obtain ⟨its, rv, ⟨o, n, h1, h2, _, h3⟩, _⟩ := I.list hl
  have hz' : (listText (PyData.shownAll ds)).length ≤ sizeLine := hz
  obtain ⟨as, h4⟩ := RpAll.reads I ds _ its ha rv
  obtain ⟨bs, hb, hk⟩ := RpAll.shows I ds _ its ha rv hs fun t ht => Nat.le_trans (listText_mem_le ht) hz'
  have hna : a ∉ bs := not_mem_of_deeper (.list h1 h2 h3 h4) (by simp only [PyData.depth]; omega) hb
  refine ⟨"list", "list.__repr__", F.slot_list_repr.toG, F.slot_list_str, F.slot_list_format, fun s hk0 => ⟨o, hk0 _ _ h1, h2⟩, fun A E s Q hg hu hk0 hQ => ?_⟩
  have hu : A.units + (PyData.depthAll ds + 1) < cLine := hu
  have hQ : ∀ h' u tk, (∀ b o, s.heap.get? b = some o → h'.get? b = some o) → Q (.str (listText (PyData.shownAll ds)) u) { s with heap := h', toks := tk } := hQ
  cases its with
  | nil =>
    cases h4
    have e : listText (PyData.shownAll []) = ("[]" : Str) := listText_nil
    rw [e] at hQ
    exact call_list_repr_empty ⟨o, hk0 _ _ h1, h2⟩ (hk0 _ _ h1) h3 (hQ s.heap _ _ fun _ _ e => e)
  | cons x l => exact call_list_reprK h1 h2 h3 hna (by simpa using hk.length_eq) (fun i y e => hk.item i y (by simpa using e)) hg (fun b _ => Clear.nil b) hu hk0 hQ hz'
theorem shows_tup (I : Inv X pins σ H s) {a : Addr} {xs : List V} {ds : List PyData} (hl : SqT X.K H a xs) (ha : RpAll X.K H xs ds) (hs : (PyData.tuple ds).showable = true) (hz : (PyData.tuple ds).shown.length ≤ sizeLine) : ∃ T idr, ShowsBy X.prog X.w s.heap a (.tuple ds) T idr := by
  obtain ⟨its, rv, ⟨o, h1, h2, n, h3⟩, _⟩ := I.tuple hl
  have hz' : (tupleText (PyData.shownAll ds)).length ≤ sizeLine := hz
  obtain ⟨as, h4⟩ := RpAll.reads I ds _ its ha rv
  obtain ⟨bs, hb, hk⟩ := RpAll.shows I ds _ its ha rv hs fun t ht => Nat.le_trans (tupleText_mem_le ht) hz'
  have hna : a ∉ bs := not_mem_of_deeper (.tuple h1 h2 h3 h4) (by simp only [PyData.depth]; omega) hb
  refine ⟨"tuple", "tuple.__repr__", F.slot_tuple_repr, F.slot_tuple_str, F.slot_tuple_format, fun s hk0 => ⟨o, hk0 _ _ h1, h2⟩, fun A E s Q hg hu hk0 hQ => ?_⟩
  exact call_tuple_reprK h1 h2 h3 hna hk hg (fun b _ => Clear.nil b) hu hk0 hQ hz'
theorem shows_dic (I : Inv X pins σ H s) {a : Addr} {kvs : List (Key × V)} {ds : List (PyData × PyData)} (hl : H a = some (.dK kvs)) (ha : RpKv X.K H kvs ds) (hs : (PyData.dict ds).showable = true) (hz : (PyData.dict ds).shown.length ≤ sizeLine) : ∃ T idr, ShowsBy X.prog X.w s.heap a (.dict ds) T idr := by
  obtain ⟨_, hsys, vs, rk, o, es, ep, h1, h2, h3, _, h5, _⟩ := I.hok _ _ hl
  have hz' : (dictText (PyData.shownKv ds)).length ≤ sizeLine := hz
  obtain ⟨as, cs, q1, q2⟩ := RpKv.reads I ds _ vs es.toList ha rk h5
  obtain ⟨b1, b2, hb1, hb2, k1, k2⟩ := RpKv.shows I ds _ vs es.toList ha rk h5 hs fun t ht => Nat.le_trans (dictText_mem_le ht) hz'
  have hb : ReadAtMost s.heap (PyData.depthKv ds) (b1 ++ b2) := (hb1.mono (PyData.depthAll_keys_le ds)).append (hb2.mono (PyData.depthAll_vals_le ds))
  have hna : a ∉ b1 ++ b2 := not_mem_of_deeper (.dict h1 h2.1 h3 q1 q2) (by simp only [PyData.depth]; omega) hb
  refine ⟨"dict", "dict.__repr__", F.slot_dict_repr, F.slot_dict_str, F.slot_dict_format, fun s hk0 => ⟨o, hk0 _ _ h1, h2.1⟩, fun A E s Q hg hu hk0 hQ => ?_⟩
  have hu : A.units + (PyData.depthKv ds + 1) < cLine := hu
  have hQ : ∀ h' u tk, (∀ b o, s.heap.get? b = some o → h'.get? b = some o) → Q (.str (dictText (PyData.shownKv ds)) u) { s with heap := h', toks := tk } := hQ
  rw [PyData.shownKv_eq] at hQ
  exact call_dict_reprK h1 h2.1 h3 hsys hna (ReprEntriesK.of_two es.toList _ _ (k1.more_le (fun b hb => List.mem_append_left _ hb) (PyData.depthAll_keys_le ds)) (k2.more_le (fun b hb => List.mem_append_right _ hb) (PyData.depthAll_vals_le ds))) hg (fun b _ => Clear.nil b) hu hk0 hQ
    (by rw [← PyData.shownKv_eq]; exact hz')
theorem Rr.reads {F : Hp} (e : Same F H) (I : Inv X pins σ H s) {d : PyData} {v : V} {u : Value} (h : Rr X.K F H v d) (r : RelV v u) : ∃ as, Reads s.heap u d as := by
  cases h with
  | fz h => exact Rp.reads I d v u (h.mono e) r
  | lst h1 h2 => exact Rp.reads I _ _ u (.lst h1 (h2.mono e)) r
  | dic h1 h2 => exact Rp.reads I _ _ u (.dic h1 (h2.mono e)) r
  | scr h1 =>
    rename_i a ns
    have hl := sqL_mono e h1
    cases r
    obtain ⟨its, rv, ⟨o, n, ho, hc, _, hd⟩, _⟩ := I.list hl
    obtain ⟨as, hr⟩ := RpAll.reads I (ns.map PyData.int) _ its (RpAll.ints (F := H) ns) rv
    exact ⟨_, Reads.list ho hc hd hr⟩
end
end HA

namespace HA
open PySem PySem.Spec PyProof.Rows L2
abbrev Sg := List (Option V)

/-! ### what a law draws from: objects of its own that change -/
structure BoxKind where
  ok : Hp → Addr → List Addr → Prop
  loc : ∀ {H H' : Hp} {b : Addr} {l : List Addr}, ok H b l → (∀ a ∈ l, H' a = H a) → ok H' b l
  there : ∀ {H : Hp} {b : Addr} {l : List Addr}, ok H b l → ∀ a ∈ l, H a ≠ none

/-- F: what never changes again; b, l: the box and its objects ([]: none is there) -/
structure AS where
  F : Hp
  b : Addr
  l : List Addr

structure AOk (bk : BoxKind) (S : AS) (H : Hp) : Prop where
  sub : Same S.F H
  out : ∀ a ∈ S.l, S.F a = none
  box : S.l = [] ∨ bk.ok H S.b S.l

structure Ext (bk : BoxKind) (S S' : AS) (H H' : Hp) : Prop where
  fz : Same S.F S'.F
  nw : ∀ a, S.F a = none → S'.F a ≠ none → H a = none
  eb : S'.b = S.b
  el : S'.l = S.l
  kp : ∀ a o, H a = some o → a ∉ S.l → H' a = some o
  ok : AOk bk S' H'

section
variable {bk : BoxKind} {S S' S'' : AS} {H H' H'' : Hp}
theorem AOk.there (x : AOk bk S H) {a : Addr} (h : a ∈ S.l) : H a ≠ none := by
  rcases x.box with e | e
  · rw [e] at h; cases h
  · exact bk.there e a h
/-- the box's part of AOk -/
def Bx (bk : BoxKind) (S : AS) (H : Hp) : Prop := S.l = [] ∨ bk.ok H S.b S.l
theorem Bx.there (x : Bx bk S H) {a : Addr} (h : a ∈ S.l) : H a ≠ none := by
  rcases x with e | e
  · rw [e] at h; cases h
  · exact bk.there e a h
theorem Ext.fr (e : Ext bk S S' H H') (x : Bx bk S H) {a : Addr} (h : H' a = none) : H a = none := by
  cases q : H a with
  | none => rfl
  | some o =>
    by_cases m : a ∈ S.l
    · rw [← e.el] at m
      exact absurd h (e.ok.there m)
    · rw [e.kp a o q m] at h; cases h
theorem Ext.tr (x : Bx bk S H) (e : Ext bk S S' H H') (f : Ext bk S' S'' H' H'') : Ext bk S S'' H H'' := by
  refine ⟨e.fz.trans f.fz, fun a h1 h2 => ?_, f.eb.trans e.eb, f.el.trans e.el, fun a o h m => f.kp a o (e.kp a o h m) (by rw [e.el]; exact m), f.ok⟩
  by_cases q : S'.F a = none
  · exact e.fr x (f.nw a q h2)
  · exact e.nw a h1 q
theorem AOk.fz (x : AOk bk S H) {a : Addr} {o : HO} (h : S.F a = some o) : a ∉ S.l := fun m => by
  rw [x.out a m] at h; cases h
theorem AOk.free (x : AOk bk S H) {a : Addr} (h : H a = none) : S.F a = none := Same.free x.sub h
theorem Ext.refl (x : AOk bk S H) : Ext bk S S H H := ⟨Same.refl _, fun _ h1 h2 => absurd h1 h2, rfl, rfl, fun _ _ h _ => h, x⟩
theorem Ext.free (e : Ext bk S S' H H') (x : AOk bk S H) {a : Addr} (h : H' a = none) : H a = none := by
  cases q : H a with
  | none => rfl
  | some o =>
    by_cases m : a ∈ S.l
    · rw [← e.el] at m
      exact absurd h (e.ok.there m)
    · rw [e.kp a o q m] at h; cases h
theorem Ext.trans (x : AOk bk S H) (e : Ext bk S S' H H') (f : Ext bk S' S'' H' H'') : Ext bk S S'' H H'' := by
  refine ⟨e.fz.trans f.fz, fun a h1 h2 => ?_, f.eb.trans e.eb, f.el.trans e.el, fun a o h m => f.kp a o (e.kp a o h m) (by rw [e.el]; exact m), f.ok⟩
  by_cases q : S'.F a = none
  · exact e.free x (f.nw a q h2)
  · exact e.nw a h1 q
/-- a new object that is frozen at once -/
theorem Ext.new (x : AOk bk S H) {p : Addr} {o : HO} (hp : H p = none) : Ext bk S { S with F := upd S.F p o } H (upd H p o) := by
  have fp : S.F p = none := x.free hp
  have lp : p ∉ S.l := fun m => x.there m hp
  refine ⟨fun a u h => ?_, fun a h1 h2 => ?_, rfl, rfl, fun a u h _ => ?_, ⟨fun a u h => ?_, fun a m => ?_, ?_⟩⟩
  · show upd S.F p o a = some u
    rw [upd_ne (ne_of_none h fp)]; exact h
  · by_cases e : a = p
    · rw [e]; exact hp
    · exact absurd (show upd S.F p o a = none by rw [upd_ne e]; exact h1) h2
  · rw [upd_ne (ne_of_none h hp)]; exact h
  · show upd H p o a = some u
    by_cases e : a = p
    · subst e
      have h' : upd S.F a o a = some u := h
      rw [upd_same] at h'
      rw [upd_same]; exact h'
    · have h' : upd S.F p o a = some u := h
      rw [upd_ne e] at h'
      rw [upd_ne e]; exact x.sub a u h'
  · show upd S.F p o a = none
    rw [upd_ne (show a ≠ p from fun e => lp (by rw [← e]; exact m))]; exact x.out a m
  · rcases x.box with e | e
    · exact .inl e
    · exact .inr (bk.loc e fun a m => upd_ne fun z => lp (z ▸ m))
/-- a new object that may still be changed -/
theorem Ext.laid (x : AOk bk S H) {p : Addr} {o : HO} (hp : H p = none) : Ext bk S S H (upd H p o) := by
  have lp : p ∉ S.l := fun m => x.there m hp
  refine ⟨Same.refl _, fun a h1 h2 => absurd h1 h2, rfl, rfl, fun a u h _ => ?_, ⟨fun a u h => ?_, x.out, ?_⟩⟩
  · rw [upd_ne (ne_of_none h hp)]; exact h
  · have h' := x.sub a u h
    rw [upd_ne (ne_of_none h' hp)]; exact h'
  · rcases x.box with e | e
    · exact .inl e
    · exact .inr (bk.loc e fun a m => upd_ne fun z => lp (z ▸ m))
end

/-! ### a dict whose keys are tuples of numbers, None and such tuples -/
mutual
/-- no text in it -/
def ntf : NestedKey → Bool
  | .none => true
  | .num _ => true
  | .text _ => false
  | .tup ks => ntfs ks
def ntfs : List NestedKey → Bool
  | [] => true
  | k :: ks => ntf k && ntfs ks
end
mutual
def nh : NestedKey → Int
  | .none => reduceHash 0xFCA86420
  | .num i => hashInt i
  | .text _ => 0
  | .tup ks => reduceHash (Builtin.Tuple.tupleHashOf (nhs ks))
def nhs : List NestedKey → List Int
  | [] => []
  | k :: ks => nh k :: nhs ks
end
mutual
theorem nh_eq (w : World) : ∀ k : NestedKey, ntf k = true → k.hash w = nh k
  | .none, _ => by simp only [NestedKey.hash, nh]
  | .num i, _ => by simp only [NestedKey.hash, nh]
  | .text _, h => by simp [ntf] at h
  | .tup ks, h => by
    simp only [NestedKey.hash, nh]
    rw [nhs_eq w ks (by simpa [ntf] using h)]
theorem nhs_eq (w : World) : ∀ ks : List NestedKey, ntfs ks = true → NestedKey.hashes w ks = nhs ks
  | [], _ => by simp only [NestedKey.hashes, nhs]
  | k :: ks, h => by
    have h' : ntf k = true ∧ ntfs ks = true := by simpa [ntfs] using h
    simp only [NestedKey.hashes, nhs]
    rw [nh_eq w k h'.1, nhs_eq w ks h'.2]
end
mutual
/-- the key that a datum is -/
def nk : PyData → Option NestedKey
  | .none => some .none
  | .int i => some (.num i)
  | .tuple xs => (nks xs).map .tup
  | _ => none
def nks : List PyData → Option (List NestedKey)
  | [] => some []
  | x :: xs => (nk x).bind fun k => (nks xs).map (k :: ·)
end
def dtRaw (a : Addr) (xs : List (NestedKey × Addr × V)) (h : Heap) : Prop := (a == sysModules) = false ∧ ∃ us : List (NestedKey × Addr × Value), Paired (fun (p : NestedKey × Addr × V) (q : NestedKey × Addr × Value) => p.1 = q.1 ∧ p.2.1 = q.2.1 ∧ RelV p.2.2 q.2.2) xs us ∧
  ∃ o es ep, h.get? a = some o ∧ o.ExactDict ∧ o.data = .dict es ep ∧ es.toList = us.map (fun x => ⟨nh x.1, .ref x.2.1, x.2.2⟩) ∧ (us.map (·.1)).Nodup
def dtObj (a : Addr) (xs : List (NestedKey × Addr × V)) : HO := .ext (dtRaw a xs)
/-- the entries stand for the data -/
inductive RpDt (K : PySem.W.Frag) (F : Hp) : List (NestedKey × Addr × V) → List (PyData × PyData) → Prop
  | nil : RpDt K F [] []
  | cons {k : NestedKey} {q : Addr} {v : V} {vs : List (NestedKey × Addr × V)} {kd d : PyData} {ds : List (PyData × PyData)} : nk kd = some k → k.depth ≤ 8 → Rp K F (.ref q) kd → Rp K F v d → RpDt K F vs ds → RpDt K F ((k, q, v) :: vs) ((kd, d) :: ds)
theorem RpDt.mono {K : PySem.W.Frag} {F F' : Hp} (e : Same F F') : ∀ {vs : List (NestedKey × Addr × V)} {ds : List (PyData × PyData)}, RpDt K F vs ds → RpDt K F' vs ds
  | _, _, .nil => .nil
  | _, _, .cons h1 h2 h3 h4 t => .cons h1 h2 (h3.mono e) (h4.mono e) (RpDt.mono e t)

/-! ### results -/
/-- an object that is still to be changed -/
inductive Ow where
  | lst (xs : List PyData)
  | dic (kvs : List (PyData × PyData))
  /-- a dict whose keys are tuples -/
  | dtn (kvs : List (PyData × PyData))
/-- what an expression gives: a datum; a new object; one that a name owns; the box -/
inductive RV where
  | d (x : PyData)
  | own (o : Ow)
  | bor (o : Ow)
  | box
  | scr (ns : List Int)
abbrev En := List (Option RV)
structure Err where
  cls : Str
  arg : Option (Str × PyData)

def Ow.dat : Ow → PyData
  | .lst xs => .list xs
  | .dic kvs => .dict kvs
  | .dtn kvs => .dict kvs
/-- it can be read as a datum, and frozen -/
def Ow.pl : Ow → Bool
  | .lst _ => true
  | .dic _ => true
  | .dtn _ => false
def Ow.rd (o : Ow) (k : PyData → Prop) : Prop := match o with
  | .lst xs => k (.list xs)
  | .dic kvs => k (.dict kvs)
  | .dtn _ => False
theorem Ow.rd_pl {o : Ow} {k : PyData → Prop} (h : o.rd k) : o.pl = true ∧ k o.dat := by
  cases o with
  | lst xs => exact ⟨rfl, h⟩
  | dic xs => exact ⟨rfl, h⟩
  | dtn xs => exact h.elim
/-- read as a datum -/
def RV.use (r : RV) (k : PyData → Prop) : Prop := match r with
  | .d x => k x
  | .own o => o.rd k
  | .bor o => o.rd k
  | .box => False
  | .scr ns => k (.list (ns.map PyData.int))
/-- handed on: a new object is frozen -/
def RV.arg (r : RV) (k : RV → Prop) : Prop := match r with
  | .d x => k (.d x)
  | .own o => o.rd fun x => k (.d x)
  | .bor _ => False
  | .box => k .box
  | .scr ns => k (.scr ns)
def RV.dat (r : RV) (k : PyData → Prop) : Prop := match r with
  | .d x => k x
  | .own o => o.rd k
  | .bor _ => False
  | .box => False
  | .scr _ => False

section
variable (K : PySem.W.Frag)
def OwR (F H : Hp) (a : Addr) : Ow → Prop
  | .lst xs => ∃ vs, H a = some (.lst vs) ∧ RpAll K F vs xs
  | .dic ks => ∃ vs, H a = some (.dK vs) ∧ RpKv K F vs ks
  | .dtn ks => ∃ vs, H a = some (dtObj a vs) ∧ RpDt K F vs ks
/-- H: ahead, H': behind -/
def RRes (S' : AS) (H H' : Hp) (v : V) : RV → Prop
  | .d x => Rp K S'.F v x
  | .own o => ∃ a, v = .ref a ∧ H a = none ∧ a ∉ S'.l ∧ S'.F a = none ∧ OwR K S'.F H' a o
  | .bor o => ∃ a, v = .ref a ∧ a ∉ S'.l ∧ S'.F a = none ∧ OwR K S'.F H' a o
  | .box => S'.l ≠ [] ∧ v = .ref S'.b
  | .scr ns => ∃ a, v = .ref a ∧ SqL K S'.F a (ns.map V.int)
/-- what a slot holds; Hz: the heap at the def's entry -/
def RSlot (S : AS) (Hz H : Hp) (v : V) : RV → Prop
  | .d x => Rp K S.F v x
  | .own o => ∃ a, v = .ref a ∧ Hz a = none ∧ a ∉ S.l ∧ S.F a = none ∧ OwR K S.F H a o
  | .bor _ => False
  | .box => S.l ≠ [] ∧ v = .ref S.b
  | .scr ns => ∃ a, v = .ref a ∧ SqL K S.F a (ns.map V.int)
structure Abs (S : AS) (Hz H : Hp) (σ : Sg) (env : En) : Prop where
  len : env.length = σ.length
  at_ : ∀ (i : Nat) (r : RV), env[i]? = some (some r) → ∃ v : V, σ[i]? = some (some v) ∧ RSlot K S Hz H v r
  ap : ∀ (i j : Nat) (o o' : Ow) (v : V), i ≠ j → env[i]? = some (some (.own o)) → env[j]? = some (some (.own o')) → σ[i]? = some (some v) → σ[j]? ≠ some (some v)
def ErrR (mg : Str → Option Value) (S : AS) (H : Hp) (cls : Value) (d : Option Addr) (e : Err) : Prop :=
  ∃ C, mg e.cls = some (.ref C) ∧ cls = .ref C ∧ match e.arg with
    | none => d = none
    | some (f, x) => ∃ dx v, d = some dx ∧ H dx = some (.xd [(f, v)]) ∧ Rp K S.F v x
end

section
variable {K : PySem.W.Frag} {bk : BoxKind} {S S' S'' : AS} {Hz H H' H'' : Hp} {σ : Sg} {env : En} {v : V}
theorem OwR.mono (e : Same S.F S'.F) {a : Addr} {o : Ow} (h : OwR K S.F H a o) (k : ∀ u, H a = some u → H' a = some u) : OwR K S'.F H' a o := by
  cases o with
  | lst xs => obtain ⟨vs, h1, h2⟩ := h; exact ⟨vs, k _ h1, h2.mono e⟩
  | dic ks => obtain ⟨vs, h1, h2⟩ := h; exact ⟨vs, k _ h1, h2.mono e⟩
  | dtn ks => obtain ⟨vs, h1, h2⟩ := h; exact ⟨vs, k _ h1, h2.mono e⟩
theorem OwR.there {a : Addr} {o : Ow} (h : OwR K S.F H a o) : ∃ u, H a = some u := by
  cases o with
  | lst xs => obtain ⟨vs, h1, h2⟩ := h; exact ⟨_, h1⟩
  | dic ks => obtain ⟨vs, h1, h2⟩ := h; exact ⟨_, h1⟩
  | dtn ks => obtain ⟨vs, h1, h2⟩ := h; exact ⟨_, h1⟩
theorem OwR.rr {a : Addr} {o : Ow} (h : OwR K S.F H a o) (hp : o.pl = true) : Rr K S.F H (.ref a) o.dat := by
  cases o with
  | lst xs => obtain ⟨vs, h1, h2⟩ := h; exact .lst h1 h2
  | dic ks => obtain ⟨vs, h1, h2⟩ := h; exact .dic h1 h2
  | dtn ks => cases hp
theorem Abs.ext (x : Abs K S Hz H σ env) (e : Ext bk S S' H H') : Abs K S' Hz H' σ env := by
  refine ⟨x.len, fun i r h => ?_, x.ap⟩
  obtain ⟨v, h1, h2⟩ := x.at_ i r h
  refine ⟨v, h1, ?_⟩
  cases r with
  | d y => exact Rp.mono e.fz h2
  | own o =>
    obtain ⟨a, rfl, z, la, fa, oa⟩ := h2
    obtain ⟨u, hu⟩ := oa.there
    refine ⟨a, rfl, z, by rw [e.el]; exact la, ?_, oa.mono e.fz fun u h => e.kp a u h la⟩
    cases q : S'.F a with
    | none => rfl
    | some w =>
      have := e.nw a fa (by rw [q]; exact fun z => nomatch z)
      rw [hu] at this; cases this
  | bor o => exact h2.elim
  | box =>
    obtain ⟨h3, h4⟩ := h2
    exact ⟨by rw [e.el]; exact h3, by rw [e.eb]; exact h4⟩
  | scr ns =>
    obtain ⟨a, h3, h4⟩ := h2
    exact ⟨a, h3, sqL_mono e.fz h4⟩
/-- v can be read as x -/
def Rq (K : PySem.W.Frag) (S : AS) (H : Hp) (v : V) (x : PyData) : Prop := Rp K S.F v x ∨ (∃ a o, v = .ref a ∧ a ∉ S.l ∧ OwR K S.F H a o ∧ o.pl = true ∧ x = o.dat) ∨ ∃ (a : Addr) (ns : List Int), v = .ref a ∧ SqL K S.F a (ns.map V.int) ∧ x = .list (ns.map PyData.int)
theorem Rq.rr {x : PyData} (h : Rq K S H v x) : Rr K S.F H v x := by
  rcases h with h | ⟨a, o, rfl, _, h, hp, rfl⟩ | ⟨a, ns, rfl, h, rfl⟩
  · exact .fz h
  · exact h.rr hp
  · exact .scr h
theorem Rq.ext {x : PyData} (h : Rq K S H v x) (e : Ext bk S S' H H') : Rq K S' H' v x := by
  rcases h with h | ⟨a, o, rfl, l, h, hp, rfl⟩ | ⟨a, ns, rfl, h, rfl⟩
  · exact .inl (h.mono e.fz)
  · exact .inr (.inl ⟨a, o, rfl, by rw [e.el]; exact l, h.mono e.fz fun u q => e.kp a u q l, hp, rfl⟩)
  · exact .inr (.inr ⟨a, ns, rfl, sqL_mono e.fz h, rfl⟩)
/-- a result can be read -/
theorem RRes.rq {r : RV} {k : PyData → Prop} (h : RRes K S' H H' v r) (u : r.use k) : ∃ x, Rq K S' H' v x ∧ k x := by
  cases r with
  | d x => exact ⟨x, .inl h, u⟩
  | own o => obtain ⟨a, rfl, _, l, _, oa⟩ := h; obtain ⟨hp, u⟩ := Ow.rd_pl u; exact ⟨_, .inr (.inl ⟨a, o, rfl, l, oa, hp, rfl⟩), u⟩
  | bor o => obtain ⟨a, rfl, l, _, oa⟩ := h; obtain ⟨hp, u⟩ := Ow.rd_pl u; exact ⟨_, .inr (.inl ⟨a, o, rfl, l, oa, hp, rfl⟩), u⟩
  | box => exact u.elim
  | scr ns => obtain ⟨a, rfl, l⟩ := h; exact ⟨_, .inr (.inr ⟨a, ns, rfl, l, rfl⟩), u⟩
/-- seen from further ahead -/
theorem RRes.back {r : RV} {H0 : Hp} (h : RRes K S' H H' v r) (k : ∀ a, H a = none → H0 a = none) : RRes K S' H0 H' v r := by
  cases r with
  | d x => exact h
  | own o => obtain ⟨a, e, n, f⟩ := h; exact ⟨a, e, k a n, f⟩
  | bor o => exact h
  | box => exact h
  | scr ns => exact h
end

/-! ### readings over data -/
abbrev TD := En → (RV → Prop) → (Err → Prop) → Prop
abbrev TDT := En → (Bool → Prop) → (Err → Prop) → Prop
abbrev TDA := En → (List RV → Prop) → (Err → Prop) → Prop
section
variable (bk : BoxKind) (X : Cx) (W : WX)
def ExOk (S : AS) (σ : Sg) (H : Hp) (Ex : Err → Prop) : Prop := ∀ e cls d H' S', Ex e → Ext bk S S' H H' → ErrR X.K X.mg S' H' cls d e → W cls d σ H'
def Con (S : AS) (H : Hp) (Q : VK) (Qd : RV → Prop) : Prop := ∀ r v H' S', Qd r → Ext bk S S' H H' → RRes X.K S' H H' v r → Q v H'
/-- arguments: data, or the box -/
def RArg (K : PySem.W.Frag) (S : AS) (v : V) : RV → Prop
  | .d x => Rp K S.F v x
  | .own _ => False
  | .bor _ => False
  | .box => S.l ≠ [] ∧ v = .ref S.b
  | .scr ns => ∃ a, v = .ref a ∧ SqL K S.F a (ns.map V.int)
def RArgs (K : PySem.W.Frag) (S : AS) : List V → List RV → Prop := Paired (RArg K S)
def liftE (t : TD) : TE := fun σ H Q => ∃ S env Hz Qd Ex, AOk bk S H ∧ Abs X.K S Hz H σ env ∧ ExOk bk X W S σ H Ex ∧ Con bk X S H Q Qd ∧ t env Qd Ex
def liftT (t : TDT) : TT := fun σ H Q => ∃ S env Hz Qd Ex, AOk bk S H ∧ Abs X.K S Hz H σ env ∧ ExOk bk X W S σ H Ex ∧ (∀ b H' S', Qd b → Ext bk S S' H H' → Q b H') ∧ t env Qd Ex
def liftA (t : TDA) : TA := fun σ H Q => ∃ S env Hz Qd Ex, AOk bk S H ∧ Abs X.K S Hz H σ env ∧ ExOk bk X W S σ H Ex ∧ (∀ rs vs H' S', Qd rs → Ext bk S S' H H' → RArgs X.K S' vs rs → Q vs H') ∧ t env Qd Ex
/-- the judgements -/
def PD (e : Expr) (t : TD) : Prop := PE X e (liftE bk X W t)
def PDT (e : Expr) (t : TDT) : Prop := PT X e (liftT bk X W t)
def PDA (es : List Expr) (t : TDA) : Prop := PA X es (liftA bk X W t)
end
section
variable {bk : BoxKind} {X : Cx} {W : WX} {S S' : AS} {σ : Sg} {H H' : Hp} {Ex : Err → Prop}
theorem ExOk.ext (h : ExOk bk X W S σ H Ex) (x : AOk bk S H) (e : Ext bk S S' H H') : ExOk bk X W S' σ H' Ex := fun er cls d H2 S2 h1 h2 h3 => h er cls d H2 S2 h1 (Ext.trans x e h2) h3
theorem Con.ext {Q : VK} {Qd : RV → Prop} (h : Con bk X S H Q Qd) (x : AOk bk S H) (e : Ext bk S S' H H') : Con bk X S' H' Q Qd := fun r v H2 S2 q e2 r2 => h r v H2 S2 q (Ext.trans x e e2) (r2.back fun _ => e.free x)
theorem PE.imp {e : Expr} {t t' : TE} (h : PE X e t) (i : ∀ σ H Q, t' σ H Q → t σ H Q) : PE X e t' := ⟨fun pins s σ H Q I q => h.run pins s σ H Q I (i σ H Q q)⟩
theorem PT.imp {e : Expr} {t t' : TT} (h : PT X e t) (i : ∀ σ H Q, t' σ H Q → t σ H Q) : PT X e t' := ⟨fun pins s σ H Q I q => h.run pins s σ H Q I (i σ H Q q)⟩
theorem PA.imp {es : List Expr} {t t' : TA} (h : PA X es t) (i : ∀ σ H Q, t' σ H Q → t σ H Q) : PA X es t' := ⟨fun pos pins s σ H Q I q => h.run pos pins s σ H Q I (i σ H Q q)⟩
theorem PS.imp {st : Stmt} {t t' : TS} (h : PS X st t) (i : ∀ D σ H, t' D σ H → t D σ H) : PS X st t' := ⟨fun pins s σ H D I q => h.run pins s σ H D I (i D σ H q)⟩
theorem PSs.imp {st : List Stmt} {t t' : TS} (h : PSs X st t) (i : ∀ D σ H, t' D σ H → t D σ H) : PSs X st t' := ⟨fun pins s σ H D I q => h.run pins s σ H D I (i D σ H q)⟩
theorem RArgs.ext {vs : List V} {rs : List RV} (h : RArgs X.K S vs rs) (e : Ext bk S S' H H') : RArgs X.K S' vs rs := Paired.mapP h fun v r z => by
  cases r with
  | d x => exact Rp.mono e.fz z
  | own o => exact z
  | bor o => exact z
  | box => obtain ⟨z1, z2⟩ := z; exact ⟨by rw [e.el]; exact z1, by rw [e.eb]; exact z2⟩
  | scr ns => obtain ⟨a, z1, z2⟩ := z; exact ⟨a, z1, sqL_mono e.fz z2⟩
end

/-! ### operators, by values -/
abbrev GD := PyData → PyData → (RV → Prop) → Prop
section
variable (bk : BoxKind) (X : Cx)
/-- f takes two data as g says -/
def OpD (f : Value → Value → Sem Value) (g : GD) : Prop := OpR X f fun x y H Q => ∃ S dx dy Qd, AOk bk S H ∧ Rq X.K S H x dx ∧ Rq X.K S H y dy ∧ Con bk X S H Q Qd ∧ g dx dy Qd
def UnD (f : Value → Sem Value) (g : PyData → (RV → Prop) → Prop) : Prop := UnR X f fun x H Q => ∃ S dx Qd, AOk bk S H ∧ Rq X.K S H x dx ∧ Con bk X S H Q Qd ∧ g dx Qd
end
def tBinD (g : GD) (ta tb : TD) : TD := fun env Q Ex => ta env (fun r => r.use fun x => tb env (fun r' => r'.use fun y => g x y Q) Ex) Ex
def tUnD (g : PyData → (RV → Prop) → Prop) (ta : TD) : TD := fun env Q Ex => ta env (fun r => r.use fun x => g x Q) Ex
section
variable {bk : BoxKind} {X : Cx} {W : WX}
/-- the two operands, evaluated -/
theorem two_data {ta tb : TD} {g : GD} {σ : Sg} {H : Hp} {Q : VK} (h : liftE bk X W (tBinD g ta tb) σ H Q) :
    liftE bk X W ta σ H fun x H1 => liftE bk X W tb σ H1 fun y H2 => ∃ S dx dy Qd, AOk bk S H2 ∧ Rq X.K S H2 x dx ∧ Rq X.K S H2 y dy ∧ Con bk X S H2 Q Qd ∧ g dx dy Qd := by
  obtain ⟨S, env, Hz, Qd, Ex, ok, ab, ex, con, t⟩ := h
  refine ⟨S, env, Hz, _, Ex, ok, ab, ex, fun r v H1 S1 q1 e1 r1 => ?_, t⟩
  obtain ⟨x, rx, q2⟩ := r1.rq q1
  refine ⟨S1, env, Hz, _, Ex, e1.ok, ab.ext e1, ex.ext ok e1, fun r' v' H2 S2 q3 e2 r2 => ?_, q2⟩
  obtain ⟨y, ry, q4⟩ := r2.rq q3
  exact ⟨S2, x, y, Qd, e2.ok, rx.ext e2, ry, con.ext ok (Ext.trans ok e1 e2), q4⟩
theorem one_data {ta : TD} {g : PyData → (RV → Prop) → Prop} {σ : Sg} {H : Hp} {Q : VK} (h : liftE bk X W (tUnD g ta) σ H Q) :
    liftE bk X W ta σ H fun x H1 => ∃ S dx Qd, AOk bk S H1 ∧ Rq X.K S H1 x dx ∧ Con bk X S H1 Q Qd ∧ g dx Qd := by
  obtain ⟨S, env, Hz, Qd, Ex, ok, ab, ex, con, t⟩ := h
  refine ⟨S, env, Hz, _, Ex, ok, ab, ex, fun r v H1 S1 q1 e1 r1 => ?_, t⟩
  obtain ⟨x, rx, q2⟩ := r1.rq q1
  exact ⟨S1, x, Qd, e1.ok, rx, con.ext ok e1, q2⟩
variable {a b : Expr} {ta tb : TD} {pos : Pos}
theorem pd_bin {op : Operator} {g : GD} (ho : OpD bk X (binaryOp op) g) (ha : PD bk X W a ta) (hb : PD bk X W b tb) : PD bk X W (.BinOp a op b pos) (tBinD g ta tb) :=
  PE.imp (pe_op ho ha hb) fun _ _ _ h => two_data h
theorem pd_un {op : UnaryOp} {g : PyData → (RV → Prop) → Prop} (ho : UnD bk X (unaryOp op) g) (ha : PD bk X W a ta) : PD bk X W (.UnaryOp op a pos) (tUnD g ta) :=
  PE.imp (pe_un ho ha) fun _ _ _ h => one_data h
theorem pd_cmp {op : CmpOp} {g : GD} (ho : OpD bk X (compareOp op) g) (ha : PD bk X W a ta) (hb : PD bk X W b tb) (hm : behindInMarks op b = false) : PD bk X W (.Compare a [op] [b] pos) (tBinD g ta tb) :=
  PE.imp (pe_cmpR ho ha hb hm) fun _ _ _ h => two_data h
/-- a value that is a bool, as a test -/
def tTst (t : TD) : TDT := fun env Q Ex => t env (fun r => r.use fun x => match x with | .bool b => Q b | _ => False) Ex
theorem lift_tst {t : TD} {σ : Sg} {H : Hp} {Q : Bool → Hp → Prop} (h : liftT bk X W (tTst t) σ H Q) : liftE bk X W t σ H fun x H' => ∃ k, x = .bl k ∧ Q k H' := by
  obtain ⟨S, env, Hz, Qd, Ex, ok, ab, ex, con, t⟩ := h
  refine ⟨S, env, Hz, _, Ex, ok, ab, ex, fun r v H1 S1 q1 e1 r1 => ?_, t⟩
  obtain ⟨x, rx, q2⟩ := r1.rq q1
  cases x with
  | bool b =>
    have := rx.rr.bool
    exact ⟨b, this, con b H1 S1 q2 e1⟩
  | _ => exact q2.elim
theorem pdt_cmp {op : CmpOp} {g : GD} (ho : OpD bk X (compareOp op) g) (ha : PD bk X W a ta) (hb : PD bk X W b tb) (hm : behindInMarks op b = false) : PDT bk X W (.Compare a [op] [b] pos) (tTst (tBinD g ta tb)) :=
  PT.imp (pt_cmpR ho ha hb hm) fun _ _ _ h => by
    obtain ⟨S, env, Hz, Qd, Ex, h1⟩ := lift_tst h
    exact two_data ⟨S, env, Hz, Qd, Ex, h1⟩
theorem pdt_val (h : PD bk X W a ta) (he : ∀ whole, isTrue a X.env whole = (do let v ← whole; standAt a.pos; holding [v] (truthy v))) : PDT bk X W a (tTst ta) :=
  PT.imp (pt_val h he) fun _ _ _ q => lift_tst q
end
end HA

namespace HA
open PySem PySem.Spec PyProof.Rows L2

/-! ### what the operators give, over data -/
/-- an int that may be a factor -/
def Sm (i : Int) : Prop := i.natAbs < 2 ^ 8000
/-- two factors -/
def Mb (i j : Int) : Prop := i.natAbs < 2 ^ 64 ∨ j.natAbs < 2 ^ 64 ∨ ∃ a b, i.natAbs < 2 ^ a ∧ j.natAbs < 2 ^ b ∧ a + b ≤ 134217728
theorem Sm.mb {i j : Int} (h : Sm i) (g : Sm j) : Mb i j := .inr (.inr ⟨8000, 8000, h, g, by decide⟩)
theorem Mb.ok {i j : Int} (h : Mb i j) : IntMulOk i j := by
  rcases h with h | h | ⟨a, b, h1, h2, h3⟩
  · exact IntMulOk.of_left (PyProof.Rows.intBits_le h)
  · have z : ¬ (Builtin.Int.intBits j > shortFactorBits) := Nat.not_lt.mpr (PyProof.Rows.intBits_le h)
    unfold IntMulOk
    rw [decide_eq_false z]
    simp
  · exact (mulx_ok h1 h2 h3).ok
def gAdd : GD
  | .int i, .int j, Q => Q (.d (.int (i + j)))
  | .str a, .str b, Q => a.length + b.length ≤ sizeLine ∧ Q (.d (.str (a ++ b)))
  | .tuple xs, .tuple ys, Q => xs.length + ys.length ≤ sizeLine ∧ Q (.d (.tuple (xs ++ ys)))
  | .list xs, .list ys, Q => xs.length + ys.length ≤ sizeLine ∧ Q (.own (.lst (xs ++ ys)))
  | _, _, _ => False
def gSub : GD
  | .int i, .int j, Q => Q (.d (.int (i - j)))
  | _, _, _ => False
def gMul : GD
  | .int i, .int j, Q => Mb i j ∧ Q (.d (.int (i * j)))
  | _, _, _ => False
def gFdiv : GD
  | .int i, .int j, Q => j ≠ 0 ∧ Sm j ∧ Q (.d (.int (i.fdiv j)))
  | _, _, _ => False
def gMod : GD
  | .int i, .int j, Q => j ≠ 0 ∧ Q (.d (.int (i.fmod j)))
  | _, _, _ => False
def gPow : GD
  | .int i, .int j, Q => 0 ≤ j ∧ j ≤ 1000000 ∧ i.natAbs < 2 ^ 64 ∧ Q (.d (.int (i ^ j.toNat)))
  | _, _, _ => False
def isTxt : PyData → Bool
  | .str _ => true
  | _ => false
/-- what == looks at: two texts, or data of a shape -/
def eqOk (x y : PyData) : Prop := (isTxt x = true ∧ isTxt y = true) ∨ (SeqAt.shaped x = true ∧ SeqAt.shaped y = true)
def gEq : GD := fun x y Q => eqOk x y ∧ Q (.d (.bool (PyData.eqv x y)))
def gNe : GD := fun x y Q => eqOk x y ∧ Q (.d (.bool (!PyData.eqv x y)))
def ordOk (x y : PyData) : Prop := PySem.W.alike x y = true ∧ x ≠ .none ∧ x.depth ≤ 64
def gOrd (p : Int → Int → Bool) (r : PyData → PyData → Bool) : GD := fun x y Q => match x, y with
  | .int i, .int j => Q (.d (.bool (p i j)))
  | x, y => ordOk x y ∧ Q (.d (.bool (r x y)))
def gLt : GD := gOrd (fun i j => decide (i < j)) fun x y => PySem.W.dataLt x y
def gGt : GD := gOrd (fun i j => decide (j < i)) fun x y => PySem.W.dataLt y x
def gLe : GD := gOrd (fun i j => decide (i ≤ j)) fun x y => !PySem.W.dataLt y x
def gGe : GD := gOrd (fun i j => decide (j ≤ i)) fun x y => !PySem.W.dataLt x y
def isNon : PyData → Bool
  | .none => true
  | _ => false
def gIn (neg : Bool) : GD := fun x y Q => match y with
  | .tuple ys => SeqAt.shaped x = true ∧ SeqAt.shaped (.list ys) = true ∧ Q (.d (.bool (xor neg (ys.any fun z => PyData.eqv z x))))
  | .list ys => SeqAt.shaped x = true ∧ SeqAt.shaped (.list ys) = true ∧ Q (.d (.bool (xor neg (ys.any fun z => PyData.eqv z x))))
  | .str z => match x with
    | .str w => Q (.d (.bool (xor neg (!(Builtin.Str.occurrences z w 0 z.length 1).isEmpty))))
    | _ => False
  | _ => False
def gIs (neg : Bool) : GD := fun x y Q => y = .none ∧ Q (.d (.bool (xor neg (isNon x))))
def gNeg : PyData → (RV → Prop) → Prop
  | .int i, Q => Q (.d (.int (-i)))
  | _, _ => False
def gNot : PyData → (RV → Prop) → Prop
  | .bool b, Q => Q (.d (.bool !b))
  | _, _ => False

section
variable {bk : BoxKind} {X : Cx} {S : AS} {H : Hp} {Q : VK} {Qd : RV → Prop}
theorem Con.data (c : Con bk X S H Q Qd) (ok : AOk bk S H) {x : PyData} {v : V} (q : Qd (.d x)) (r : Rp X.K S.F v x) : Q v H := c _ v H S q (Ext.refl ok) r
theorem Con.tup (c : Con bk X S H Q Qd) (ok : AOk bk S H) {xs : List PyData} {vs : List V} (q : Qd (.d (.tuple xs))) (r : RpAll X.K S.F vs xs) (p : Addr) (hp : H p = none) : Q (.ref p) (upd H p (.tup vs)) := by
  have e := Ext.new (o := .tup vs) ok hp
  exact c _ _ _ _ q e (.tup (.inl (.inl upd_same)) (r.mono e.fz))
theorem Con.lst (c : Con bk X S H Q Qd) (ok : AOk bk S H) {xs : List PyData} {vs : List V} (q : Qd (.own (.lst xs))) (r : RpAll X.K S.F vs xs) (p : Addr) (hp : H p = none) : Q (.ref p) (upd H p (.lst vs)) :=
  c _ _ _ _ q (Ext.laid ok hp) ⟨p, rfl, hp, fun m => ok.there m hp, ok.free hp, vs, upd_same, r⟩
theorem Con.dic (c : Con bk X S H Q Qd) (ok : AOk bk S H) {xs : List (PyData × PyData)} {vs : List (Key × V)} (q : Qd (.own (.dic xs))) (r : RpKv X.K S.F vs xs) (p : Addr) (hp : H p = none) : Q (.ref p) (upd H p (.dK vs)) :=
  c _ _ _ _ q (Ext.laid ok hp) ⟨p, rfl, hp, fun m => ok.there m hp, ok.free hp, vs, upd_same, r⟩
theorem Rq.int {v : V} {i : Int} {K : PySem.W.Frag} (h : Rq K S H v (.int i)) : v = .int i := h.rr.int
theorem Rq.list {v : V} {ds : List PyData} {K : PySem.W.Frag} (h : Rq K S H v (.list ds)) (ok : AOk bk S H) : ∃ a xs, v = .ref a ∧ SqL K H a xs ∧ RpAll K S.F xs ds := h.rr.list ok.sub
theorem Rq.tuple {v : V} {ds : List PyData} {K : PySem.W.Frag} (h : Rq K S H v (.tuple ds)) : ∃ a xs, v = .ref a ∧ SqT K S.F a xs ∧ RpAll K S.F xs ds := h.rr.tuple
theorem Sm.log2 {i : Int} (h : Sm i) : i.natAbs.log2 < 8000 := PySem.Flt.log2_lt_of (by decide) h
theorem Rq.reads {v : V} {u : Value} {x : PyData} {pins : List (Addr × Obj)} {σ : Sg} {s : Shared} (h : Rq X.K S H v x) (ok : AOk bk S H) (I : Inv X pins σ H s) (hs : noSys X) (r : RelV v u) : ∃ as, Reads s.heap u x as ∧ True := by
  obtain ⟨as, h⟩ := h.rr.reads ok.sub I r
  exact ⟨as, h, trivial⟩


/-! ### two lists, of any making -/
theorem PlainL.whole {h : Heap} {a : Addr} {its : Array Value} (p : PlainL h a its) : ∃ n sl, h.get? a = some { cls := .type "list", data := .seq its n, slots := sl } := by
  obtain ⟨o, n, e, hc, hd, hz⟩ := p
  refine ⟨n, o.slots, ?_⟩
  rw [e]
  obtain ⟨c, d, z, sl⟩ := o
  simp only at hc hd hz
  rw [hc, hd, hz]
theorem add_from (l b : Addr) (xs ys : Array Value) (n m : Nat) (sl sm : Array (Option Value)) (h0 : xs.size + ys.size ≤ sizeLine) :
    Meets (Builtin.«list.__add__» ⟨[.ref l, .ref b], []⟩) (fun _ R s => s.heap.get? l = some { cls := .type "list", data := .seq xs n, slots := sl } ∧ s.heap.get? b = some { cls := .type "list", data := .seq ys m, slots := sm } ∧ R (.ok (.ret (Value.ref s.heap.objs.size))) { s with heap := s.heap.push { cls := Value.type "list", data := Data.seq (xs ++ ys) }, toks := s.toks }) :=
  .of_wp fun prog w A R s h => by
    obtain ⟨hp, g, d, tk, os⟩ := s
    obtain ⟨hl, hb, h⟩ := h
    have i1 := PySem.AutoSeq1.idx_int
    have i2 := PySem.AutoSeq1.sub_tuple_tuple
    have i3 := PySem.AutoSeq1.sub_list_list
    have i4 := PySem.AutoSeq1.sub_tuple_list
    have i5 := PySem.AutoSeq1.sub_list_tuple
    wp_walk using PySem.AutoSeq1.wpAny_loadPart' hl, PySem.AutoSeq1.wpAny_loadPart' hb
    exact ⟨_, rfl, h⟩
theorem op_catQ {X : Cx} : OpR X (binaryOp .Add) (fun x y H Q => ∃ l b xs zs, x = .ref l ∧ y = .ref b ∧ SqL X.K H l xs ∧ SqL X.K H b zs ∧ xs.length + zs.length ≤ sizeLine ∧ ∀ p, H p = none → Q (.ref p) (upd H p (.lst (xs ++ zs)))) := by
  intro pins s σ H x y v u Q I rx ry h
  obtain ⟨l, b, xs, zs, rfl, rfl, hH, hB, hz, q⟩ := h
  cases rx
  cases ry
  obtain ⟨its, r, p, z⟩ := I.list hH
  obtain ⟨its2, r2, p2, z2⟩ := I.list hB
  obtain ⟨n, sl, e⟩ := PlainL.whole p
  obtain ⟨n2, sl2, e2⟩ := PlainL.whole p2
  have h1 := r.length
  have h2 := r2.length
  refine concat_meets ⟨_, e, rfl⟩ ⟨_, e2, rfl⟩ noFill_list_add seq_list_add PySem.F.slot_list_add PySem.F.entry_list_add (PySem.F.args_list_add_2 _ _) (add_from l b its.toArray its2.toArray n n2 sl sl2 (by rw [List.size_toArray, List.size_toArray]; omega)) ⟨e, e2, ?_⟩
  have ea : its.toArray ++ its2.toArray = (its ++ its2).toArray := by simp
  rw [ea]
  exact ⟨.ref _, _, I.lnew (t' := s.toks) (r.append r2) (by rw [List.length_append]; omega), rfl, q _ I.fresh⟩

theorem od_add : OpD bk X (binaryOp .Add) gAdd := by
  intro pins s σ H x y v u Q I rx ry h
  obtain ⟨S, dx, dy, Qd, ok, hx, hy, con, g⟩ := h
  cases dx with
  | int i => cases dy with
    | int j => exact op_add pins s σ H x y v u Q I rx ry ⟨i, j, hx.rr.int, hy.rr.int, con.data ok g (.int _)⟩
    | _ => exact g.elim
  | str a => cases dy with
    | str b =>
      obtain ⟨z, g⟩ := g
      exact op_add_str pins s σ H x y v u Q I rx ry ⟨a, b, hx.rr.str, hy.rr.str, z, con.data ok g (.str _)⟩
    | _ => exact g.elim
  | tuple xs => cases dy with
    | tuple ys =>
      obtain ⟨z, g⟩ := g
      obtain ⟨a, vs, rfl, ha, ra⟩ := hx.tuple
      obtain ⟨b, ws, rfl, hb, rb⟩ := hy.tuple
      have la := ra.length
      have lb := rb.length
      refine op_catA pins s σ H _ _ v u Q I rx ry ⟨a, b, vs, ws, rfl, rfl, sqT_mono ok.sub ha, sqT_mono ok.sub hb, by omega, fun e => ?_, fun _ e => ?_, fun _ _ p hp => con.tup ok g (ra.append rb) p hp⟩
      · subst e
        cases ra
        exact con.data ok g (.tup hb rb)
      · subst e
        cases rb
        rw [List.append_nil] at g
        exact con.data ok g (.tup ha ra)
    | _ => exact g.elim
  | list xs => cases dy with
    | list ys =>
      obtain ⟨z, g⟩ := g
      obtain ⟨a, vs, rfl, ha, ra⟩ := hx.list ok
      obtain ⟨b, ws, rfl, hb, rb⟩ := hy.list ok
      have la := ra.length
      have lb := rb.length
      exact op_catQ pins s σ H _ _ v u Q I rx ry ⟨a, b, vs, ws, rfl, rfl, ha, hb, by omega, fun p hp => con.lst ok g (ra.append rb) p hp⟩
    | _ => exact g.elim
  | _ => exact g.elim
theorem od_sub : OpD bk X (binaryOp .Sub) gSub := by
  intro pins s σ H x y v u Q I rx ry h
  obtain ⟨S, dx, dy, Qd, ok, hx, hy, con, g⟩ := h
  cases dx with
  | int i => cases dy with
    | int j => exact op_sub pins s σ H x y v u Q I rx ry ⟨i, j, hx.rr.int, hy.rr.int, con.data ok g (.int _)⟩
    | _ => exact g.elim
  | _ => exact g.elim
theorem op_mulG {X : Cx} : OpR X (binaryOp .Mult) (rI IntMulOk fun i j => .int (i * j)) := opI fun _ _ _ _ _ _ _ hc q => mul_int q hc
theorem od_mul : OpD bk X (binaryOp .Mult) gMul := by
  intro pins s σ H x y v u Q I rx ry h
  obtain ⟨S, dx, dy, Qd, ok, hx, hy, con, g⟩ := h
  cases dx with
  | int i => cases dy with
    | int j =>
      obtain ⟨h1, g⟩ := g
      exact op_mulG pins s σ H x y v u Q I rx ry ⟨i, j, hx.rr.int, hy.rr.int, h1.ok, con.data ok g (.int _)⟩
    | _ => exact g.elim
  | _ => exact g.elim
theorem op_fdivAll : OpR X (binaryOp .FloorDiv) (rI (fun _ j => j ≠ 0 ∧ j.natAbs.log2 < 9000) fun i j => .int (i.fdiv j)) := opI fun i j _ _ _ _ _ hc q =>
  floordiv_int hc.1 q (.inl (PyProof.noPylong_of_log2 hc.2))
theorem od_fdiv : OpD bk X (binaryOp .FloorDiv) gFdiv := by
  intro pins s σ H x y v u Q I rx ry h
  obtain ⟨S, dx, dy, Qd, ok, hx, hy, con, g⟩ := h
  cases dx with
  | int i => cases dy with
    | int j =>
      obtain ⟨h1, h2, g⟩ := g
      have l2 := h2.log2
      exact op_fdivAll pins s σ H x y v u Q I rx ry ⟨i, j, hx.rr.int, hy.rr.int, ⟨h1, by omega⟩, con.data ok g (.int _)⟩
    | _ => exact g.elim
  | _ => exact g.elim
theorem od_mod : OpD bk X (binaryOp .Mod) gMod := by
  intro pins s σ H x y v u Q I rx ry h
  obtain ⟨S, dx, dy, Qd, ok, hx, hy, con, g⟩ := h
  cases dx with
  | int i => cases dy with
    | int j =>
      obtain ⟨h1, g⟩ := g
      exact op_modN pins s σ H x y v u Q I rx ry ⟨i, j, hx.rr.int, hy.rr.int, h1, con.data ok g (.int _)⟩
    | _ => exact g.elim
  | _ => exact g.elim
theorem od_pow : OpD bk X (binaryOp .Pow) gPow := by
  intro pins s σ H x y v u Q I rx ry h
  obtain ⟨S, dx, dy, Qd, ok, hx, hy, con, g⟩ := h
  cases dx with
  | int i => cases dy with
    | int j =>
      obtain ⟨h1, h2, h3, g⟩ := g
      exact op_pow pins s σ H x y v u Q I rx ry ⟨i, j, hx.rr.int, hy.rr.int, ⟨h1, h2, h3⟩, con.data ok g (.int _)⟩
    | _ => exact g.elim
  | _ => exact g.elim
theorem od_eq (hs : noSys X) (hu : X.A.units + 64 < cLine) : OpD bk X (compareOp .Eq) gEq := by
  intro pins s σ H x y v u Q I rx ry h
  obtain ⟨S, dx, dy, Qd, ok, hx, hy, con, g1, g⟩ := h
  rcases g1 with ⟨t1, t2⟩ | ⟨g1, g2⟩
  · cases dx with
    | str a => cases dy with
      | str b =>
        have ex := hx.rr.str
        have ey := hy.rr.str
        subst ex ey
        refine op_eq pins s σ H _ _ v u Q I rx ry ⟨rfl, ?_⟩
        have e : decide (V.str a = V.str b) = PyData.eqv (.str a) (.str b) := by
          show _ = (a == b)
          rw [Bool.eq_iff_iff]
          simp
        rw [e]
        exact con.data ok g (.bl _)
      | _ => cases t2
    | _ => cases t1
  · obtain ⟨as, r1, _⟩ := hx.reads ok I hs rx
    obtain ⟨bs, r2, _⟩ := hy.reads ok I hs ry
    exact SeqAt.compareEq_shaped r1 r2 g1 g2 hu ⟨.bl _, H, I, rfl, con.data ok g (.bl _)⟩
theorem od_ne (hs : noSys X) (hu : X.A.units + 64 < cLine) : OpD bk X (compareOp .NotEq) gNe := by
  intro pins s σ H x y v u Q I rx ry h
  obtain ⟨S, dx, dy, Qd, ok, hx, hy, con, g1, g⟩ := h
  rcases g1 with ⟨t1, t2⟩ | ⟨g1, g2⟩
  · cases dx with
    | str a => cases dy with
      | str b =>
        have ex := hx.rr.str
        have ey := hy.rr.str
        subst ex ey
        refine op_ne pins s σ H _ _ v u Q I rx ry ⟨rfl, ?_⟩
        have e : decide (V.str a = V.str b) = PyData.eqv (.str a) (.str b) := by
          show _ = (a == b)
          rw [Bool.eq_iff_iff]
          simp
        rw [e]
        exact con.data ok g (.bl _)
      | _ => cases t2
    | _ => cases t1
  · obtain ⟨as, r1, _⟩ := hx.reads ok I hs rx
    obtain ⟨bs, r2, _⟩ := hy.reads ok I hs ry
    exact SeqAt.compareNe_shaped r1 r2 g1 g2 hu ⟨.bl _, H, I, rfl, con.data ok g (.bl _)⟩
theorem ord_split {x y : PyData} {p : Int → Int → Bool} {r : PyData → PyData → Bool} {Q : RV → Prop} (h : gOrd p r x y Q) : (∃ i j, x = .int i ∧ y = .int j ∧ Q (.d (.bool (p i j)))) ∨ (ordOk x y ∧ Q (.d (.bool (r x y)))) := by
  unfold gOrd at h
  split at h
  · exact .inl ⟨_, _, rfl, rfl, h⟩
  · exact .inr h
theorem ord_room {x y : PyData} {A : Around} (h : ordOk x y) (hu : A.units + 64 < cLine) : A.units + min x.depth y.depth < cLine := by
  have h1 := h.2.2
  have h2 : min x.depth y.depth ≤ x.depth := Nat.min_le_left _ _
  omega
theorem od_lt (hs : noSys X) (hu : X.A.units + 64 < cLine) : OpD bk X (compareOp .Lt) gLt := by
  intro pins s σ H x y v u Q I rx ry h
  obtain ⟨S, dx, dy, Qd, ok, hx, hy, con, g⟩ := h
  obtain ⟨as, r1, _⟩ := hx.reads ok I hs rx
  obtain ⟨bs, r2, _⟩ := hy.reads ok I hs ry
  rcases ord_split g with ⟨i, j, rfl, rfl, g⟩ | ⟨o, g⟩
  · exact op_lt pins s σ H x y v u Q I rx ry ⟨i, j, hx.rr.int, hy.rr.int, con.data ok g (.bl _)⟩
  · exact PySem.W.lt_data r1 r2 o.1 o.2.1 (ord_room o hu) ⟨.bl _, H, I, rfl, con.data ok g (.bl _)⟩
theorem od_gt (hs : noSys X) (hu : X.A.units + 64 < cLine) : OpD bk X (compareOp .Gt) gGt := by
  intro pins s σ H x y v u Q I rx ry h
  obtain ⟨S, dx, dy, Qd, ok, hx, hy, con, g⟩ := h
  obtain ⟨as, r1, _⟩ := hx.reads ok I hs rx
  obtain ⟨bs, r2, _⟩ := hy.reads ok I hs ry
  rcases ord_split g with ⟨i, j, rfl, rfl, g⟩ | ⟨o, g⟩
  · exact op_gt pins s σ H x y v u Q I rx ry ⟨i, j, hx.rr.int, hy.rr.int, con.data ok g (.bl _)⟩
  · exact PySem.W.gt_data r1 r2 o.1 o.2.1 (ord_room o hu) ⟨.bl _, H, I, rfl, con.data ok g (.bl _)⟩
theorem od_le (hs : noSys X) (hu : X.A.units + 64 < cLine) : OpD bk X (compareOp .LtE) gLe := by
  intro pins s σ H x y v u Q I rx ry h
  obtain ⟨S, dx, dy, Qd, ok, hx, hy, con, g⟩ := h
  obtain ⟨as, r1, _⟩ := hx.reads ok I hs rx
  obtain ⟨bs, r2, _⟩ := hy.reads ok I hs ry
  rcases ord_split g with ⟨i, j, rfl, rfl, g⟩ | ⟨o, g⟩
  · exact op_le pins s σ H x y v u Q I rx ry ⟨i, j, hx.rr.int, hy.rr.int, con.data ok g (.bl _)⟩
  · exact PySem.W.le_data r1 r2 o.1 o.2.1 (ord_room o hu) ⟨.bl _, H, I, rfl, con.data ok g (.bl _)⟩
theorem od_ge (hs : noSys X) (hu : X.A.units + 64 < cLine) : OpD bk X (compareOp .GtE) gGe := by
  intro pins s σ H x y v u Q I rx ry h
  obtain ⟨S, dx, dy, Qd, ok, hx, hy, con, g⟩ := h
  obtain ⟨as, r1, _⟩ := hx.reads ok I hs rx
  obtain ⟨bs, r2, _⟩ := hy.reads ok I hs ry
  rcases ord_split g with ⟨i, j, rfl, rfl, g⟩ | ⟨o, g⟩
  · exact op_ge pins s σ H x y v u Q I rx ry ⟨i, j, hx.rr.int, hy.rr.int, con.data ok g (.bl _)⟩
  · exact PySem.W.ge_data r1 r2 o.1 o.2.1 (ord_room o hu) ⟨.bl _, H, I, rfl, con.data ok g (.bl _)⟩
theorem room_in {d : PyData} {ys : List PyData} {A : Around} (h : SeqAt.shaped d = true) (hu : A.units + 65 < cLine) : A.units + 1 + min (PyData.depthAll ys) d.depth < cLine := by
  have h1 := SeqAt.depth_of_shaped h
  have h2 : min (PyData.depthAll ys) d.depth ≤ d.depth := Nat.min_le_right _ _
  omega
theorem od_in (hs : noSys X) (hu : X.A.units + 65 < cLine) : OpD bk X (compareOp .In) (gIn false) := by
  intro pins s σ H x y v u Q I rx ry h
  obtain ⟨S, dx, dy, Qd, ok, hx, hy, con, g⟩ := h
  obtain ⟨as, r1, _⟩ := hx.reads ok I hs rx
  obtain ⟨bs, r2, _⟩ := hy.reads ok I hs ry
  cases dy with
  | tuple ys =>
    obtain ⟨g1, g2, g⟩ := g
    rw [Bool.false_xor] at g
    exact SeqAt.in_tuple_reads r2 r1 (SeqAt.canLay_of_shaped g2) (SeqAt.canLay_of_shaped g1) (room_in g1 hu) ⟨.bl _, H, I, rfl, con.data ok g (.bl _)⟩
  | list ys =>
    obtain ⟨g1, g2, g⟩ := g
    rw [Bool.false_xor] at g
    exact SeqAt.in_list_reads r2 r1 (SeqAt.canLay_of_shaped g2) (SeqAt.canLay_of_shaped g1) (room_in g1 hu) ⟨.bl _, H, I, rfl, con.data ok g (.bl _)⟩
  | str z =>
    cases dx with
    | str w' =>
      have g : Qd (.d (.bool (xor false (!(Builtin.Str.occurrences z w' 0 z.length 1).isEmpty)))) := g
      rw [Bool.false_xor] at g
      exact op_in_str pins s σ H x y v u Q I rx ry ⟨w', z, hx.rr.str, hy.rr.str, con.data ok g (.bl _)⟩
    | _ => exact g.elim
  | _ => exact g.elim
theorem od_notIn (hs : noSys X) (hu : X.A.units + 65 < cLine) : OpD bk X (compareOp .NotIn) (gIn true) := by
  intro pins s σ H x y v u Q I rx ry h
  obtain ⟨S, dx, dy, Qd, ok, hx, hy, con, g⟩ := h
  obtain ⟨as, r1, _⟩ := hx.reads ok I hs rx
  obtain ⟨bs, r2, _⟩ := hy.reads ok I hs ry
  cases dy with
  | tuple ys =>
    obtain ⟨g1, g2, g⟩ := g
    rw [Bool.true_xor] at g
    exact SeqAt.notIn_tuple_reads r2 r1 (SeqAt.canLay_of_shaped g2) (SeqAt.canLay_of_shaped g1) (room_in g1 hu) ⟨.bl _, H, I, rfl, con.data ok g (.bl _)⟩
  | list ys =>
    obtain ⟨g1, g2, g⟩ := g
    rw [Bool.true_xor] at g
    exact SeqAt.notIn_list_reads r2 r1 (SeqAt.canLay_of_shaped g2) (SeqAt.canLay_of_shaped g1) (room_in g1 hu) ⟨.bl _, H, I, rfl, con.data ok g (.bl _)⟩
  | str z =>
    cases dx with
    | str w' =>
      have g : Qd (.d (.bool (xor true (!(Builtin.Str.occurrences z w' 0 z.length 1).isEmpty)))) := g
      rw [Bool.true_xor] at g
      exact op_notin_str pins s σ H x y v u Q I rx ry ⟨w', z, hx.rr.str, hy.rr.str, con.data ok g (.bl _)⟩
    | _ => exact g.elim
  | _ => exact g.elim
theorem Rq.non_iff {v : V} {x : PyData} {K : PySem.W.Frag} (h : Rq K S H v x) : decide (v = .non) = isNon x := by
  rcases h with h | ⟨a, o, rfl, _, h, hp, rfl⟩ | ⟨a, ns, rfl, h, rfl⟩
  · cases h <;> simp [isNon]
  · cases o <;> simp [Ow.dat, isNon]
  · simp [isNon]
theorem od_is : OpD bk X (compareOp .Is) (gIs false) := by
  intro pins s σ H x y v u Q I rx ry h
  obtain ⟨S, dx, dy, Qd, ok, hx, hy, con, rfl, g⟩ := h
  have e : y = .non := hy.rr.none
  refine op_isN pins s σ H x y v u Q I rx ry ⟨e, ?_⟩
  rw [hx.non_iff]
  rw [Bool.false_xor] at g
  exact con.data ok g (.bl _)
theorem od_isNot : OpD bk X (compareOp .IsNot) (gIs true) := by
  intro pins s σ H x y v u Q I rx ry h
  obtain ⟨S, dx, dy, Qd, ok, hx, hy, con, rfl, g⟩ := h
  have e : y = .non := hy.rr.none
  refine op_notN pins s σ H x y v u Q I rx ry ⟨e, ?_⟩
  rw [hx.non_iff]
  rw [Bool.true_xor] at g
  exact con.data ok g (.bl _)
theorem ud_neg : UnD bk X (unaryOp .USub) gNeg := by
  intro pins s σ H x v Q I rx h
  obtain ⟨S, dx, Qd, ok, hx, con, g⟩ := h
  cases dx with
  | int i => exact un_neg pins s σ H x v Q I rx ⟨i, hx.rr.int, con.data ok g (.int _)⟩
  | _ => exact g.elim
end
end HA

namespace HA
open PySem PySem.Spec PyProof.Rows L2

/-! ### names, constants -/
def RV.rd : RV → RV
  | .own o => .bor o
  | r => r
def enGet (env : En) (i : Nat) (k : RV → Prop) : Prop := match env[i]? with
  | some (some r) => k r
  | _ => False
def tVarD (i : Nat) : TD := fun env Q _ => enGet env i fun r => Q r.rd
def tConD (d : PyData) : TD := fun _ Q _ => Q (.d d)
theorem enGet_some {env : En} {i : Nat} {k : RV → Prop} (h : enGet env i k) : ∃ r, env[i]? = some (some r) ∧ k r := by
  unfold enGet at h
  split at h
  · exact ⟨_, by assumption, h⟩
  · exact h.elim
section
variable {bk : BoxKind} {X : Cx} {W : WX} {S S' : AS} {σ : Sg} {H H' Hz : Hp} {env : En} {pos : Pos}
theorem RSlot.res {v : V} {r : RV} (h : RSlot X.K S Hz H v r) : RRes X.K S H H v r.rd := by
  cases r with
  | d x => exact h
  | own o => obtain ⟨a, e, _, l, f, w⟩ := h; exact ⟨a, e, l, f, w⟩
  | bor o => exact h.elim
  | box => exact h
  | scr ns => exact h
theorem pd_var {i : Nat} {x : Str} (hN : X.N[i]? = some x) (hv : Vis X.env.scope x) (hd : (x == ("__debug__" : Str)) = false) (hcd : (x == ("__classdict__" : Str)) = false) : PD bk X W (.Name x pos) (tVarD i) :=
  PE.imp (pe_var hN hv hd hcd) fun σ H Q h => by
    obtain ⟨S, env, Hz, Qd, Ex, ok, ab, ex, con, t⟩ := h
    obtain ⟨r, e, q⟩ := enGet_some t
    obtain ⟨v, e2, rs⟩ := ab.at_ i r e
    exact ⟨v, e2, con _ _ _ _ q (Ext.refl ok) rs.res⟩
theorem lift_con {d : PyData} {v : V} (h : ∀ F, Rp X.K F v d) {σ : Sg} {H : Hp} {Q : VK} (q : liftE bk X W (tConD d) σ H Q) : Q v H := by
  obtain ⟨S, env, Hz, Qd, Ex, ok, ab, ex, con, t⟩ := q
  exact con.data ok t (h _)
theorem pd_int {i j} : PD bk X W (.Constant (.int i) j pos) (tConD (.int i)) := PE.imp pe_int fun _ _ _ q => lift_con (fun _ => .int i) q
theorem pd_bl {b j} : PD bk X W (.Constant (.bool b) j pos) (tConD (.bool b)) := PE.imp pe_bl fun _ _ _ q => lift_con (fun _ => .bl b) q
theorem pd_non {j} : PD bk X W (.Constant .none j pos) (tConD .none) := PE.imp pe_non fun _ _ _ q => lift_con (fun _ => .non) q
theorem pd_str {x j} : PD bk X W (.Constant (.str x) j pos) (tConD (.str x)) := PE.imp pe_str fun _ _ _ q => lift_con (fun _ => .str x) q
theorem pd_glob {x : Str} {u : Value} {v : V} {d : PyData} (hg : Gl X x) (hm : X.mg x = some u) (r : RelV v u) (h : ∀ F, Rp X.K F v d) (hd : (x == ("__debug__" : Str)) = false) : PD bk X W (.Name x pos) (tConD d) :=
  PE.imp (pe_glob hg hm r hd) fun _ _ _ q => lift_con h q

/-! ### arguments -/
def tNilD : TDA := fun _ Q _ => Q []
def tConsD (ta : TD) (tr : TDA) : TDA := fun env Q Ex => ta env (fun r => r.arg fun r' => tr env (fun rs => Q (r' :: rs)) Ex) Ex
theorem freeze_at (e : Ext bk S S' H H') {a : Addr} {u : HO} (hn : H a = none) (hl : a ∉ S'.l) (hf : S'.F a = none) (hu : H' a = some u) : Ext bk S { S' with F := upd S'.F a u } H H' := by
  refine ⟨fun b w hb => ?_, fun b h1 h2 => ?_, e.eb, e.el, e.kp, ⟨fun b w hb => ?_, fun b m => ?_, e.ok.box⟩⟩
  · show upd S'.F a u b = some w
    have := e.fz b w hb
    rw [upd_ne (ne_of_none this hf)]; exact this
  · by_cases q : b = a
    · rw [q]; exact hn
    · exact e.nw b h1 fun z => h2 (by show upd S'.F a u b = none; rw [upd_ne q]; exact z)
  · have hb' : upd S'.F a u b = some w := hb
    by_cases q : b = a
    · subst q
      rw [upd_same] at hb'
      rw [hu]; exact hb'
    · rw [upd_ne q] at hb'
      exact e.ok.sub b w hb'
  · show upd S'.F a u b = none
    rw [upd_ne (show b ≠ a from fun z => hl (by rw [← z]; exact m))]; exact e.ok.out b m
/-- a value that is handed on: S2 has it frozen -/
theorem RRes.arg {v : V} {r : RV} {k : RV → Prop} (ok0 : AOk bk S H) (e : Ext bk S S' H H') (h : RRes X.K S' H H' v r) (u : r.arg k) : ∃ S2 r', Ext bk S S2 H H' ∧ RArg X.K S2 v r' ∧ k r' ∧ ∀ y, r' ≠ .own y ∧ r' ≠ .bor y := by
  cases r with
  | d x => exact ⟨S', .d x, e, h, u, fun _ => ⟨nofun, nofun⟩⟩
  | bor o => exact u.elim
  | box => exact ⟨S', .box, e, h, u, fun _ => ⟨nofun, nofun⟩⟩
  | scr ns => exact ⟨S', .scr ns, e, h, u, fun _ => ⟨nofun, nofun⟩⟩
  | own o =>
    obtain ⟨a, rfl, hn, hl, hf, w⟩ := h
    cases o with
    | lst xs =>
      obtain ⟨vs, h1, h2⟩ := w
      have e2 := freeze_at e hn hl hf h1
      refine ⟨_, .d (.list xs), e2, ?_, u, fun _ => ⟨nofun, nofun⟩⟩
      exact .lst upd_same (h2.mono fun b w hb => by
        show upd S'.F a _ b = some w
        rw [upd_ne (ne_of_none hb hf)]; exact hb)
    | dic ks =>
      obtain ⟨vs, h1, h2⟩ := w
      have e2 := freeze_at e hn hl hf h1
      refine ⟨_, .d (.dict ks), e2, ?_, u, fun _ => ⟨nofun, nofun⟩⟩
      exact .dic upd_same (h2.mono fun b w hb => by
        show upd S'.F a _ b = some w
        rw [upd_ne (ne_of_none hb hf)]; exact hb)
    | dtn ks => exact u.elim
variable {e : Expr} {es : List Expr} {t : TD} {tr : TDA}
theorem pda_nil : PDA bk X W [] tNilD := PA.imp pa_nil fun _ _ _ q => by
  obtain ⟨S, env, Hz, Qd, Ex, ok, ab, ex, con, t⟩ := q
  exact con [] [] _ _ t (Ext.refl ok) .nil
theorem pda_cons (ha : PD bk X W e t) (hr : PDA bk X W es tr) (hs : starEach (e :: es) X.env = (false, eval e X.env) :: starEach es X.env) : PDA bk X W (e :: es) (tConsD t tr) := PA.imp (pa_cons ha hr hs) fun σ H Q q => by
  obtain ⟨S, env, Hz, Qd, Ex, ok, ab, ex, con, t⟩ := q
  refine ⟨S, env, Hz, _, Ex, ok, ab, ex, fun r v H1 S1 q1 e1 r1 => ?_, t⟩
  obtain ⟨S2, r', e2, ra, q2, _⟩ := r1.arg ok e1 q1
  refine ⟨S2, env, Hz, _, Ex, e2.ok, ab.ext e2, ex.ext ok e2, fun rs vs H3 S3 q3 e3 rv => ?_, q2⟩
  exact con (r' :: rs) (v :: vs) H3 S3 q3 (Ext.trans ok e2 e3) (.cons (by
    have := RArgs.ext (X := X) (vs := [v]) (rs := [r']) (.cons ra .nil) e3
    cases this with
    | cons h _ => exact h) rv)

/-! ### displays -/
def allD : List RV → (List PyData → Prop) → Prop
  | [], k => k []
  | .d x :: rs, k => allD rs fun xs => k (x :: xs)
  | _ :: _, _ => False
theorem RArgs.data {S : AS} : ∀ {rs : List RV} {vs : List V} {k : List PyData → Prop}, RArgs X.K S vs rs → allD rs k → ∃ xs, RpAll X.K S.F vs xs ∧ k xs
  | [], _, _, h, q => by cases h; exact ⟨[], .nil, q⟩
  | .d x :: rs, _, _, h, q => by
    cases h with
    | cons h1 h2 =>
      obtain ⟨xs, r, q⟩ := RArgs.data (rs := rs) h2 q
      exact ⟨x :: xs, .cons h1 r, q⟩
  | .own _ :: _, _, _, _, q => q.elim
  | .bor _ :: _, _, _, _, q => q.elim
  | .box :: _, _, _, _, q => q.elim
  | .scr _ :: _, _, _, _, q => q.elim
def tTupD (t : TDA) : TD := fun env Q Ex => t env (fun rs => allD rs fun xs => xs.length ≤ sizeLine ∧ Q (.d (.tuple xs))) Ex
def tLstD (t : TDA) : TD := fun env Q Ex => t env (fun rs => allD rs fun xs => xs.length ≤ sizeLine ∧ Q (.own (.lst xs))) Ex
theorem pd_tup {x1} (h : PDA bk X W es tr) : PD bk X W (.Tuple es x1 pos) (tTupD tr) := PE.imp (pe_tup h) fun σ H Q q => by
  obtain ⟨S, env, Hz, Qd, Ex, ok, ab, ex, con, t⟩ := q
  refine ⟨S, env, Hz, _, Ex, ok, ab, ex, fun rs vs H1 S1 q1 e1 r1 => ?_, t⟩
  obtain ⟨xs, rx, z, q2⟩ := r1.data q1
  exact ⟨by rw [rx.length]; exact z, fun p hp => (con.ext ok e1).tup e1.ok q2 rx p hp⟩
theorem pd_lst (h : PDA bk X W es tr) : PD bk X W (.List es pos) (tLstD tr) := PE.imp (pe_lst h) fun σ H Q q => by
  obtain ⟨S, env, Hz, Qd, Ex, ok, ab, ex, con, t⟩ := q
  refine ⟨S, env, Hz, _, Ex, ok, ab, ex, fun rs vs H1 S1 q1 e1 r1 => ?_, t⟩
  obtain ⟨xs, rx, z, q2⟩ := r1.data q1
  exact ⟨by rw [rx.length]; exact z, fun p hp => (con.ext ok e1).lst e1.ok q2 rx p hp⟩
def tDic0 : TD := fun _ Q _ => Q (.own (.dic []))
theorem pd_dic0 : PD bk X W (.Dict [] [] pos) tDic0 := PE.imp pe_dnewK fun σ H Q q => by
  obtain ⟨S, env, Hz, Qd, Ex, ok, ab, ex, con, t⟩ := q
  exact fun p hp => con.dic ok t .nil p hp
/-- {'k': e} -/
def tDic1 (k : Str) (t : TD) : TD := fun env Q Ex => t env (fun r => r.arg fun r' => match r' with | .d x => Q (.own (.dic [(.str k, x)])) | _ => False) Ex
theorem pd_dic1 {k : Str} {j : Nat} {p1 : Pos} (h : PD bk X W e t) : PD bk X W (.Dict [some (.Constant (.str k) j p1)] [e] pos) (tDic1 k t) :=
  PE.imp (pe_disp (pps_cons pe_str h pps_nil) rfl rfl (fun z => by cases z) (show 1 ≤ 15 by decide)) fun σ H Q q => by
    obtain ⟨S, env, Hz, Qd, Ex, ok, ab, ex, con, t⟩ := q
    intro p hp
    have lp : p ∉ S.l := fun m => ok.there m hp
    have e0 := Ext.laid (o := .dK []) ok hp
    refine ⟨S, env, Hz, _, Ex, e0.ok, ab.ext e0, ex.ext ok e0, fun r v H1 S1 q1 e1 r1 => ?_, t⟩
    obtain ⟨S2, r', e2, ra, q2, _⟩ := r1.arg e0.ok e1 q1
    have hp2 : H1 p = some (.dK []) := e2.kp _ _ upd_same lp
    refine ⟨hp2, [(.inr k, v)], rfl, by simp, ?_⟩
    cases r' with
    | d x =>
      have e3 : Ext bk S S2 H (upd H1 p (.dK (mergeK [] [(.inr k, v)]))) := by
        refine ⟨e2.fz, fun a h1 h2 => ?_, e2.eb, e2.el, fun a o h m => ?_, ⟨fun a o h => ?_, e2.ok.out, ?_⟩⟩
        · have := e2.nw a h1 h2
          by_cases z : a = p
          · rw [z]; exact hp
          · rw [upd_ne z] at this; exact this
        · rw [upd_ne (ne_of_none h hp)]
          exact e2.kp _ _ (by rw [upd_ne (ne_of_none h hp)]; exact h) m
        · by_cases z : a = p
          · subst z
            have z2 : S.F a = none := ok.free hp
            have := e2.nw a z2 (by rw [h]; exact nofun)
            rw [upd_same] at this; cases this
          · rw [upd_ne z]; exact e2.ok.sub a o h
        · rcases e2.ok.box with z | z
          · exact .inl z
          · exact .inr (bk.loc z fun a m => upd_ne fun z => lp (by rw [← e2.el, ← z]; exact m))
      refine con _ _ _ _ q2 e3 ⟨p, rfl, hp, by rw [e2.el]; exact lp, ?_, _, upd_same, ?_⟩
      · cases z : S2.F p with
        | none => rfl
        | some w =>
          have := e2.nw p (ok.free hp) (by rw [z]; exact nofun)
          rw [upd_same] at this; cases this
      · exact .cons ra .nil
    | own o => exact q2.elim
    | bor o => exact q2.elim
    | box => exact q2.elim
    | scr ns => exact q2.elim

/-! ### and, or, not, if -/
variable {a b c : Expr} {ta tb tc : TD} {tA tB : TDT} {rest : List Expr}
/-- a bool -/
def RV.bl (r : RV) (k : Bool → Prop) : Prop := r.use fun x => match x with | .bool b => k b | _ => False
def tAndD (ta tb : TD) : TD := fun env Q Ex => ta env (fun r => r.bl fun b => if b = true then tb env Q Ex else Q (.d (.bool false))) Ex
def tOrD (ta tb : TD) : TD := fun env Q Ex => ta env (fun r => r.bl fun b => if b = true then Q (.d (.bool true)) else tb env Q Ex) Ex
def tNotD (ta : TD) : TD := fun env Q Ex => ta env (fun r => r.bl fun b => Q (.d (.bool !b))) Ex
def tIteD (tc ta tb : TD) : TD := fun env Q Ex => tc env (fun r => r.bl fun b => if b = true then ta env Q Ex else tb env Q Ex) Ex
theorem RRes.bl {v : V} {r : RV} {k : Bool → Prop} (h : RRes X.K S' H H' v r) (u : r.bl k) : ∃ b, v = .bl b ∧ k b := by
  obtain ⟨x, rx, q2⟩ := h.rq u
  cases x with
  | bool b => exact ⟨b, rx.rr.bool, q2⟩
  | _ => exact q2.elim
theorem pd_and (ha : PD bk X W a ta) (hb : PD bk X W (.BoolOp .And (b :: rest) pos) tb) : PD bk X W (.BoolOp .And (a :: b :: rest) pos) (tAndD ta tb) := PE.imp (pe_and ha hb) fun σ H Q q => by
  obtain ⟨S, env, Hz, Qd, Ex, ok, ab, ex, con, t⟩ := q
  refine ⟨S, env, Hz, _, Ex, ok, ab, ex, fun r v H1 S1 q1 e1 r1 => ?_, t⟩
  obtain ⟨b, e, q2⟩ := r1.bl q1
  refine ⟨b, e, ?_⟩
  cases b with
  | true => exact ⟨S1, env, Hz, Qd, Ex, e1.ok, ab.ext e1, ex.ext ok e1, con.ext ok e1, q2⟩
  | false => exact (con.ext ok e1).data e1.ok q2 (.bl false)
theorem pd_or (ha : PD bk X W a ta) (hb : PD bk X W (.BoolOp .Or (b :: rest) pos) tb) : PD bk X W (.BoolOp .Or (a :: b :: rest) pos) (tOrD ta tb) := PE.imp (pe_or ha hb) fun σ H Q q => by
  obtain ⟨S, env, Hz, Qd, Ex, ok, ab, ex, con, t⟩ := q
  refine ⟨S, env, Hz, _, Ex, ok, ab, ex, fun r v H1 S1 q1 e1 r1 => ?_, t⟩
  obtain ⟨b, e, q2⟩ := r1.bl q1
  refine ⟨b, e, ?_⟩
  cases b with
  | false => exact ⟨S1, env, Hz, Qd, Ex, e1.ok, ab.ext e1, ex.ext ok e1, con.ext ok e1, q2⟩
  | true => exact (con.ext ok e1).data e1.ok q2 (.bl true)
theorem pd_one {op} (h : PD bk X W a ta) : PD bk X W (.BoolOp op [a] pos) ta := pe_one h
theorem pd_not (ha : PD bk X W a ta) : PD bk X W (.UnaryOp .Not a pos) (tNotD ta) := PE.imp (pe_not ha) fun σ H Q q => by
  obtain ⟨S, env, Hz, Qd, Ex, ok, ab, ex, con, t⟩ := q
  refine ⟨S, env, Hz, _, Ex, ok, ab, ex, fun r v H1 S1 q1 e1 r1 => ?_, t⟩
  obtain ⟨b, e, q2⟩ := r1.bl q1
  exact ⟨b, e, (con.ext ok e1).data e1.ok q2 (.bl _)⟩
/-- as tests -/
def PWD (bk : BoxKind) (X : Cx) (W : WX) (e : Expr) (t : TDT) : Prop := PW X e (liftT bk X W t)
theorem PW.imp {e : Expr} {t t' : TT} (h : PW X e t) (i : ∀ σ H Q, t' σ H Q → t σ H Q) : PW X e t' := ⟨fun wh pins s σ H Q I q => h.run wh pins s σ H Q I (i σ H Q q)⟩
theorem pdt_and1 (ha : PDT bk X W a tA) : PWD bk X W (.BoolOp .And [a] pos) tA := pw_and1 ha
theorem pdt_or1 (ha : PDT bk X W a tA) : PWD bk X W (.BoolOp .Or [a] pos) tA := pw_or1 ha
theorem pdt_and (ha : PDT bk X W a (tTst ta)) (hb : PWD bk X W (.BoolOp .And (b :: rest) pos) (tTst tb)) : PWD bk X W (.BoolOp .And (a :: b :: rest) pos) (tTst (tAndD ta tb)) := PW.imp (pw_and ha hb) fun σ H Q q => by
  obtain ⟨S, env, Hz, Qd, Ex, ok, ab, ex, con, t⟩ := q
  refine ⟨S, env, Hz, _, Ex, ok, ab, ex, fun c H1 S1 q1 e1 => ?_, t⟩
  cases c with
  | true => exact ⟨S1, env, Hz, Qd, Ex, e1.ok, ab.ext e1, ex.ext ok e1, fun b H2 S2 h1 h2 => con b H2 S2 h1 (Ext.trans ok e1 h2), q1⟩
  | false => exact con false H1 S1 q1 e1
theorem pdt_or (ha : PDT bk X W a (tTst ta)) (hb : PWD bk X W (.BoolOp .Or (b :: rest) pos) (tTst tb)) : PWD bk X W (.BoolOp .Or (a :: b :: rest) pos) (tTst (tOrD ta tb)) := PW.imp (pw_or ha hb) fun σ H Q q => by
  obtain ⟨S, env, Hz, Qd, Ex, ok, ab, ex, con, t⟩ := q
  refine ⟨S, env, Hz, _, Ex, ok, ab, ex, fun c H1 S1 q1 e1 => ?_, t⟩
  cases c with
  | false => exact ⟨S1, env, Hz, Qd, Ex, e1.ok, ab.ext e1, ex.ext ok e1, fun b H2 S2 h1 h2 => con b H2 S2 h1 (Ext.trans ok e1 h2), q1⟩
  | true => exact con true H1 S1 q1 e1
theorem pdt_not (ha : PDT bk X W a (tTst ta)) : PDT bk X W (.UnaryOp .Not a pos) (tTst (tNotD ta)) := PT.imp (pt_not ha) fun σ H Q q => by
  obtain ⟨S, env, Hz, Qd, Ex, ok, ab, ex, con, t⟩ := q
  exact ⟨S, env, Hz, _, Ex, ok, ab, ex, fun c H1 S1 q1 e1 => con (!c) H1 S1 q1 e1, t⟩
theorem pd_ite (hc : PDT bk X W c (tTst tc)) (ha : PD bk X W a ta) (hb : PD bk X W b tb) : PD bk X W (.IfExp c a b pos) (tIteD tc ta tb) := PE.imp (pe_ifExp hc ha hb) fun σ H Q q => by
  obtain ⟨S, env, Hz, Qd, Ex, ok, ab, ex, con, t⟩ := q
  refine ⟨S, env, Hz, _, Ex, ok, ab, ex, fun c H1 S1 q1 e1 => ?_, t⟩
  cases c with
  | true => exact ⟨S1, env, Hz, Qd, Ex, e1.ok, ab.ext e1, ex.ext ok e1, con.ext ok e1, q1⟩
  | false => exact ⟨S1, env, Hz, Qd, Ex, e1.ok, ab.ext e1, ex.ext ok e1, con.ext ok e1, q1⟩
/-- a < b < c -/
def tChainD (g g' : GD) (ta tb tc : TD) : TD := fun env Q Ex => ta env (fun r => r.use fun x => tb env (fun r' => r'.use fun y => g x y fun r2 => r2.bl fun k => if k = true then tc env (fun r3 => r3.use fun z => g' y z Q) Ex else Q (.d (.bool false))) Ex) Ex
theorem chain_data {op op' : CmpOp} {g g' : GD} {σ : Sg} {H : Hp} {Q : VK} (q : liftE bk X W (tChainD g g' ta tb tc) σ H Q) :
    tChain (fun x y H Q => ∃ S dx dy Qd, AOk bk S H ∧ Rq X.K S H x dx ∧ Rq X.K S H y dy ∧ Con bk X S H Q Qd ∧ g dx dy Qd) (fun x y H Q => ∃ S dx dy Qd, AOk bk S H ∧ Rq X.K S H x dx ∧ Rq X.K S H y dy ∧ Con bk X S H Q Qd ∧ g' dx dy Qd)
      (liftE bk X W ta) (liftE bk X W tb) (liftE bk X W tc) σ H Q := by
  obtain ⟨S, env, Hz, Qd, Ex, ok, ab, ex, con, t⟩ := q
  refine ⟨S, env, Hz, _, Ex, ok, ab, ex, fun r v H1 S1 q1 e1 r1 => ?_, t⟩
  obtain ⟨x, rx, q2⟩ := r1.rq q1
  refine ⟨S1, env, Hz, _, Ex, e1.ok, ab.ext e1, ex.ext ok e1, fun r' v' H2 S2 q3 e2 r2 => ?_, q2⟩
  obtain ⟨y, ry, q4⟩ := r2.rq q3
  have e12 := Ext.trans ok e1 e2
  refine ⟨S2, x, y, _, e2.ok, rx.ext e2, ry, fun r3 v3 H3 S3 q5 e3 r3' => ?_, q4⟩
  obtain ⟨k, ek, q6⟩ := r3'.bl q5
  refine ⟨k, ek, ?_⟩
  have e13 := Ext.trans ok e12 e3
  cases k with
  | true =>
    rw [if_pos rfl]
    refine ⟨S3, env, Hz, _, Ex, e3.ok, ab.ext e13, ex.ext ok e13, fun r4 v4 H4 S4 q7 e4 r4' => ?_, q6⟩
    obtain ⟨z, rz, q8⟩ := r4'.rq q7
    exact ⟨S4, y, z, Qd, e4.ok, (ry.ext e3).ext e4, rz, con.ext ok (Ext.trans ok e13 e4), q8⟩
  | false =>
    rw [if_neg Bool.false_ne_true]
    exact (con.ext ok e13).data e3.ok q6 (.bl false)
theorem pd_chain {op op' : CmpOp} {g g' : GD} (ho : OpD bk X (compareOp op) g) (ho' : OpD bk X (compareOp op') g') (ha : PD bk X W a ta) (hb : PD bk X W b tb) (hc : PD bk X W c tc) (hm : lastMarks [op, op'] [b, c] = false) :
    PD bk X W (.Compare a [op, op'] [b, c] pos) (tChainD g g' ta tb tc) := PE.imp (pe_chain ho ho' ha hb hc hm) fun _ _ _ q => chain_data (op := op) (op' := op') q
theorem pdt_chain {op op' : CmpOp} {g g' : GD} (ho : OpD bk X (compareOp op) g) (ho' : OpD bk X (compareOp op') g') (ha : PD bk X W a ta) (hb : PD bk X W b tb) (hc : PD bk X W c tc) (hm : lastMarks [op, op'] [b, c] = false) :
    PDT bk X W (.Compare a [op, op'] [b, c] pos) (tTst (tChainD g g' ta tb tc)) := PT.imp (pt_chain ho ho' ha hb hc hm) fun _ _ _ q => by
  obtain ⟨S, env, Hz, Qd, Ex, h⟩ := lift_tst q
  exact chain_data (op := op) (op' := op') ⟨S, env, Hz, Qd, Ex, h⟩
end
end HA

namespace HA
open PySem PySem.Spec PyProof.Rows L2

/-! ### arguments that are only read -/
abbrev TDU := En → (List PyData → Prop) → (Err → Prop) → Prop
def tNilU : TDU := fun _ Q _ => Q []
def tConsU (ta : TD) (tr : TDU) : TDU := fun env Q Ex => ta env (fun r => r.use fun x => tr env (fun xs => Q (x :: xs)) Ex) Ex
section
variable (bk : BoxKind) (X : Cx) (W : WX)
def liftU (t : TDU) : TA := fun σ H Q => ∃ S env Hz Qd Ex, AOk bk S H ∧ Abs X.K S Hz H σ env ∧ ExOk bk X W S σ H Ex ∧ (∀ xs vs H' S', Qd xs → Ext bk S S' H H' → Paired (Rq X.K S' H') vs xs → Q vs H') ∧ t env Qd Ex
def PDU (es : List Expr) (t : TDU) : Prop := PA X es (liftU bk X W t)
abbrev GB := List PyData → (RV → Prop) → Prop
def CallD (f : Value) (g : GB) : Prop := CallR X f fun vs H Q => ∃ S xs Qd, AOk bk S H ∧ Paired (Rq X.K S H) vs xs ∧ Con bk X S H Q Qd ∧ g xs Qd
end
def tCallB (g : GB) (t : TDU) : TD := fun env Q Ex => t env (fun xs => g xs Q) Ex
section
variable {bk : BoxKind} {X : Cx} {W : WX} {S S' : AS} {σ : Sg} {H H' Hz : Hp} {env : En} {pos : Pos} {e : Expr} {es : List Expr} {t : TD} {tr : TDU} {g : GB}
theorem pdu_nil : PDU bk X W [] tNilU := PA.imp pa_nil fun _ _ _ q => by
  obtain ⟨S, env, Hz, Qd, Ex, ok, ab, ex, con, t⟩ := q
  exact con [] [] _ _ t (Ext.refl ok) .nil
theorem pdu_cons (ha : PD bk X W e t) (hr : PDU bk X W es tr) (hs : starEach (e :: es) X.env = (false, eval e X.env) :: starEach es X.env) : PDU bk X W (e :: es) (tConsU t tr) := PA.imp (pa_cons ha hr hs) fun σ H Q q => by
  obtain ⟨S, env, Hz, Qd, Ex, ok, ab, ex, con, t⟩ := q
  refine ⟨S, env, Hz, _, Ex, ok, ab, ex, fun r v H1 S1 q1 e1 r1 => ?_, t⟩
  obtain ⟨x, rx, q2⟩ := r1.rq q1
  refine ⟨S1, env, Hz, _, Ex, e1.ok, ab.ext e1, ex.ext ok e1, fun xs vs H2 S2 q3 e2 r2 => ?_, q2⟩
  exact con _ _ _ _ q3 (Ext.trans ok e1 e2) (.cons (rx.ext e2) r2)
theorem lift_callB {σ : Sg} {H : Hp} {Q : VK} (q : liftE bk X W (tCallB g tr) σ H Q) : liftU bk X W tr σ H fun vs H1 => ∃ S xs Qd, AOk bk S H1 ∧ Paired (Rq X.K S H1) vs xs ∧ Con bk X S H1 Q Qd ∧ g xs Qd := by
  obtain ⟨S, env, Hz, Qd, Ex, ok, ab, ex, con, t⟩ := q
  exact ⟨S, env, Hz, _, Ex, ok, ab, ex, fun xs vs H1 S1 q1 e1 r1 => ⟨S1, xs, Qd, e1.ok, r1, con.ext ok e1, q1⟩, t⟩
variable {x : Str} {p : Pos} {id T : String}
theorem pd_callB (hc : CallD bk X (.builtin id) g) (hg : Gl X x) (hm : X.mg x = none) (hv : bootBuiltins x = some (.builtin id)) (ha : PDU bk X W (e :: es) tr) (hn : x ≠ "__name__") (hdb : (x == ("__debug__" : Str)) = false)
    (he : starEach (e :: es) X.env = (false, eval e X.env) :: starEach es X.env) (hpl : (backTo pos (starEach es X.env)).any (·.1) = false) : PD bk X W (.Call (.Name x p) (e :: es) [] pos) (tCallB g tr) :=
  PE.imp (pe_callB hc hg hm hv ha hn hdb he hpl) fun _ _ _ q => lift_callB q
theorem pd_callTy (hc : CallD bk X (.type T) g) (hg : Gl X x) (hm : X.mg x = none) (hv : bootBuiltins x = some (.type T)) (ha : PDU bk X W (e :: es) tr) (hn : x ≠ "__name__") (hdb : (x == ("__debug__" : Str)) = false)
    (he : starEach (e :: es) X.env = (false, eval e X.env) :: starEach es X.env) (hpl : (backTo pos (starEach es X.env)).any (·.1) = false) : PD bk X W (.Call (.Name x p) (e :: es) [] pos) (tCallB g tr) :=
  PE.imp (pe_callTy hc hg hm hv ha hn hdb he hpl) fun _ _ _ q => lift_callB q
theorem pd_callImp (hc : CallD bk X (.builtin id) g) (hg : Gl X x) (hm : X.mg x = some (.builtin id)) (ha : PDU bk X W (e :: es) tr) (hdb : (x == ("__debug__" : Str)) = false)
    (he : starEach (e :: es) X.env = (false, eval e X.env) :: starEach es X.env) (hpl : (backTo pos (starEach es X.env)).any (·.1) = false) : PD bk X W (.Call (.Name x p) (e :: es) [] pos) (tCallB g tr) :=
  PE.imp (pe_callBfun hc hg hm ha hdb he hpl) fun _ _ _ q => lift_callB q
end

/-! ### the built-ins -/
def gLen : GB
  | [.list xs], Q => Q (.d (.int xs.length))
  | [.tuple xs], Q => Q (.d (.int xs.length))
  | [.dict xs], Q => Q (.d (.int xs.length))
  | [.str x], Q => x.length ≤ sizeLine ∧ Q (.d (.int x.length))
  | _, _ => False
def gInt : GB
  | [.int i], Q => Q (.d (.int i))
  | [.bool b], Q => Q (.d (.int (if b then 1 else 0)))
  | [.str x], Q => x.length ≤ 640 ∧ ∃ n, PySem.intText? x = some n ∧ Q (.d (.int n))
  | _, _ => False
def gAbs : GB
  | [.int i], Q => Q (.d (.int (if i < 0 then -i else i)))
  | _, _ => False
def gGcd : GB
  | [.int i, .int j], Q => Q (.d (.int (Nat.gcd i.natAbs j.natAbs : Nat)))
  | _, _ => False
/-- what repr can show -/
def showOk (x : PyData) : Prop := x.showable = true ∧ x.depth ≤ 60 ∧ x.shown.length ≤ sizeLine
def gRepr : GB
  | [x], Q => showOk x ∧ Q (.d (.str x.shown))
  | _, _ => False
def gList : GB
  | [.list xs], Q => Q (.own (.lst xs))
  | [.tuple xs], Q => Q (.own (.lst xs))
  | _, _ => False
def gTuple : GB
  | [.list xs], Q => Q (.d (.tuple xs))
  | [.tuple xs], Q => Q (.d (.tuple xs))
  | _, _ => False
section
variable {bk : BoxKind} {X : Cx} {S : AS} {H : Hp}
theorem paired1 {α β : Type} {R : α → β → Prop} {vs : List α} {y : β} (h : Paired R vs [y]) : ∃ v, vs = [v] ∧ R v y := by
  cases h with
  | cons h1 h2 => cases h2; exact ⟨_, rfl, h1⟩
theorem paired2 {α β : Type} {R : α → β → Prop} {vs : List α} {y z : β} (h : Paired R vs [y, z]) : ∃ v w, vs = [v, w] ∧ R v y ∧ R w z := by
  cases h with
  | cons h1 h2 => obtain ⟨w, rfl, h3⟩ := paired1 h2; exact ⟨_, w, rfl, h1, h3⟩
theorem RpKv.length {K : PySem.W.Frag} {F : Hp} : ∀ {ds : List (PyData × PyData)} {vs : List (Key × V)}, RpKv K F vs ds → vs.length = ds.length
  | [], _, h => by cases h; rfl
  | _ :: _, _, h => by
    cases h with
    | cons h1 h2 => simp [RpKv.length h2]
theorem cd_len : CallD bk X (.builtin "len") gLen := by
  intro pins s σ H vs us Q I r h
  obtain ⟨S, xs, Qd, ok, rx, con, g⟩ := h
  unfold gLen at g
  split at g
  · obtain ⟨v, rfl, h1⟩ := paired1 rx
    obtain ⟨a, ws, rfl, ha, ra⟩ := h1.list ok
    exact call_len pins s σ H _ us Q I r ⟨_, _, rfl, .inl ⟨ws, ha, rfl⟩, by rw [ra.length]; exact con.data ok g (.int _)⟩
  · obtain ⟨v, rfl, h1⟩ := paired1 rx
    obtain ⟨a, ws, rfl, ha, ra⟩ := h1.tuple
    exact call_len pins s σ H _ us Q I r ⟨_, _, rfl, .inr ⟨ws, sqT_mono ok.sub ha, rfl⟩, by rw [ra.length]; exact con.data ok g (.int _)⟩
  · obtain ⟨v, rfl, h1⟩ := paired1 rx
    obtain ⟨a, ws, rfl, ha, ra⟩ := h1.rr.dict ok.sub
    exact call_lenD pins s σ H _ us Q I r ⟨_, _, rfl, ha, by rw [ra.length]; exact con.data ok g (.int _)⟩
  · obtain ⟨v, rfl, h1⟩ := paired1 rx
    have := h1.rr.str
    subst this
    exact call_len pins s σ H _ us Q I r ⟨_, _, rfl, ⟨g.1, rfl⟩, con.data ok g.2 (.int _)⟩
  · exact g.elim
theorem cd_int : CallD bk X (.type "int") gInt := by
  intro pins s σ H vs us Q I r h
  obtain ⟨S, xs, Qd, ok, rx, con, g⟩ := h
  unfold gInt at g
  split at g
  · obtain ⟨v, rfl, h1⟩ := paired1 rx
    have := h1.rr.int
    subst this
    exact call_int1 pins s σ H _ us Q I r (.inl ⟨_, rfl, con.data ok g (.int _)⟩)
  · obtain ⟨v, rfl, h1⟩ := paired1 rx
    have := h1.rr.bool
    subst this
    exact call_int1 pins s σ H _ us Q I r (.inr ⟨_, rfl, con.data ok g (.int _)⟩)
  · obtain ⟨v, rfl, h1⟩ := paired1 rx
    have := h1.rr.str
    subst this
    obtain ⟨z, n, hn, g⟩ := g
    exact call_int_str pins s σ H _ us Q I r ⟨_, n, rfl, hn, z, con.data ok g (.int _)⟩
  · exact g.elim
theorem cd_abs : CallD bk X (.builtin "abs") gAbs := by
  intro pins s σ H vs us Q I r h
  obtain ⟨S, xs, Qd, ok, rx, con, g⟩ := h
  unfold gAbs at g
  split at g
  · obtain ⟨v, rfl, h1⟩ := paired1 rx
    have := h1.rr.int
    subst this
    exact call_abs pins s σ H _ us Q I r ⟨_, rfl, con.data ok g (.int _)⟩
  · exact g.elim
theorem cd_gcd : CallD bk X (.builtin "math.gcd") gGcd := by
  intro pins s σ H vs us Q I r h
  obtain ⟨S, xs, Qd, ok, rx, con, g⟩ := h
  have g' : ∃ i j, xs = [.int i, .int j] ∧ Qd (.d (.int (Nat.gcd i.natAbs j.natAbs : Nat))) := by
    unfold gGcd at g
    split at g
    · exact ⟨_, _, rfl, g⟩
    · exact g.elim
  obtain ⟨i, j, rfl, g⟩ := g'
  obtain ⟨v, w, rfl, h1, h2⟩ := paired2 rx
  have e1 := h1.rr.int
  have e2 := h2.rr.int
  subst e1 e2
  exact cr_gcd pins s σ H _ us Q I r ⟨i, j, rfl, con.data ok g (.int _)⟩
theorem cd_repr (hs : noSys X) (hr : ∃ k, Room k X.A) (hgd : X.A.guards = some []) : CallD bk X (.builtin "repr") gRepr := by
  intro pins s σ H vs us Q I r h
  obtain ⟨S, xs, Qd, ok, rx, con, g⟩ := h
  obtain ⟨k, hr⟩ := hr
  match xs, rx, g with
  | [x], rx, ⟨⟨g1, g2, g3⟩, g⟩ =>
    obtain ⟨v, rfl, h1⟩ := paired1 rx
    obtain ⟨u, rfl, ru⟩ : ∃ u, us = [u] ∧ RelV v u := by
      cases r with
      | cons r1 r2 => cases r2; exact ⟨_, rfl, r1⟩
    obtain ⟨as, rd, ns⟩ := h1.reads ok I hs ru
    have fin : ∀ h' (tk tk2 : Tok), (∀ b o, s.heap.get? b = some o → h'.get? b = some o) → EP X pins σ Q (.str x.shown tk) { s with heap := h', toks := tk2 } := fun h' tk tk2 k => ⟨.str x.shown, H, I.kept k, ⟨_, rfl⟩, con.data ok g (.str _)⟩
    cases x with
    | none => cases rd; exact PySem.P.repr_of_none (fin _ _ _ fun _ _ e => e)
    | bool b => cases rd; exact PySem.P.repr_of_bool (fin _ _ _ fun _ _ e => e)
    | int i =>
      cases rd
      exact PySem.P.repr_of_int (by simpa [PyData.showable] using g1) (fin _ _ _ fun _ _ e => e)
    | str z =>
      cases rd
      exact PySem.P.repr_of_str (fin _ _ _ fun _ _ e => e) g3
    | list ys =>
      obtain ⟨a, ws, e, hl, ha⟩ := h1.list ok
      subst e
      cases (show u = Value.ref a from ru)
      have := hr.units
      obtain ⟨T, idr, S2⟩ := shows_list I hl (ha.mono ok.sub) g1 g3
      exact call_repr_slot (by omega) (S2.typeIs s fun _ _ e => e) S2.slotRepr (S2.call X.A.in1 _ s _ hgd (by show X.A.units + 1 + _ < cLine; omega) (fun _ _ e => e) fun h' u tk k => ⟨_, _, rfl, fin h' u tk k⟩)
    | tuple ys =>
      obtain ⟨a, ws, e, hl, ha⟩ := h1.tuple
      subst e
      cases (show u = Value.ref a from ru)
      have := hr.units
      obtain ⟨T, idr, S2⟩ := shows_tup I (sqT_mono ok.sub hl) (ha.mono ok.sub) g1 g3
      exact call_repr_slot (by omega) (S2.typeIs s fun _ _ e => e) S2.slotRepr (S2.call X.A.in1 _ s _ hgd (by show X.A.units + 1 + _ < cLine; omega) (fun _ _ e => e) fun h' u tk k => ⟨_, _, rfl, fin h' u tk k⟩)
    | dict ys =>
      obtain ⟨a, ws, e, hl, ha⟩ := h1.rr.dict ok.sub
      subst e
      cases (show u = Value.ref a from ru)
      have := hr.units
      obtain ⟨T, idr, S2⟩ := shows_dic I hl (ha.mono ok.sub) g1 g3
      exact call_repr_slot (by omega) (S2.typeIs s fun _ _ e => e) S2.slotRepr (S2.call X.A.in1 _ s _ hgd (by show X.A.units + 1 + _ < cLine; omega) (fun _ _ e => e) fun h' u tk k => ⟨_, _, rfl, fin h' u tk k⟩)
  | [], _, g => exact g.elim
  | _ :: _ :: _, _, g => exact g.elim
theorem cd_list : CallD bk X (.type "list") gList := by
  intro pins s σ H vs us Q I r h
  obtain ⟨S, xs, Qd, ok, rx, con, g⟩ := h
  have g' : ∃ ys, (xs = [.list ys] ∨ xs = [.tuple ys]) ∧ Qd (.own (.lst ys)) := by
    unfold gList at g
    split at g
    · exact ⟨_, .inl rfl, g⟩
    · exact ⟨_, .inr rfl, g⟩
    · exact g.elim
  obtain ⟨ys, rfl | rfl, g⟩ := g'
  · obtain ⟨v, rfl, h1⟩ := paired1 rx
    obtain ⟨a, ws, rfl, ha, ra⟩ := h1.list ok
    exact call_list_of pins s σ H _ us Q I r ⟨a, ws, rfl, .inl (ha), fun p hp => con.lst ok g ra p hp⟩
  · obtain ⟨v, rfl, h1⟩ := paired1 rx
    obtain ⟨a, ws, rfl, ha, ra⟩ := h1.tuple
    exact call_list_of pins s σ H _ us Q I r ⟨a, ws, rfl, .inr (sqT_mono ok.sub ha), fun p hp => con.lst ok g ra p hp⟩
theorem cd_tuple : CallD bk X (.type "tuple") gTuple := by
  intro pins s σ H vs us Q I r h
  obtain ⟨S, xs, Qd, ok, rx, con, g⟩ := h
  have g' : ∃ ys, (xs = [.list ys] ∨ xs = [.tuple ys]) ∧ Qd (.d (.tuple ys)) := by
    unfold gTuple at g
    split at g
    · exact ⟨_, .inl rfl, g⟩
    · exact ⟨_, .inr rfl, g⟩
    · exact g.elim
  obtain ⟨ys, rfl | rfl, g⟩ := g'
  · obtain ⟨v, rfl, h1⟩ := paired1 rx
    obtain ⟨a, ws, rfl, ha, ra⟩ := h1.list ok
    exact call_tuple_of pins s σ H _ us Q I r ⟨a, ws, rfl, .inl ⟨ha, fun p hp => con.tup ok g ra p hp⟩⟩
  · obtain ⟨v, rfl, h1⟩ := paired1 rx
    obtain ⟨a, ws, rfl, ha, ra⟩ := h1.tuple
    exact call_tuple_of pins s σ H _ us Q I r ⟨a, ws, rfl, .inr ⟨sqT_mono ok.sub ha, con.data ok g (.tup ha ra)⟩⟩
end

/-! ### isinstance -/
inductive Ty where
  | int | bool | str | tuple | list | dict
  deriving DecidableEq
def Ty.nm : Ty → String
  | .int => "int" | .bool => "bool" | .str => "str" | .tuple => "tuple" | .list => "list" | .dict => "dict"
def tyOf : PyData → String
  | .none => "NoneType" | .bool _ => "bool" | .int _ => "int" | .str _ => "str" | .list _ => "list" | .tuple _ => "tuple" | .dict _ => "dict"
def isa : Ty → PyData → Bool
  | .int, .int _ => true
  | .int, .bool _ => true
  | .bool, .bool _ => true
  | .str, .str _ => true
  | .tuple, .tuple _ => true
  | .list, .list _ => true
  | .dict, .dict _ => true
  | _, _ => false
theorem kit_isa (T : Ty) (x : PyData) : kitB (tyOf x) T.nm = some (isa T x) := by
  cases T <;> cases x <;> (simp only [tyOf, Ty.nm, isa]; decide +kernel)
def tIsa (T : Ty) (t : TD) : TD := fun env Q Ex => t env (fun r => r.use fun x => Q (.d (.bool (isa T x)))) Ex
section
variable {bk : BoxKind} {X : Cx} {W : WX} {S : AS} {H : Hp} {pos p p2 : Pos} {e : Expr} {t : TD}
theorem sqT_ty {a : Addr} {xs : List V} {K : PySem.W.Frag} (h : SqT K H a xs) : TyX K H (.ref a) (.type "tuple") := by
  rcases h with (h | ⟨o, h⟩) | ⟨o, its, n, h1, h2, _⟩
  · exact .base (.tup h)
  · exact .fTuple h
  · exact .kTuple h1 h2
theorem sqL_ty {a : Addr} {xs : List V} {K : PySem.W.Frag} (h : SqL K H a xs) : TyX K H (.ref a) (.type "list") := by
  rcases h with (h | ⟨o, h⟩) | ⟨o, its, n, h1, h2, _⟩
  · exact .base (.lst h)
  · exact .base (.frz h)
  · exact .kList h1 h2
theorem Rq.ty {v : V} {x : PyData} {K : PySem.W.Frag} (h : Rq K S H v x) (ok : AOk bk S H) : TyX K H v (.type (tyOf x)) := by
  cases x with
  | none => rw [h.rr.none]; exact .base .non
  | bool b => rw [h.rr.bool]; exact .base (.bl b)
  | int i => rw [h.rr.int]; exact .base (.int i)
  | str z => rw [h.rr.str]; exact .base (.str z)
  | list ys => obtain ⟨a, ws, rfl, ha, _⟩ := h.list ok; exact sqL_ty ha
  | tuple ys => obtain ⟨a, ws, rfl, ha, _⟩ := h.tuple; exact sqT_ty (sqT_mono ok.sub ha)
  | dict ys => obtain ⟨a, ws, rfl, ha, _⟩ := h.rr.dict ok.sub; exact .base (.dK ha)
theorem pd_isa (T : Ty) {x : Str} (hx : x = "isinstance") {y : Str} (hy : y = Str.ofString T.nm) (hg : Gl X x) (hm : X.mg x = none) (hg2 : Gl X y) (hm2 : X.mg y = none) (h : PD bk X W e t)
    (he : starEach [e, .Name y p2] X.env = (false, eval e X.env) :: starEach [.Name y p2] X.env) : PD bk X W (.Call (.Name x p) [e, .Name y p2] [] pos) (tIsa T t) := by
  have bx : bootBuiltins x = some (.builtin "isinstance") := by rw [hx]; decide +kernel
  have by' : bootBuiltins y = some (.type T.nm) := by rw [hy]; cases T <;> decide +kernel
  have n1 : x ≠ "__name__" := by rw [hx]; decide
  have n2 : y ≠ "__name__" := by rw [hy]; cases T <;> decide
  have d1 : (x == ("__debug__" : Str)) = false := by rw [hx]; decide
  have d2 : (y == ("__debug__" : Str)) = false := by rw [hy]; cases T <;> decide
  refine PE.imp (pe_callB call_isi hg hm bx (pa_cons h (pa_cons (pe_bltn (v := .ty T.nm) hg2 hm2 by' rfl n2 d2) pa_nil rfl) he) n1 d1 he rfl) fun σ H Q q => ?_
  obtain ⟨S, env, Hz, Qd, Ex, ok, ab, ex, con, t⟩ := q
  refine ⟨S, env, Hz, _, Ex, ok, ab, ex, fun r v H1 S1 q1 e1 r1 => ?_, t⟩
  obtain ⟨x, rx, q2⟩ := r1.rq q1
  exact ⟨v, .ty T.nm, _, _, isa T x, rfl, .ty _, rx.ty e1.ok, kit_ty (kit_isa T x), (con.ext ok e1).data e1.ok q2 (.bl _)⟩
end

/-! ### items and slices -/
def gIx0 : GD
  | .list xs, .int i, Q => ∃ x, atI xs i = some x ∧ Q (.d x)
  | .tuple xs, .int i, Q => ∃ x, atI xs i = some x ∧ Q (.d x)
  | .str z, .int i, Q => z.length ≤ sizeLine ∧ ∃ c, atI z.cps.toList i = some c ∧ Q (.d (.str ⟨#[c]⟩))
  | _, _, _ => False
theorem RpAll.atI {K : PySem.W.Frag} {F : Hp} {vs : List V} {xs : List PyData} (h : RpAll K F vs xs) {i : Int} {x : PyData} (e : L2.atI xs i = some x) : ∃ v, L2.atI vs i = some v ∧ Rp K F v x := by
  unfold L2.atI at e ⊢
  rw [h.length]
  cases q : ixN xs.length i with
  | none => rw [q] at e; cases e
  | some j => rw [q] at e; exact h.getD e
def IxD (bk : BoxKind) (X : Cx) (g : GD) : Prop := IxR X fun x y H Q => ∃ S dx dy Qd, AOk bk S H ∧ Rq X.K S H x dx ∧ Rq X.K S H y dy ∧ Con bk X S H Q Qd ∧ g dx dy Qd
section
variable {bk : BoxKind} {X : Cx} {W : WX} {pos : Pos} {a b : Expr} {ta tb : TD}
theorem ix_data : IxD bk X gIx0 := by
  intro value slice pins s σ H x y v u Q I rx ry h hsub
  obtain ⟨S, dx, dy, Qd, ok, hx, hy, con, g⟩ := h
  unfold gIx0 at g
  split at g
  · obtain ⟨z, hz, g⟩ := g
    obtain ⟨a, ws, rfl, ha, ra⟩ := hx.list ok
    obtain ⟨w, hw, rw'⟩ := ra.atI hz
    exact ix_list value slice pins s σ H _ y v u Q I rx ry ⟨a, ws, _, w, rfl, hy.rr.int, ha, hw, con.data ok g rw'⟩ hsub
  · obtain ⟨z, hz, g⟩ := g
    obtain ⟨a, ws, rfl, ha, ra⟩ := hx.tuple
    obtain ⟨w, hw, rw'⟩ := ra.atI hz
    exact ix_tup value slice pins s σ H _ y v u Q I rx ry ⟨a, ws, _, w, rfl, hy.rr.int, sqT_mono ok.sub ha, hw, con.data ok g rw'⟩ hsub
  · obtain ⟨z, c, hc, g⟩ := g
    exact ix_str value slice pins s σ H x y v u Q I rx ry ⟨_, _, c, hx.rr.str, hy.rr.int, z, hc, con.data ok g (.str _)⟩ hsub
  · exact g.elim
theorem pd_ix (ha : PD bk X W a ta) (hb : PD bk X W b tb) (hs : PlainIx b) : PD bk X W (.Subscript a b pos) (tBinD gIx0 ta tb) :=
  PE.imp (pe_ix ix_data ha hb hs) fun _ _ _ h => two_data h
end
/-- x[lo:hi] of a list of anything -/
def cutD {α : Type} (xs : List α) (lo hi : Option Int) : List α := (xs.drop (HT.sIx xs.length 0 lo)).take (HT.sIx xs.length xs.length hi - HT.sIx xs.length 0 lo)
theorem RpAll.cut {K : PySem.W.Frag} {F : Hp} {vs : List V} {xs : List PyData} (h : RpAll K F vs xs) (lo hi : Option Int) : RpAll K F (cutV vs lo hi) (cutD xs lo hi) := by
  unfold cutV cutD
  rw [h.length]
  exact (h.drop _).take _
def gSl : PyData → Option Int → Option Int → (RV → Prop) → Prop
  | .list xs, lo, hi, Q => Q (.own (.lst (cutD xs lo hi)))
  | .tuple xs, lo, hi, Q => Q (.d (.tuple (cutD xs lo hi)))
  | .str z, lo, hi, Q => z.length ≤ sizeLine ∧ Q (.d (.str (cutS z lo hi)))
  | _, _, _, _ => False
/-- a part of a slice -/
abbrev TDO := En → (Option Int → Prop) → (Err → Prop) → Prop
def tNoO : TDO := fun _ Q _ => Q none
def tSomeO (t : TD) : TDO := fun env Q Ex => t env (fun r => r.use fun x => match x with | .int i => Q (some i) | _ => False) Ex
def liftO (bk : BoxKind) (X : Cx) (W : WX) (t : TDO) : TO := fun σ H Q => ∃ S env Hz Qd Ex, AOk bk S H ∧ Abs X.K S Hz H σ env ∧ ExOk bk X W S σ H Ex ∧ (∀ o H' S', Qd o → Ext bk S S' H H' → Q o H') ∧ t env Qd Ex
def PDO (bk : BoxKind) (X : Cx) (W : WX) (e : Option Expr) (t : TDO) : Prop := PO X e (liftO bk X W t)
def tSlD (t : TD) (tl th : TDO) : TD := fun env Q Ex => t env (fun r => r.use fun x => tl env (fun l => th env (fun u => gSl x l u Q) Ex) Ex) Ex
section
variable {bk : BoxKind} {X : Cx} {W : WX} {pos p2 : Pos} {e : Expr} {lo hi : Option Expr} {t : TD} {tl th : TDO}
theorem PO.imp {e : Option Expr} {t t' : TO} (h : PO X e t) (i : ∀ σ H Q, t' σ H Q → t σ H Q) : PO X e t' := ⟨fun pins s σ H Q I q => h.run pins s σ H Q I (i σ H Q q)⟩
theorem pdo_none : PDO bk X W none tNoO := PO.imp po_none fun _ _ _ q => by
  obtain ⟨S, env, Hz, Qd, Ex, ok, ab, ex, con, t⟩ := q
  exact con none _ S t (Ext.refl ok)
theorem pdo_some (h : PD bk X W e t) : PDO bk X W (some e) (tSomeO t) := PO.imp (po_some h) fun _ _ _ q => by
  obtain ⟨S, env, Hz, Qd, Ex, ok, ab, ex, con, t⟩ := q
  refine ⟨S, env, Hz, _, Ex, ok, ab, ex, fun r v H1 S1 q1 e1 r1 => ?_, t⟩
  obtain ⟨x, rx, q2⟩ := r1.rq q1
  cases x with
  | int i => exact ⟨i, rx.rr.int, con _ _ _ q2 e1⟩
  | _ => exact q2.elim
theorem sl_data : SlR X fun x lo hi H Q => ∃ S dx Qd, AOk bk S H ∧ Rq X.K S H x dx ∧ Con bk X S H Q Qd ∧ gSl dx lo hi Qd := by
  intro pins s σ H x v vl vu lo hi sl Q I rx hs pl pu h
  obtain ⟨S, dx, Qd, ok, hx, con, g⟩ := h
  cases dx with
  | list xs =>
    obtain ⟨a, ws, rfl, ha, ra⟩ := hx.list ok
    exact sl_list pins s σ H _ v vl vu _ _ sl Q I rx hs pl pu ⟨a, ws, rfl, ha, fun p hp => con.lst ok g (ra.cut _ _) p hp⟩
  | tuple xs =>
    obtain ⟨a, ws, rfl, ha, ra⟩ := hx.tuple
    refine sl_tupA pins s σ H _ v vl vu _ _ sl Q I rx hs pl pu ⟨a, ws, rfl, sqT_mono ok.sub ha, fun z => ?_, fun _ p hp => con.tup ok g (ra.cut _ _) p hp⟩
    obtain ⟨z1, z2⟩ := z
    have e : cutD xs lo hi = xs := by
      rw [ra.length] at z1 z2
      unfold cutD
      rw [z1, z2, List.drop_zero, Nat.sub_zero, List.take_length]
    have g' : Qd (.d (.tuple (cutD xs lo hi))) := g
    rw [e] at g'
    exact con.data ok g' (.tup ha ra)
  | str z =>
    obtain ⟨z, g⟩ := g
    exact sl_str pins s σ H x v vl vu _ _ sl Q I rx hs pl pu ⟨_, hx.rr.str, z, con.data ok g (.str _)⟩
  | _ => exact g.elim
theorem pd_sl (h : PD bk X W e t) (hl : PDO bk X W lo tl) (hh : PDO bk X W hi th) : PD bk X W (.Subscript e (.Slice lo hi none p2) pos) (tSlD t tl th) := PE.imp (pe_slice sl_data h hl hh) fun σ H Q q => by
  obtain ⟨S, env, Hz, Qd, Ex, ok, ab, ex, con, t⟩ := q
  refine ⟨S, env, Hz, _, Ex, ok, ab, ex, fun r v H1 S1 q1 e1 r1 => ?_, t⟩
  obtain ⟨x, rx, q2⟩ := r1.rq q1
  refine ⟨S1, env, Hz, _, Ex, e1.ok, ab.ext e1, ex.ext ok e1, fun l H2 S2 q3 e2 => ?_, q2⟩
  have e12 := Ext.trans ok e1 e2
  refine ⟨S2, env, Hz, _, Ex, e2.ok, ab.ext e12, ex.ext ok e12, fun u H3 S3 q4 e3 => ?_, q3⟩
  exact ⟨S3, x, Qd, e3.ok, (rx.ext e2).ext e3, con.ext ok (Ext.trans ok e12 e3), q4⟩
end
end HA

namespace HA
open PySem PySem.Spec PyProof.Rows L2

/-! ### a def's promise, where no repr runs around it -/
structure FnG (P : Program) (w : World) (K : PySem.W.Frag) (mg : Str → Option Value) (base : Heap) (k : Nat) (f : Addr) (fd : FuncData) (ps : List Str) (sp : Sp) : Prop where
  len : ∀ vs H Q E, sp vs H Q E → vs.length = ps.length
  run : ∀ (A : Around) (outer : List Env) (s : Shared) (H : Hp) (args : Args) (us : List Value) (vs : List V) (Q : VK) (E : XK), Room k A → A.guards = some [] →
    Env0 P w K mg base A outer s H → BindsTo s fd args (ps.zip us) → Vals vs us → sp vs H Q E → codeAny (model P w) A (.call (.ref f) args) (CR (L2.CX P w) outer P w H s Q E) s
section
variable {P : Program} {w : World} {K : PySem.W.Frag} {mg : Str → Option Value} {base : Heap} {k j : Nat} {f : Addr} {fd : FuncData} {ps : List Str} {sp sp' : Sp}
theorem FnG.mono (F : FnG P w K mg base j f fd ps sp) (h : j ≤ k) : FnG P w K mg base k f fd ps sp := ⟨F.len, fun A outer s H args us vs Q E hr => F.run A outer s H args us vs Q E (hr.mono h)⟩
theorem FnG.imp (F : FnG P w K mg base k f fd ps sp) (h : ∀ vs H Q E, sp' vs H Q E → sp vs H Q E) : FnG P w K mg base k f fd ps sp' :=
  ⟨fun vs H Q E q => F.len vs H Q E (h _ _ _ _ q), fun A outer s H args us vs Q E hr hg he hb hv hs => F.run A outer s H args us vs Q E hr hg he hb hv (h _ _ _ _ hs)⟩
theorem FnG.of (F : FnOk P w K mg base (L2.CX P w) k f fd ps sp) : FnG P w K mg base k f fd ps sp := ⟨F.len, fun A outer s H args us vs Q E hr _ he hb hv hs => F.run A outer s H args us vs Q E hr he hb hv hs⟩
/-- by its body -/
theorem FnG.body {x qual : Str} {st : Stmt} {N : List Str} (F : Fun K x qual st f fd) (S : FnScope N ps (defScope st)) (len : ∀ vs H Q E, sp vs H Q E → vs.length = ps.length)
    (hb : ∀ (cdv : Value) (A : Around) (outer : List Env) (s : Shared) (H : Hp) (vs : List V) (Q : VK) (E : XK), Room k (A.deeper (envOfC qual (defScope st) s.heap.objs.size f cdv)) → A.guards = some [] → sp vs H Q E →
      ∃ t, PSs (cxOf (L2.CX P w) P w K mg base N qual (defScope st) f cdv A outer s H E) (defBody st) t ∧ t { nx := fun _ H' => Q .non H', rt := Q } (start N vs) H) :
    FnG P w K mg base (k + 1) f fd ps sp := by
  obtain ⟨oc, od, kV, doc, pm, an, cdv, ct, osl, rfl, lk, hcd⟩ := F.ex
  refine ⟨len, fun A outer s H args us vs Q E hr hg e0 bnd rv hsp => ?_⟩
  have inK : K.In s.heap := e0.mod.kin.keeps fun b o e => (e0.bs b o e).1
  have nolim : s.heap.NoLimit := e0.mod.nolimit.keeps fun b o e => (e0.bs b o e).1
  refine codeAny_call_function hr.depth (inK _ _ lk) rfl S.co S.gen rfl (PySem.W.codeRec_of inK hcd) (bnd _ _ _ _ (wpAny_newFunctionEnv_cells S.kind (fun ⟨n, v⟩ hy => ?_) fun env he s1 x => ?_))
  · rcases S.par n (List.of_mem_zip hy).1 with q | q
    · exact .inl q
    · exact .inr ⟨q, PySem.W.cellsFrom_some _ _ _ (.inl q)⟩
  · subst he
    refine ⟨nolim.keeps x.toInCall.keep, codeAny_func ?_⟩
    obtain ⟨t, ht, hq⟩ := hb cdv A outer s H vs Q E (hr.deeper _) hg hsp
    refine wpAny_mono (ht.run [] s1 (start N vs) H _ (inv_start S hr.hd e0 (len _ _ _ _ hsp) rv x) hq) (fun fl s' hs => ?_) fun e s' hs => hs
    cases fl with
    | ret u =>
      obtain ⟨v, σ', H', J, r1, q⟩ := hs
      exact ⟨v, H', J.os, J.bare, J.base, J.hok, r1, q⟩
    | next =>
      obtain ⟨σ', H', J, q⟩ := hs
      exact ⟨V.non, H', J.os, J.bare, J.base, J.hok, rfl, q⟩
    | brk => obtain ⟨_, _, _, q⟩ := hs; exact q.elim
    | cont => obtain ⟨_, _, _, q⟩ := hs; exact q.elim
end
section
variable {X : Cx} {k : Nat} {f : Addr} {fd : FuncData} {ps : List Str} {sp : Sp} {E : List (Option V) → XK} {x : Str} {p pos : Pos} {e : Expr} {es : List Expr} {t : TA}
theorem FnG.ends {pins : List (Addr × Obj)} {σ : List (Option V)} {H : Hp} {s s' : Shared} {Q : VK} {r : Result} {EE : XK} (hx : PassesAt (L2.CX X.prog X.w) X σ EE) (I : Inv X pins σ H s) (hq : CR (L2.CX X.prog X.w) X.stack X.prog X.w H s Q EE r s') :
    (match r with | .ok (.ret u) => EP X pins σ Q u s' | .ok _ => False | .error e => X.xe e s') := by
  cases r with
  | error e => exact hx pins H s e s' I hq
  | ok fl =>
    cases fl with
    | ret u => exact I.after hq
    | next => exact False.elim hq
    | brk => exact False.elim hq
    | cont => exact False.elim hq
theorem FnG.call {pins : List (Addr × Obj)} {σ : List (Option V)} {H : Hp} {s : Shared} {Q : VK} {us ws zs : List Value} {ks : List Str} {vs : List V} {EE : XK} (F : FnG X.prog X.w X.K X.mg X.base k f fd ps sp) (hr : Room k X.A) (hg : X.A.guards = some [])
    (hb : BindsTo s fd ⟨us, ks.zip ws⟩ (ps.zip zs)) (hx : PassesAt (L2.CX X.prog X.w) X σ EE) (I : Inv X pins σ H s) (r : Vals vs zs) (h : sp vs H Q EE) : wpAny (model X.prog X.w) X.A (call (.ref f) us (ks.zip ws)) (EP X pins σ Q) X.xe s :=
  wpAny_call (codeAny_mono (F.run X.A X.stack s H ⟨us, ks.zip ws⟩ zs vs Q EE hr hg I.env0 hb r h) fun r s' hq => by
    have z := FnG.ends (r := r) hx I hq
    cases r with
    | error e => exact z
    | ok fl => cases fl <;> exact z)
/-- f(e, ..) -/
theorem pe_fn (F : FnG X.prog X.w X.K X.mg X.base k f fd ps sp) (hr : Room k X.A) (hgd : X.A.guards = some []) (hg : Gl X x) (hm : X.mg x = some (.ref f)) (hk : PySem.W.keepIn X.K (.ref f) = true) (hb : Binds X.K fd ps []) (hx : ∀ σ, PassesAt (L2.CX X.prog X.w) X σ (E σ))
    (ha : PA X (e :: es) t) (hdb : (x == ("__debug__" : Str)) = false) (he : starEach (e :: es) X.env = (false, eval e X.env) :: starEach es X.env) (hpl : (backTo pos (starEach es X.env)).any (·.1) = false) :
    PE X (.Call (.Name x p) (e :: es) [] pos) (fun σ H Q => t σ H fun vs H1 => sp vs H1 Q (E σ)) := by
  refine ⟨fun pins s σ H Q I h => wpAny_Call_Name_kw (ld_glob I hg hm ?_ hdb)⟩
  refine PySem.W.callWith_K (h₀ := X.base) I.ok.mod.kin hk (thn (ha.run pos pins s σ H _ I h) fun us s1 ⟨vs, H1, I1, r, q⟩ => ⟨I1.kIn, ?_⟩) he hpl
  have hl : (us ++ ([] : List Value)).length = ps.length := by rw [List.append_nil, ← r.length]; exact F.len _ _ _ _ q
  have b := hb s1 us I1.kIn hl
  rw [List.append_nil] at b
  exact F.call (ks := []) (ws := []) hr hgd b (hx σ) I1 r q
/-- f() -/
theorem pe_fn0 (F : FnG X.prog X.w X.K X.mg X.base k f fd ps sp) (hr : Room k X.A) (hgd : X.A.guards = some []) (hg : Gl X x) (hm : X.mg x = some (.ref f)) (hk : PySem.W.keepIn X.K (.ref f) = true) (hb : Binds X.K fd ps []) (hx : ∀ σ, PassesAt (L2.CX X.prog X.w) X σ (E σ))
    (hdb : (x == ("__debug__" : Str)) = false) : PE X (.Call (.Name x p) [] [] pos) (fun σ H Q => sp [] H Q (E σ)) := by
  refine ⟨fun pins s σ H Q I h => wpAny_Call_Name_kw (ld_glob I hg hm (PySem.W.callWith_K0 I.kIn hk ?_) hdb)⟩
  have b := hb s [] I.kIn (by
    have := F.len _ _ _ _ h
    exact this)
  exact F.call (us := []) (ks := []) (ws := []) hr hgd b (hx σ) I .nil h
/-- f(k = e, ..): perm puts the keywords' values in the parameters' order -/
structure KwB (K : PySem.W.Frag) (fd : FuncData) (ps ks : List Str) (g : {α : Type} → List α → List α) : Prop where
  to : ∀ (s : Shared) (ws : List Value), K.In s.heap → (g ws).length = ps.length → BindsTo s fd ⟨[], ks.zip ws⟩ (ps.zip (g ws))
  rel : ∀ {vs : List V} {ws : List Value}, Vals vs ws → Vals (g vs) (g ws)
theorem pe_fnK {kws : List Keyword} {ks : List Str} {g : {α : Type} → List α → List α} {tk : TA} (F : FnG X.prog X.w X.K X.mg X.base k f fd ps sp) (hr : Room k X.A) (hgd : X.A.guards = some []) (hg : Gl X x) (hm : X.mg x = some (.ref f)) (hk : PySem.W.keepIn X.K (.ref f) = true)
    (hb : KwB X.K fd ps ks g) (hx : ∀ σ, PassesAt (L2.CX X.prog X.w) X σ (E σ)) (ha : PK X kws tk) (hall : (backToKw pos (keywordEach kws X.env)).all (·.1.isSome) = true) (hks : (backToKw pos (keywordEach kws X.env)).filterMap (·.1) = ks)
    (hdb : (x == ("__debug__" : Str)) = false) (hpl : ((backTo pos (starEach [] X.env)).any (·.1) || (backToKw pos (keywordEach kws X.env)).any (·.1.isNone)) = false) :
    PE X (.Call (.Name x p) [] kws pos) (fun σ H Q => tk σ H fun vs H1 => sp (g vs) H1 Q (E σ)) := by
  refine ⟨fun pins s σ H Q I h => wpAny_Call_Name_kw (ld_glob I hg hm ?_ hdb)⟩
  refine PySem.W.callWith_KW0 (h₀ := X.base) I.ok.mod.kin hk hall (thn (ha.run pos pins s σ H _ I h) fun ws s1 ⟨vs, H1, I1, r, q⟩ => ⟨I1.kIn, ?_⟩) hpl
  rw [hks]
  have r2 := hb.rel r
  have hl : (g ws).length = ps.length := by rw [← r2.length]; exact F.len _ _ _ _ q
  exact F.call (us := []) hr hgd (hb.to s1 ws I1.kIn hl) (hx σ) I1 r2 q
end

/-! ### contracts over data -/
abbrev SpD := List RV → (RV → Prop) → (Err → Prop) → Prop
def liftSp (bk : BoxKind) (K : PySem.W.Frag) (mg : Str → Option Value) (n : Nat) (s : SpD) : Sp := fun vs H Q E => ∃ S rs Qd Ex, AOk bk S H ∧ RArgs K S vs rs ∧ rs.length = n ∧
  (∀ r v H' S', Qd r → Ext bk S S' H H' → RRes K S' H H' v r → Q v H') ∧ (∀ e cls d H' S', Ex e → Ext bk S S' H H' → ErrR K mg S' H' cls d e → E cls d H') ∧ s rs Qd Ex
theorem Paired.len {α β : Type} {R : α → β → Prop} : ∀ {xs : List α} {ys : List β}, Paired R xs ys → xs.length = ys.length
  | _, _, .nil => rfl
  | _, _, .cons _ t => by simp [Paired.len t]
theorem liftSp.len {bk : BoxKind} {K : PySem.W.Frag} {mg : Str → Option Value} {n : Nat} {s : SpD} {vs : List V} {H : Hp} {Q : VK} {E : XK} (h : liftSp bk K mg n s vs H Q E) : vs.length = n := by
  obtain ⟨S, rs, Qd, Ex, _, ra, hl, _⟩ := h
  rw [← hl]; exact Paired.len ra
def tFn (n : Nat) (s : SpD) (t : TDA) : TD := fun env Q Ex => t env (fun rs => rs.length = n ∧ s rs Q Ex) Ex
section
variable {bk : BoxKind} {X : Cx} {W : WX} {k n : Nat} {f : Addr} {fd : FuncData} {ps : List Str} {s : SpD} {x : Str} {p pos : Pos} {e : Expr} {es : List Expr} {t : TDA}
theorem passes_at (tk : Takes X W) (σ : List (Option V)) : PassesAt (L2.CX X.prog X.w) X σ (fun cls d H => W cls d σ H) := fun pins H s e s' I c => tk e s' (XE.of_call I (fun _ _ _ h => h) c)
theorem pd_fn (tk : Takes X W) (F : FnG X.prog X.w X.K X.mg X.base k f fd ps (liftSp bk X.K X.mg n s)) (hr : Room k X.A) (hgd : X.A.guards = some []) (hg : Gl X x) (hm : X.mg x = some (.ref f)) (hk : PySem.W.keepIn X.K (.ref f) = true) (hb : Binds X.K fd ps [])
    (ha : PDA bk X W (e :: es) t) (hdb : (x == ("__debug__" : Str)) = false) (he : starEach (e :: es) X.env = (false, eval e X.env) :: starEach es X.env) (hpl : (backTo pos (starEach es X.env)).any (·.1) = false) :
    PD bk X W (.Call (.Name x p) (e :: es) [] pos) (tFn n s t) := PE.imp (pe_fn (E := fun σ cls d H => W cls d σ H) F hr hgd hg hm hk hb (passes_at tk) ha hdb he hpl) fun σ H Q q => by
  obtain ⟨S, env, Hz, Qd, Ex, ok, ab, ex, con, t⟩ := q
  refine ⟨S, env, Hz, _, Ex, ok, ab, ex, fun rs vs H1 S1 q1 e1 r1 => ?_, t⟩
  exact ⟨S1, rs, Qd, Ex, e1.ok, r1, q1.1, con.ext ok e1, ex.ext ok e1, q1.2⟩
theorem pd_fn0 (tk : Takes X W) (F : FnG X.prog X.w X.K X.mg X.base k f fd ps (liftSp bk X.K X.mg n s)) (hr : Room k X.A) (hgd : X.A.guards = some []) (hg : Gl X x) (hm : X.mg x = some (.ref f)) (hk : PySem.W.keepIn X.K (.ref f) = true) (hb : Binds X.K fd ps [])
    (hdb : (x == ("__debug__" : Str)) = false) : PD bk X W (.Call (.Name x p) [] [] pos) (tFn n s tNilD) := PE.imp (pe_fn0 (E := fun σ cls d H => W cls d σ H) F hr hgd hg hm hk hb (passes_at tk) hdb) fun σ H Q q => by
  obtain ⟨S, env, Hz, Qd, Ex, ok, ab, ex, con, t⟩ := q
  exact ⟨S, [], Qd, Ex, ok, .nil, t.1, con, ex, t.2⟩
def tFnK (n : Nat) (g : {α : Type} → List α → List α) (s : SpD) (t : TDA) : TD := fun env Q Ex => t env (fun rs => (g rs).length = n ∧ s (g rs) Q Ex) Ex
/-- arguments by keywords -/
def PDK (bk : BoxKind) (X : Cx) (W : WX) (kws : List Keyword) (t : TDA) : Prop := PK X kws (liftA bk X W t)
theorem PK.imp {kws : List Keyword} {t t' : TA} (h : PK X kws t) (i : ∀ σ H Q, t' σ H Q → t σ H Q) : PK X kws t' := ⟨fun pos pins s σ H Q I q => h.run pos pins s σ H Q I (i σ H Q q)⟩
theorem pdk_nil : PDK bk X W [] tNilD := PK.imp pk_nil fun _ _ _ q => by
  obtain ⟨S, env, Hz, Qd, Ex, ok, ab, ex, con, t⟩ := q
  exact con [] [] _ _ t (Ext.refl ok) .nil
theorem pdk_cons {te : TD} {tr : TDA} {kws : List Keyword} {nm : Option Str} {kpos : Pos} (ha : PD bk X W e te) (hr : PDK bk X W kws tr) : PDK bk X W (⟨nm, e, kpos⟩ :: kws) (tConsD te tr) := PK.imp (pk_cons ha hr) fun σ H Q q => by
  obtain ⟨S, env, Hz, Qd, Ex, ok, ab, ex, con, t⟩ := q
  refine ⟨S, env, Hz, _, Ex, ok, ab, ex, fun r v H1 S1 q1 e1 r1 => ?_, t⟩
  obtain ⟨S2, r', e2, ra, q2, _⟩ := r1.arg ok e1 q1
  refine ⟨S2, env, Hz, _, Ex, e2.ok, ab.ext e2, ex.ext ok e2, fun rs vs H3 S3 q3 e3 rv => ?_, q2⟩
  have z := RArgs.ext (X := X) (vs := [v]) (rs := [r']) (.cons ra .nil) e3
  cases z with
  | cons h _ => exact con (r' :: rs) (v :: vs) H3 S3 q3 (Ext.trans ok e2 e3) (.cons h rv)
theorem pd_fnK {kws : List Keyword} {ks : List Str} {g : {α : Type} → List α → List α} (hg2 : ∀ {α β : Type} (R : α → β → Prop) (xs : List α) (ys : List β), Paired R xs ys → Paired R (g xs) (g ys)) (tk : Takes X W) (F : FnG X.prog X.w X.K X.mg X.base k f fd ps (liftSp bk X.K X.mg n s))
    (hr : Room k X.A) (hgd : X.A.guards = some []) (hg : Gl X x) (hm : X.mg x = some (.ref f)) (hk : PySem.W.keepIn X.K (.ref f) = true) (hb : KwB X.K fd ps ks g)
    (ha : PDK bk X W kws t) (hall : (backToKw pos (keywordEach kws X.env)).all (·.1.isSome) = true) (hks : (backToKw pos (keywordEach kws X.env)).filterMap (·.1) = ks)
    (hdb : (x == ("__debug__" : Str)) = false) (hpl : ((backTo pos (starEach [] X.env)).any (·.1) || (backToKw pos (keywordEach kws X.env)).any (·.1.isNone)) = false) :
    PD bk X W (.Call (.Name x p) [] kws pos) (tFnK n g s t) := PE.imp (pe_fnK (E := fun σ cls d H => W cls d σ H) F hr hgd hg hm hk hb (passes_at tk) ha hall hks hdb hpl) fun σ H Q q => by
  obtain ⟨S, env, Hz, Qd, Ex, ok, ab, ex, con, t⟩ := q
  refine ⟨S, env, Hz, _, Ex, ok, ab, ex, fun rs vs H1 S1 q1 e1 r1 => ?_, t⟩
  exact ⟨S1, g rs, Qd, Ex, e1.ok, hg2 _ _ _ r1, q1.1, con.ext ok e1, ex.ext ok e1, q1.2⟩
end
end HA

namespace HA
open PySem PySem.Spec PyProof.Rows L2

/-! ### statements over data -/
structure SE where
  nx : En → Prop
  rt : RV → Prop
  bk : En → Prop
  ct : En → Prop
  ex : Err → En → Prop
abbrev TSD := SE → En → Prop
section
variable (bk : BoxKind) (X : Cx) (W : WX)
structure EndsOk (S0 : AS) (Hz : Hp) (D : Ends) (Dd : SE) : Prop where
  nx : ∀ σ H S env, Ext bk S0 S Hz H → Abs X.K S Hz H σ env → Dd.nx env → D.nx σ H
  rt : ∀ r v H S, Ext bk S0 S Hz H → RRes X.K S Hz H v r → Dd.rt r → D.rt v H
  br : ∀ σ H S env, Ext bk S0 S Hz H → Abs X.K S Hz H σ env → Dd.bk env → D.bk σ H
  ct : ∀ σ H S env, Ext bk S0 S Hz H → Abs X.K S Hz H σ env → Dd.ct env → D.ct σ H
  ex : ∀ e cls d σ H S env, Ext bk S0 S Hz H → Abs X.K S Hz H σ env → ErrR X.K X.mg S H cls d e → Dd.ex e env → W cls d σ H
def liftS (t : TSD) : TS := fun D σ H => ∃ S0 Hz S env Dd, Bx bk S0 Hz ∧ Ext bk S0 S Hz H ∧ Abs X.K S Hz H σ env ∧ EndsOk bk X W S0 Hz D Dd ∧ t Dd env
def PSD (st : Stmt) (t : TSD) : Prop := PS X st (liftS bk X W t)
def PSsD (st : List Stmt) (t : TSD) : Prop := PSs X st (liftS bk X W t)
end
def SE.err (D : SE) (env : En) : Err → Prop := fun e => D.ex e env
section
variable {bk : BoxKind} {X : Cx} {W : WX} {S0 S S' : AS} {σ : Sg} {Hz H H' : Hp} {env : En} {D : Ends} {Dd : SE}
theorem EndsOk.exOk (x : EndsOk bk X W S0 Hz D Dd) (ok0 : Bx bk S0 Hz) (e : Ext bk S0 S Hz H) (ab : Abs X.K S Hz H σ env) : ExOk bk X W S σ H (Dd.err env) := fun er cls d H2 S2 h1 h2 h3 =>
  x.ex er cls d σ H2 S2 env (Ext.tr ok0 e h2) (ab.ext h2) h3 h1
theorem Abs.set {v : V} {r : RV} {i : Nat} (ab : Abs X.K S Hz H σ env) (h : RSlot X.K S Hz H v r) (hn : ∀ o, r = .own o → ∀ j o', j ≠ i → env[j]? = some (some (.own o')) → σ[j]? ≠ some (some v)) : Abs X.K S Hz H (σ.set i (some v)) (env.set i (some r)) := by
  have hl : i < env.length → i < σ.length := fun z => by rw [← ab.len]; exact z
  refine ⟨by rw [List.length_set, List.length_set]; exact ab.len, fun j r' hj => ?_, fun j k o o' w hjk h1 h2 h3 => ?_⟩
  · by_cases e : i = j
    · subst e
      by_cases l : i < env.length
      · rw [List.getElem?_set_self l] at hj
        obtain rfl : r = r' := by cases hj; rfl
        exact ⟨v, List.getElem?_set_self (hl l), h⟩
      · rw [List.getElem?_eq_none (by rw [List.length_set]; omega)] at hj; cases hj
    · rw [List.getElem?_set_ne e] at hj
      rw [List.getElem?_set_ne e]
      exact ab.at_ j r' hj
  · by_cases ej : i = j
    · subst ej
      have l : i < env.length := by
        by_cases l : i < env.length
        · exact l
        · rw [List.getElem?_eq_none (by rw [List.length_set]; omega)] at h1; cases h1
      rw [List.getElem?_set_self l] at h1
      rw [List.getElem?_set_self (hl l)] at h3
      rw [List.getElem?_set_ne hjk] at h2 ⊢
      cases h1
      cases h3
      exact hn o rfl k o' hjk.symm h2
    · rw [List.getElem?_set_ne ej] at h1 h3
      by_cases ek : i = k
      · subst ek
        have l : i < env.length := by
          by_cases l : i < env.length
          · exact l
          · rw [List.getElem?_eq_none (by rw [List.length_set]; omega)] at h2; cases h2
        rw [List.getElem?_set_self l] at h2
        rw [List.getElem?_set_self (hl l)]
        cases h2
        intro z
        cases z
        exact hn o' rfl j o (fun z => ej z.symm) h1 h3
      · rw [List.getElem?_set_ne ek] at h2 ⊢
        exact ab.ap j k o o' w hjk h1 h2 h3
theorem Abs.setD {v : V} {x : PyData} {i : Nat} (ab : Abs X.K S Hz H σ env) (h : Rp X.K S.F v x) : Abs X.K S Hz H (σ.set i (some v)) (env.set i (some (.d x))) := ab.set h fun _ e => nomatch e
/-- what a name can be given -/
def RV.sto (r : RV) (k : RV → Prop) : Prop := match r with
  | .d x => k (.d x)
  | .own o => k (.own o)
  | .bor _ => False
  | .box => k .box
  | .scr ns => k (.scr ns)
theorem RRes.slot {v : V} {r : RV} (h : RRes X.K S' H H' v r) (k : ∀ a, H a = none → Hz a = none) (hb : ∀ o, r ≠ .bor o) : RSlot X.K S' Hz H' v r := by
  cases r with
  | d x => exact h
  | own o => obtain ⟨a, e, n, l, f, w⟩ := h; exact ⟨a, e, k a n, l, f, w⟩
  | bor o => exact absurd rfl (hb o)
  | box => exact h
  | scr ns => exact h
theorem RV.sto_ne {r : RV} {k : RV → Prop} (h : r.sto k) : (∀ o, r ≠ .bor o) ∧ k r := by
  cases r with
  | bor o => exact h.elim
  | d x => exact ⟨nofun, h⟩
  | own o => exact ⟨nofun, h⟩
  | box => exact ⟨nofun, h⟩
  | scr ns => exact ⟨nofun, h⟩
/-- a new object is no object of a slot -/
theorem RRes.apart {v : V} {r : RV} (h : RRes X.K S' H H' v r) (ab : Abs X.K S Hz H σ env) : ∀ o, r = .own o → ∀ (j : Nat) o', env[j]? = some (some (.own o')) → σ[j]? ≠ some (some v) := by
  rintro o rfl j o' hj hv
  obtain ⟨a, rfl, n, _⟩ := h
  obtain ⟨w, hw, b, rfl, _, _, _, ow⟩ := ab.at_ j _ hj
  rw [hw] at hv
  cases hv
  obtain ⟨u, hu⟩ := ow.there
  rw [n] at hu
  cases hu
theorem Ext.freeZ (ok0 : Bx bk S0 Hz) (e : Ext bk S0 S Hz H) : ∀ a, H a = none → Hz a = none := fun a h => e.fr ok0 h

/-! name = e -/
def tSetD (i : Nat) (t : TD) : TSD := fun D env => t env (fun r => r.sto fun r' => D.nx (env.set i (some r'))) (D.err env)
variable {pos : Pos} {e : Expr} {t : TD}
theorem lift_set {i : Nat} (q : liftS bk X W (tSetD i t) D σ H) : liftE bk X W t σ H fun v H1 => D.nx (σ.set i (some v)) H1 := by
  obtain ⟨S0, Hz, S, env, Dd, ok0, e0, ab, en, t⟩ := q
  refine ⟨S, env, Hz, _, _, e0.ok, ab, en.exOk ok0 e0 ab, fun r v H1 S1 q1 e1 r1 => ?_, t⟩
  obtain ⟨hb, q2⟩ := RV.sto_ne q1
  exact en.nx _ _ S1 _ (Ext.tr ok0 e0 e1) ((ab.ext e1).set (r1.slot (Ext.freeZ ok0 e0) hb) fun o ho j o' _ => r1.apart ab o ho j o') q2
theorem sd_set {i : Nat} {x : Str} {pos' : Pos} (hN : X.N.Nodup) (hi : X.N[i]? = some x) (hx : Loc X.env.scope x) (hf : X.fn x = true ∨ X.env.scope.names.lookup x = some .local) (he : PD bk X W e t) (hs : swapsWith e (some (.Name x pos')) pos.line X.env = pure false) :
    PSD bk X W (.Assign [.Name x pos'] e pos) (tSetD i t) := PS.imp (ps_set hN hi hx he hs hf) fun _ _ _ q => lift_set q

/-! blocks -/
def tNxD : TSD := fun D env => D.nx env
def tSeqD (t u : TSD) : TSD := fun D env => t { D with nx := u D } env
variable {st : Stmt} {rest : List Stmt} {ts us : TSD}
theorem sds_nil : PSsD bk X W [] tNxD := PSs.imp pss_nil fun D σ H q => by
  obtain ⟨S0, Hz, S, env, Dd, ok0, e0, ab, en, t⟩ := q
  exact en.nx _ _ _ _ e0 ab t
theorem sds_cons (h1 : PSD bk X W st ts) (h2 : PSsD bk X W rest us) : PSsD bk X W (st :: rest) (tSeqD ts us) := PSs.imp (pss_cons h1 h2) fun D σ H q => by
  obtain ⟨S0, Hz, S, env, Dd, ok0, e0, ab, en, t⟩ := q
  exact ⟨S0, Hz, S, env, { Dd with nx := us Dd }, ok0, e0, ab, ⟨fun σ' H' S' env' e' ab' t' => ⟨S0, Hz, S', env', Dd, ok0, e', ab', en, t'⟩, en.rt, en.br, en.ct, en.ex⟩, t⟩
theorem sd_pass : PSD bk X W (.Pass pos) tNxD := PS.imp ps_pass fun D σ H q => by
  obtain ⟨S0, Hz, S, env, Dd, ok0, e0, ab, en, t⟩ := q
  exact en.nx _ _ _ _ e0 ab t
def tBkD : TSD := fun D env => D.bk env
def tCtD : TSD := fun D env => D.ct env
theorem sd_break : PSD bk X W (.Break pos) tBkD := PS.imp ps_break fun D σ H q => by
  obtain ⟨S0, Hz, S, env, Dd, ok0, e0, ab, en, t⟩ := q
  exact en.br _ _ _ _ e0 ab t
theorem sd_continue : PSD bk X W (.Continue pos) tCtD := PS.imp ps_continue fun D σ H q => by
  obtain ⟨S0, Hz, S, env, Dd, ok0, e0, ab, en, t⟩ := q
  exact en.ct _ _ _ _ e0 ab t
/-- a statement that is never reached -/
def tNeverD : TSD := fun _ _ => False
theorem sd_never : PSD bk X W st tNeverD := PS.imp ps_never fun D σ H q => by
  obtain ⟨S0, Hz, S, env, Dd, ok0, e0, ab, en, t⟩ := q
  exact t

/-! return -/
def tRetD (t : TD) : TSD := fun D env => t env (fun r => r.sto D.rt) (D.err env)
theorem sd_ret (he : PD bk X W e t) : PSD bk X W (.Return (some e) pos) (tRetD t) := PS.imp (ps_ret he) fun D σ H q => by
  obtain ⟨S0, Hz, S, env, Dd, ok0, e0, ab, en, t⟩ := q
  refine ⟨S, env, Hz, _, _, e0.ok, ab, en.exOk ok0 e0 ab, fun r v H1 S1 q1 e1 r1 => ?_, t⟩
  exact en.rt _ _ _ S1 (Ext.tr ok0 e0 e1) (r1.back (Ext.freeZ ok0 e0)) (RV.sto_ne q1).2
/-- return name -/
def tRetV (i : Nat) : TSD := fun D env => enGet env i D.rt
theorem sd_retv {i : Nat} {x : Str} {pos' : Pos} (hN : X.N[i]? = some x) (hv : Vis X.env.scope x) (hd : (x == ("__debug__" : Str)) = false) (hcd : (x == ("__classdict__" : Str)) = false) : PSD bk X W (.Return (some (.Name x pos')) pos) (tRetV i) :=
  PS.imp (ps_ret (pe_var hN hv hd hcd)) fun D σ H q => by
    obtain ⟨S0, Hz, S, env, Dd, ok0, e0, ab, en, t⟩ := q
    obtain ⟨r, e, q⟩ := enGet_some t
    obtain ⟨v, e2, rs⟩ := ab.at_ i r e
    refine ⟨v, e2, en.rt r _ _ S e0 ?_ q⟩
    cases r with
    | d x => exact rs
    | own o => obtain ⟨a, e, n, l, f, w⟩ := rs; exact ⟨a, e, n, l, f, w⟩
    | bor o => exact rs.elim
    | box => exact rs
    | scr ns => exact rs
def tRetN : TSD := fun D _ => D.rt (.d .none)
theorem sd_retN : PSD bk X W (.Return none pos) tRetN := PS.imp ps_retN fun D σ H q => by
  obtain ⟨S0, Hz, S, env, Dd, ok0, e0, ab, en, t⟩ := q
  exact en.rt (.d .none) .non _ S e0 .non t

/-! if, a value that is dropped -/
def tIfD (c : TD) (t u : TSD) : TSD := fun D env => c env (fun r => r.bl fun b => if b = true then t D env else u D env) (D.err env)
theorem sd_if {c : Expr} {a b : List Stmt} {tc : TD} (hc : PDT bk X W c (tTst tc)) (ha : PSsD bk X W a ts) (hb : PSsD bk X W b us) : PSD bk X W (.If c a b pos) (tIfD tc ts us) := PS.imp (ps_if hc ha hb) fun D σ H q => by
  obtain ⟨S0, Hz, S, env, Dd, ok0, e0, ab, en, t⟩ := q
  refine ⟨S, env, Hz, _, _, e0.ok, ab, en.exOk ok0 e0 ab, fun c H1 S1 q1 e1 => ?_, t⟩
  cases c with
  | true => exact ⟨S0, Hz, S1, env, Dd, ok0, Ext.tr ok0 e0 e1, ab.ext e1, en, q1⟩
  | false => exact ⟨S0, Hz, S1, env, Dd, ok0, Ext.tr ok0 e0 e1, ab.ext e1, en, q1⟩
def tDropD (t : TD) : TSD := fun D env => t env (fun _ => D.nx env) (D.err env)
theorem sd_drop (he : PD bk X W e t) (hs : swapsWith e none pos.line X.env = pure false) : PSD bk X W (.Expr e pos) (tDropD t) := PS.imp (ps_expr he hs) fun D σ H q => by
  obtain ⟨S0, Hz, S, env, Dd, ok0, e0, ab, en, t⟩ := q
  refine ⟨S, env, Hz, _, _, e0.ok, ab, en.exOk ok0 e0 ab, fun r v H1 S1 q1 e1 r1 => ?_, t⟩
  exact en.nx _ _ S1 _ (Ext.tr ok0 e0 e1) (ab.ext e1) q1

/-! an object of a name's own is changed, or frozen -/
theorem Ext.write (e : Ext bk S0 S Hz H) {a : Addr} {o : HO} (hz : Hz a = none) (hf : S.F a = none) (hl : a ∉ S.l) : Ext bk S0 S Hz (upd H a o) := by
  refine ⟨e.fz, e.nw, e.eb, e.el, fun b u h m => ?_, ⟨fun b u h => ?_, e.ok.out, ?_⟩⟩
  · rw [upd_ne (ne_of_none h hz)]; exact e.kp b u h m
  · rw [upd_ne (ne_of_none h hf)]; exact e.ok.sub b u h
  · rcases e.ok.box with z | z
    · exact .inl z
    · exact .inr (bk.loc z fun b m => upd_ne fun q => hl (by rw [← q]; exact m))
theorem Abs.write {i : Nat} {a : Addr} {o o' : Ow} {u : HO} (ab : Abs X.K S Hz H σ env) (hi : env[i]? = some (some (.own o))) (hv : σ[i]? = some (some (.ref a))) (hz : Hz a = none) (hl : a ∉ S.l) (hf : S.F a = none) (w : OwR X.K S.F (upd H a u) a o') :
    Abs X.K S Hz (upd H a u) σ (env.set i (some (.own o'))) := by
  have hi' : i < env.length := (List.getElem?_eq_some_iff.mp hi).1
  refine ⟨by rw [List.length_set]; exact ab.len, fun j r hj => ?_, fun j k p p' v hjk h1 h2 h3 => ?_⟩
  · by_cases e : i = j
    · subst e
      rw [List.getElem?_set_self hi'] at hj
      cases hj
      exact ⟨_, hv, a, rfl, hz, hl, hf, w⟩
    · rw [List.getElem?_set_ne e] at hj
      obtain ⟨v, h1, h2⟩ := ab.at_ j r hj
      refine ⟨v, h1, ?_⟩
      cases r with
      | d x => exact h2
      | own p =>
        obtain ⟨b, rfl, q1, q2, q3, q4⟩ := h2
        have hb : b ≠ a := fun z => by
          subst z
          exact ab.ap i j o p _ e hi hj hv h1
        exact ⟨b, rfl, q1, q2, q3, q4.mono (S' := S) (Same.refl _) fun w hw => by rw [upd_ne hb]; exact hw⟩
      | bor p => exact h2
      | box => exact h2
      | scr ns => exact h2
  · have own : ∀ (m : Nat) (p : Ow), (env.set i (some (RV.own o')))[m]? = some (some (.own p)) → ∃ p2, env[m]? = some (some (.own p2)) := fun m p hm => by
      by_cases e : i = m
      · subst e; exact ⟨o, hi⟩
      · rw [List.getElem?_set_ne e] at hm; exact ⟨p, hm⟩
    obtain ⟨p2, g1⟩ := own j p h1
    obtain ⟨p3, g2⟩ := own k p' h2
    exact ab.ap j k p2 p3 v hjk g1 g2 h3
/-- an owned list at a slot -/
def enLst (env : En) (i : Nat) (k : List PyData → Prop) : Prop := enGet env i fun r => match r with
  | .own (.lst xs) => k xs
  | _ => False
theorem enLst_at {i : Nat} {k : List PyData → Prop} (h : enLst env i k) (ab : Abs X.K S Hz H σ env) : ∃ xs a vs, env[i]? = some (some (.own (.lst xs))) ∧ σ[i]? = some (some (.ref a)) ∧ Hz a = none ∧ a ∉ S.l ∧ S.F a = none ∧ H a = some (.lst vs) ∧ RpAll X.K S.F vs xs ∧ k xs := by
  obtain ⟨r, e, q⟩ := enGet_some h
  split at q
  · rename_i xs
    obtain ⟨v, e2, a, rfl, h1, h2, h3, vs, h4, h5⟩ := ab.at_ i _ e
    exact ⟨xs, a, vs, e, e2, h1, h2, h3, h4, h5, q⟩
  · exact q.elim
/-- x.append(e) -/
def tAppD (i : Nat) (t : TD) : TSD := fun D env => enLst env i fun xs => t env (fun r => r.arg fun r' => match r' with
  | .d y => xs.length < sizeLine ∧ D.nx (env.set i (some (.own (.lst (xs ++ [y])))))
  | _ => False) (D.err env)
theorem tyV_lst {a : Addr} {vs : List V} {K : PySem.W.Frag} (h : H a = some (.lst vs)) : tyV K "list" (.ref a) H := .inl ⟨rfl, _, SqL.of h⟩
theorem sd_append {i : Nat} {p2 p3 : Pos} {o : Expr} (ho : PE X o (tVar i)) (hbase : attributeBase o "append" X.env (eval o X.env) = eval o X.env) (he : PD bk X W e t)
    (hfew : ((backTo p3 (starEach [e] X.env)).all (fun x => !x.1) && (backToKw p3 (keywordEach [] X.env)).all (fun x => x.1.isSome) && decide ([e].length + ([] : List Keyword).length + (if ([] : List Keyword).isEmpty then 0 else 1) < 30)) = true)
    (hline : (p2.endLine == p3.line) = true) (hst : starEach [e] X.env = (false, eval e X.env) :: starEach [] X.env) :
    PSD bk X W (.Expr (.Call (.Attribute o "append" p2) [e] [] p3) pos) (tAppD i t) :=
  PS.imp (ps_expr (pe_bm PySem.F.plainAttrs_list PySem.F.slot_list_append PySem.F.type_list_append mt_append ho (pa_cons he pa_nil hst) hbase hfew hline hst rfl) rfl) fun D σ H q => by
    obtain ⟨S0, Hz, S, env, Dd, ok0, e0, ab, en, t⟩ := q
    obtain ⟨xs, a, vs, hi, hv, hz, hl, hf, ha, ra, t⟩ := enLst_at t ab
    refine ⟨.ref a, hv, tyV_lst ha, S, env, Hz, _, _, e0.ok, ab, en.exOk ok0 e0 ab, fun r v H1 S1 q1 e1 r1 => ?_, t⟩
    obtain ⟨S2, r', e2, rv, q2, _⟩ := r1.arg e0.ok e1 q1
    cases r' with
    | d y =>
      obtain ⟨q3, q4⟩ := q2
      have l2 : a ∉ S2.l := by rw [e2.el]; exact hl
      have ha2 := e2.kp _ _ ha hl
      have f2 : S2.F a = none := by
        cases z : S2.F a with
        | none => rfl
        | some w =>
          have z2 := e2.nw a hf (by rw [z]; exact nofun)
          rw [ha] at z2; cases z2
      have ra2 := ra.mono e2.fz
      refine ⟨a, vs, v, rfl, rfl, ha2, by rw [ra.length]; exact q3, ?_⟩
      exact en.nx _ _ S2 _ ((Ext.tr ok0 e0 e2).write hz f2 l2) ((ab.ext e2).write hi hv hz l2 f2 (show OwR X.K S2.F _ a (.lst _) from ⟨_, upd_same, ra2.append (.cons rv .nil)⟩)) q4
    | own o => exact q2.elim
    | bor o => exact q2.elim
    | box => exact q2.elim
    | scr ns => exact q2.elim
theorem extend_from (l b : Addr) (xs ys : Array Value) (n m : Nat) (sl : Array (Option Value)) (h0 : ¬(!xs.isEmpty && Builtin.List.listTooLong (xs.size + ys.size)) = true) (h1 : xs.size ≤ sizeLine) (h2 : xs.size + ys.size ≤ sizeLine + 1) :
    Meets (Builtin.«list.extend» ⟨[.ref l, .ref b], []⟩) (fun _ R s => s.heap.get? l = some { cls := .type "list", data := .seq xs n } ∧ s.heap.get? b = some { cls := .type "list", data := .seq ys m, slots := sl } ∧ R (.ok (.ret Value.none)) { s with heap := s.heap.update l (Obj.mapSeq fun x => x ++ ys), toks := s.toks }) :=
  .of_wp fun prog w A R s h => by
    obtain ⟨hp, g, d, tk, os⟩ := s
    obtain ⟨hl, hb, h⟩ := h
    have i1 := PySem.AutoSeq1.idx_int
    have i2 := PySem.AutoSeq1.sub_tuple_tuple
    have i3 := PySem.AutoSeq1.sub_list_list
    have i4 := PySem.AutoSeq1.sub_tuple_list
    have i5 := PySem.AutoSeq1.sub_list_tuple
    have hz : (xs ++ ys).size ≤ sizeLine + 1 := by
      rw [Array.size_append]
      exact h2
    wp_walk using (wpAny_updateSeq hl rfl (hz := h1) (_hz' := hz)), PySem.AutoSeq1.wpAny_loadPart' hl, PySem.AutoSeq1.wpAny_loadPart' hb
    exact ⟨_, rfl, h⟩
theorem mt_extendQ {X : Cx} : MtM X "list.extend" (fun x vs H Q => ∃ l b xs zs, x = .ref l ∧ vs = [.ref b] ∧ H l = some (.lst xs) ∧ SqL X.K H b zs ∧ xs.length + zs.length ≤ sizeLine ∧ Q .non (upd H l (.lst (xs ++ zs)))) := by
  intro pins s σ H x vs v us Q I rx rv h
  obtain ⟨l, b, xs, zs, rfl, rfl, hH, hB, hz, q⟩ := h
  cases rx
  obtain ⟨u, rfl, ru⟩ := rv.one
  cases ru
  obtain ⟨z, its, n, r, hl, e⟩ := I.lstM hH
  obtain ⟨its2, r2, p2, z2⟩ := I.list hB
  obtain ⟨n2, sl, e2⟩ := PlainL.whole p2
  have l1 := r.length
  have l2 := r2.length
  have sz : its.toArray.size + its2.toArray.size ≤ sizeLine := by
    rw [List.size_toArray, List.size_toArray]
    omega
  have nl : ¬ (!its.toArray.isEmpty && Builtin.List.listTooLong (its.toArray.size + its2.toArray.size)) = true := fun w => by
    rw [notLongL sz, Bool.and_false] at w
    cases w
  refine call_meets F.slot_list_extend ⟨_, e, rfl⟩ F.entry_list_extend (F.args_list_extend_2 _ _) (extend_from l b its.toArray its2.toArray n n2 sl nl (by omega) (by omega)) ⟨e, e2, ?_⟩
  have ea : its.toArray ++ its2.toArray = (its ++ its2).toArray := by simp
  exact ⟨.non, _, I.lset (its' := its ++ its2) hH e ea (r.append r2) (by rw [List.length_append]; omega), rfl, q⟩
/-- x.extend(e) -/
def tExtD (i : Nat) (t : TD) : TSD := fun D env => enLst env i fun xs => t env (fun r => r.use fun y => match y with
  | .list ys => xs.length + ys.length ≤ sizeLine ∧ D.nx (env.set i (some (.own (.lst (xs ++ ys)))))
  | _ => False) (D.err env)
theorem sd_extend {i : Nat} {p2 p3 : Pos} {o : Expr} (ho : PE X o (tVar i)) (hbase : attributeBase o "extend" X.env (eval o X.env) = eval o X.env) (he : PD bk X W e t)
    (hfew : ((backTo p3 (starEach [e] X.env)).all (fun x => !x.1) && (backToKw p3 (keywordEach [] X.env)).all (fun x => x.1.isSome) && decide ([e].length + ([] : List Keyword).length + (if ([] : List Keyword).isEmpty then 0 else 1) < 30)) = true)
    (hline : (p2.endLine == p3.line) = true) (hst : starEach [e] X.env = (false, eval e X.env) :: starEach [] X.env) :
    PSD bk X W (.Expr (.Call (.Attribute o "extend" p2) [e] [] p3) pos) (tExtD i t) :=
  PS.imp (ps_expr (pe_bm PySem.F.plainAttrs_list PySem.F.slot_list_extend PySem.F.type_list_extend mt_extendQ ho (pa_cons he pa_nil hst) hbase hfew hline hst rfl) rfl) fun D σ H q => by
    obtain ⟨S0, Hz, S, env, Dd, ok0, e0, ab, en, t⟩ := q
    obtain ⟨xs, a, vs, hi, hv, hz, hl, hf, ha, ra, t⟩ := enLst_at t ab
    refine ⟨.ref a, hv, tyV_lst ha, S, env, Hz, _, _, e0.ok, ab, en.exOk ok0 e0 ab, fun r v H1 S1 q1 e1 r1 => ?_, t⟩
    obtain ⟨y, ry, q2⟩ := r1.rq q1
    cases y with
    | list ys =>
      obtain ⟨q3, q4⟩ := q2
      obtain ⟨b, ws, rfl, hb, rb⟩ := ry.list e1.ok
      have l2 : a ∉ S1.l := by rw [e1.el]; exact hl
      have ha2 := e1.kp _ _ ha hl
      have f2 : S1.F a = none := by
        cases z : S1.F a with
        | none => rfl
        | some w =>
          have z2 := e1.nw a hf (by rw [z]; exact nofun)
          rw [ha] at z2; cases z2
      have ra2 := ra.mono e1.fz
      refine ⟨a, b, vs, ws, rfl, rfl, ha2, hb, by rw [ra.length, rb.length]; exact q3, ?_⟩
      exact en.nx _ _ S1 _ ((Ext.tr ok0 e0 e1).write hz f2 l2) ((ab.ext e1).write hi hv hz l2 f2 (show OwR X.K S1.F _ a (.lst _) from ⟨_, upd_same, ra2.append rb⟩)) q4
    | _ => exact q2.elim
/-- nothing is done, but what the name owns is frozen -/
def RV.frz : RV → RV
  | .own (.lst xs) => .d (.list xs)
  | .own (.dic xs) => .d (.dict xs)
  | r => r
def tFrzD (i : Nat) (t : TSD) : TSD := fun D env => enGet env i fun r => t D (env.set i (some r.frz))
theorem RpAll.ins {K : PySem.W.Frag} {F : Hp} {a : Addr} {u : HO} {vs : List V} {xs : List PyData} (hf : F a = none) (h : RpAll K F vs xs) : RpAll K (upd F a u) vs xs := h.mono fun b w hb => by rw [upd_ne (ne_of_none hb hf)]; exact hb
theorem RpKv.ins {K : PySem.W.Frag} {F : Hp} {a : Addr} {u : HO} {vs : List (Key × V)} {xs : List (PyData × PyData)} (hf : F a = none) (h : RpKv K F vs xs) : RpKv K (upd F a u) vs xs := h.mono fun b w hb => by rw [upd_ne (ne_of_none hb hf)]; exact hb
theorem OwR.frozen {a : Addr} {o : Ow} (w : OwR X.K S.F H a o) (hf : S.F a = none) (hp : o.pl = true) : ∃ u, H a = some u ∧ Rp X.K (upd S.F a u) (.ref a) o.dat := by
  cases o with
  | lst xs => obtain ⟨vs, h1, h2⟩ := w; exact ⟨_, h1, .lst upd_same (h2.ins hf)⟩
  | dic xs => obtain ⟨vs, h1, h2⟩ := w; exact ⟨_, h1, .dic upd_same (h2.ins hf)⟩
  | dtn xs => cases hp
theorem lift_frz {i : Nat} (q : liftS bk X W (tFrzD i ts) D σ H) : liftS bk X W ts D σ H := by
  obtain ⟨S0, Hz, S, env, Dd, ok0, e0, ab, en, t⟩ := q
  obtain ⟨r, hi, t⟩ := enGet_some t
  obtain ⟨v, hv, rs⟩ := ab.at_ i r hi
  have hi' : i < env.length := (List.getElem?_eq_some_iff.mp hi).1
  have back : ∀ r', r.frz = r' → r = r' → liftS bk X W ts D σ H := fun r' h1 h2 => by
    have e : env.set i (some r) = env := by
      apply List.ext_getElem?
      intro j
      by_cases z : i = j
      · subst z; rw [List.getElem?_set_self hi', hi]
      · rw [List.getElem?_set_ne z]
    rw [h1, ← h2, e] at t
    exact ⟨S0, Hz, S, env, Dd, ok0, e0, ab, en, t⟩
  cases r with
  | d x => exact back _ rfl rfl
  | bor o => exact rs.elim
  | box => exact back _ rfl rfl
  | scr ns => exact back _ rfl rfl
  | own o =>
    have hz0 : o.pl = true ∨ RV.frz (.own o) = .own o := by cases o <;> first | exact .inl rfl | exact .inr rfl
    rcases hz0 with hp | hp
    case inr => exact back _ hp rfl
    have ef : RV.frz (.own o) = .d o.dat := by
      cases o with
      | lst xs => rfl
      | dic xs => rfl
      | dtn xs => cases hp
    rw [ef] at t
    obtain ⟨a, rfl, hz, hl, hf, w⟩ := rs
    obtain ⟨u, hu, rp⟩ := OwR.frozen (o := o) w hf hp
    have e1 : Ext bk S0 { S with F := upd S.F a u } Hz H := freeze_at e0 hz hl hf hu
    refine ⟨S0, Hz, { S with F := upd S.F a u }, _, Dd, ok0, e1, ?_, en, t⟩
    have fz : Same S.F (upd S.F a u) := fun b w hb => by rw [upd_ne (ne_of_none hb hf)]; exact hb
    refine ⟨by rw [List.length_set]; exact ab.len, fun j r hj => ?_, fun j k p p' v hjk h1 h2 h3 => ?_⟩
    · by_cases z : i = j
      · subst z
        rw [List.getElem?_set_self hi'] at hj
        cases hj
        exact ⟨_, hv, rp⟩
      · rw [List.getElem?_set_ne z] at hj
        obtain ⟨v, h1, h2⟩ := ab.at_ j r hj
        refine ⟨v, h1, ?_⟩
        cases r with
        | d x => exact Rp.mono fz h2
        | own p =>
          obtain ⟨b, rfl, q1, q2, q3, q4⟩ := h2
          have hb : b ≠ a := fun z2 => by subst z2; exact ab.ap i j o p _ z hi hj hv h1
          refine ⟨b, rfl, q1, q2, ?_, OwR.mono (S := S) (S' := { S with F := upd S.F a u }) fz q4 fun w hw => hw⟩
          show upd S.F a u b = none
          rw [upd_ne hb]; exact q3
        | bor p => exact h2
        | box => exact h2
        | scr ns => exact (let ⟨a, e, q⟩ := h2; ⟨a, e, sqL_mono fz q⟩)
    · have own : ∀ (m : Nat) (p : Ow), (env.set i (some (RV.d o.dat)))[m]? = some (some (.own p)) → env[m]? = some (some (.own p)) := fun m p hm => by
        by_cases e : i = m
        · subst e
          rw [List.getElem?_set_self hi'] at hm
          cases hm
        · rw [List.getElem?_set_ne e] at hm; exact hm
      exact ab.ap j k p p' v hjk (own j p h1) (own k p' h2) h3
theorem sds_frz {i : Nat} {sts : List Stmt} (h : PSsD bk X W sts ts) : PSsD bk X W sts (tFrzD i ts) := PSs.imp h fun _ _ _ q => lift_frz q

/-! while -/
def tWhileD (c : TD) (tb : TSD) : TSD := fun D env => ∃ Wd : Nat → En → Prop, (∃ m, Wd m env) ∧ ∀ m env, Wd m env →
  c env (fun r => r.bl fun b => if b = true then tb { D with nx := fun env' => ∃ m', m' < m ∧ Wd m' env', ct := fun env' => ∃ m', m' < m ∧ Wd m' env', bk := D.nx } env else D.nx env) (D.err env)
theorem sd_while {c : Expr} {body : List Stmt} {tc : TD} (hp : PassesOwn (model X.prog X.w) X.A X.env X.xe) (hc : PDT bk X W c (tTst tc)) (hb : PSsD bk X W body ts) : PSD bk X W (.While c body [] pos) (tWhileD tc ts) := PS.imp (ps_while hp hc hb) fun D σ H q => by
  obtain ⟨S0, Hz, S, env, Dd, ok0, e0, ab, en, Wd, ⟨m0, w0⟩, step⟩ := q
  refine ⟨fun m σ H => ∃ S env, Ext bk S0 S Hz H ∧ Abs X.K S Hz H σ env ∧ Wd m env, ⟨m0, S, env, e0, ab, w0⟩, fun m σ1 H1 w1 => ?_⟩
  obtain ⟨S1, env1, e1, ab1, w1⟩ := w1
  refine ⟨S1, env1, Hz, _, _, e1.ok, ab1, en.exOk ok0 e1 ab1, fun b H2 S2 q2 e2 => ?_, step m env1 w1⟩
  have e12 := Ext.tr ok0 e1 e2
  cases b with
  | true =>
    refine L2.iteT ?_
    refine ⟨fun σ' H' => ∃ S env m', Ext bk S0 S Hz H' ∧ Abs X.K S Hz H' σ' env ∧ m' < m ∧ Wd m' env, fun σ' H' ⟨S3, env3, m', h1, h2, h3, h4⟩ => ⟨m', h3, S3, env3, h1, h2, h4⟩, S0, Hz, S2, env1, _, ok0, e12, ab1.ext e2, ?_, q2⟩
    exact ⟨fun σ' H' S3 env3 h1 h2 ⟨m', h3, h4⟩ => ⟨S3, env3, m', h1, h2, h3, h4⟩, en.rt, fun σ' H' S3 env3 h1 h2 h3 => en.nx _ _ _ _ h1 h2 h3, fun σ' H' S3 env3 h1 h2 ⟨m', h3, h4⟩ => ⟨S3, env3, m', h1, h2, h3, h4⟩, en.ex⟩
  | false =>
    refine L2.iteF ?_
    exact en.nx _ _ _ _ e12 (ab1.ext e2) q2
end
end HA

namespace HA
open PySem PySem.Spec PyProof.Rows L2

/-! ### targets -/
abbrev TGD := PyData → En → (En → Prop) → Prop
abbrev TGDs := List PyData → En → (En → Prop) → Prop
section
variable (bk : BoxKind) (X : Cx) (sl : List Nat)
/-- sl: the slots that may change -/
def liftG (t : TGD) : TG := fun v σ H Q => ∃ S Hz env x Qd, AOk bk S H ∧ Abs X.K S Hz H σ env ∧ Rp X.K S.F v x ∧
  (∀ σ' env', Abs X.K S Hz H σ' env' → σ'.length = σ.length → (∀ j, j ∉ sl → σ'[j]? = σ[j]?) → Qd env' → Q σ' H) ∧ t x env Qd
def liftGs (t : TGDs) : TGs := fun vs σ H Q => ∃ S Hz env xs Qd, AOk bk S H ∧ Abs X.K S Hz H σ env ∧ RpAll X.K S.F vs xs ∧
  (∀ σ' env', Abs X.K S Hz H σ' env' → σ'.length = σ.length → (∀ j, j ∉ sl → σ'[j]? = σ[j]?) → Qd env' → Q σ' H) ∧ t xs env Qd
def PGD (e : Expr) (t : TGD) : Prop := PG X e (liftG bk X sl t)
def PGDs (es : List Expr) (t : TGDs) : Prop := PGs X es (liftGs bk X sl t)
end
theorem PG.imp {X : Cx} {e : Expr} {t t' : TG} (h : PG X e t) (i : ∀ v σ H Q, t' v σ H Q → t v σ H Q) : PG X e t' := ⟨fun pins s σ H v u Q I r q => h.run pins s σ H v u Q I r (i v σ H Q q)⟩
theorem PGs.imp {X : Cx} {es : List Expr} {t t' : TGs} (h : PGs X es t) (i : ∀ v σ H Q, t' v σ H Q → t v σ H Q) : PGs X es t' := ⟨fun pins s σ H v u Q I r q => h.run pins s σ H v u Q I r (i v σ H Q q)⟩
def gNmD (i : Nat) : TGD := fun x env Q => Q (env.set i (some (.d x)))
def gNilD : TGDs := fun xs env Q => xs = [] ∧ Q env
def gConsD (t : TGD) (u : TGDs) : TGDs := fun xs env Q => match xs with
  | x :: r => t x env fun env' => u r env' Q
  | [] => False
def gTupD (n : Nat) (t : TGDs) : TGD := fun x env Q => match x with
  | .tuple xs => xs.length = n ∧ t xs env Q
  | _ => False
section
variable {bk : BoxKind} {X : Cx} {W : WX} {sl sl2 : List Nat} {pos : Pos}
theorem pgd_name {i : Nat} {x : Str} (hN : X.N.Nodup) (hi : X.N[i]? = some x) (hx : Loc X.env.scope x) (hf : X.fn x = true ∨ X.env.scope.names.lookup x = some .local) (hm : i ∈ sl) : PGD bk X sl (.Name x pos) (gNmD i) :=
  PG.imp (pg_name hN hi hx hf) fun v σ H Q q => by
    obtain ⟨S, Hz, env, x, Qd, ok, ab, rx, con, t⟩ := q
    exact con _ _ (ab.setD rx) (by rw [List.length_set]) (fun j hj => List.getElem?_set_ne fun z => hj (by rw [← z]; exact hm)) t
theorem pgds_nil : PGDs bk X sl [] gNilD := PGs.imp pgs_nil fun v σ H Q q => by
  obtain ⟨S, Hz, env, xs, Qd, ok, ab, rx, con, e, t⟩ := q
  subst e
  cases rx
  exact ⟨rfl, con _ _ ab rfl (fun _ _ => rfl) t⟩
theorem pgds_cons {e : Expr} {es : List Expr} {t : TGD} {u : TGDs} (h1 : PGD bk X sl e t) (h2 : PGDs bk X sl es u) (hs : (assignEach (e :: es) X.env).map (·.2) = assign e X.env :: (assignEach es X.env).map (·.2)) : PGDs bk X sl (e :: es) (gConsD t u) :=
  PGs.imp (pgs_cons h1 h2 hs) fun v σ H Q q => by
    obtain ⟨S, Hz, env, xs, Qd, ok, ab, rx, con, t⟩ := q
    cases xs with
    | nil => exact t.elim
    | cons x xs =>
      cases rx with
      | cons r1 r2 =>
        refine ⟨_, _, rfl, S, Hz, env, x, _, ok, ab, r1, fun σ' env' ab' hl hj q1 => ?_, t⟩
        exact ⟨S, Hz, env', xs, Qd, ok, ab', r2, fun σ2 env2 ab2 hl2 hj2 q2 => con _ _ ab2 (hl2.trans hl) (fun j h => (hj2 j h).trans (hj j h)) q2, q1⟩
theorem pgd_tup {es : List Expr} {k n : Nat} {t : TGDs} (hc : X.calm = true) (h : PGDs bk X sl es t) (hn : (assignEach es X.env).length = n) (hst : (assignEach es X.env).findIdx? (·.1) = none) : PGD bk X sl (.Tuple es k pos) (gTupD n t) :=
  PG.imp (pg_tup hc h hn hst) fun v σ H Q q => by
    obtain ⟨S, Hz, env, x, Qd, ok, ab, rx, con, t⟩ := q
    cases x with
    | tuple xs =>
      cases rx with
      | tup h1 h2 => exact ⟨_, _, rfl, sqT_mono ok.sub h1, by rw [h2.length]; exact t.1, S, Hz, env, xs, Qd, ok, ab, h2, con, t.2⟩
    | _ => exact t.elim
end

/-! ### what is walked -/
abbrev TDI := En → (List PyData → Prop) → (Err → Prop) → Prop
/-- J gives the data, one by one, while P holds -/
structure ItD (bk : BoxKind) (K : PySem.W.Frag) (P : AS → Hp → Prop) (J : It) (xs : List PyData) : Prop where
  go : ∀ i S H, P S H → i < xs.length → J.go i H
  yld : ∀ i S H x v H', P S H → xs[i]? = some x → J.yld i H v H' → ∃ S', Ext bk S S' H H' ∧ Rp K S'.F v x
  stop : ∀ i S H, P S H → i = xs.length → J.stop i H
/-- fz: only what is frozen stays as it is; else: what was there at the beginning -/
def PFX (bk : BoxKind) (fz : Bool) (S0 : AS) (H0 : Hp) (S : AS) (H : Hp) : Prop := AOk bk S H ∧ Same S0.F S.F ∧ (fz = false → Ext bk S0 S H0 H)
section
variable (bk : BoxKind) (X : Cx) (W : WX) (fz : Bool)
def liftI (t : TDI) : TI := fun σ H R => ∃ S env Hz Qd Ex, AOk bk S H ∧ Abs X.K S Hz H σ env ∧ ExOk bk X W S σ H Ex ∧ (∀ xs J H' S', Qd xs → Ext bk S S' H H' → ItD bk X.K (PFX bk fz S' H') J xs → R J H') ∧ t env Qd Ex
def PID (tg e : Expr) (t : TDI) : Prop := PI X tg e (liftI bk X W fz t)
end
theorem PI.imp {X : Cx} {tg e : Expr} {t t' : TI} (h : PI X tg e t) (i : ∀ σ H R, t' σ H R → t σ H R) : PI X tg e t' := ⟨fun pins s σ H R I q => h.run pins s σ H R I (i σ H R q)⟩
/-- what is walked: must it stay? -/
def RV.src (fz : Bool) (r : RV) (k : PyData → Prop) : Prop := match r with
  | .d x => k x
  | .own o => o.rd k
  | .bor o => fz = false ∧ o.rd k
  | .box => False
  | .scr ns => k (.list (ns.map PyData.int))
section
variable {bk : BoxKind} {X : Cx} {W : WX} {fz : Bool} {S S' : AS} {σ : Sg} {H H' Hz : Hp} {env : En} {pos : Pos} {v : V}
theorem PFX.self (ok : AOk bk S H) : PFX bk fz S H S H := ⟨ok, Same.refl _, fun _ => Ext.refl ok⟩
theorem PFX.from {S0 : AS} {H0 : Hp} (ok : AOk bk S H) (e : Ext bk S S0 H H0) {S3 : AS} {H3 : Hp} (p : PFX bk fz S0 H0 S3 H3) : PFX bk fz S H S3 H3 := ⟨p.1, e.fz.trans p.2.1, fun z => Ext.trans ok e (p.2.2 z)⟩
/-- it can be read while PFX holds -/
def Src (bk : BoxKind) (K : PySem.W.Frag) (fz : Bool) (S : AS) (H : Hp) (v : V) (x : PyData) : Prop := ∀ S3 H3, PFX bk fz S H S3 H3 → Rq K S3 H3 v x
theorem RRes.src {r : RV} {k : PyData → Prop} (e : Ext bk S S' H H') (h : RRes X.K S' H H' v r) (u : r.src fz k) : ∃ S2 x, Ext bk S S2 H H' ∧ k x ∧ Src bk X.K fz S2 H' v x := by
  cases r with
  | d x => exact ⟨S', x, e, u, fun S3 H3 p => .inl (Rp.mono p.2.1 h)⟩
  | box => exact u.elim
  | scr ns =>
    obtain ⟨a, rfl, l⟩ := h
    exact ⟨S', _, e, u, fun S3 H3 p => .inr (.inr ⟨a, ns, rfl, sqL_mono p.2.1 l, rfl⟩)⟩
  | bor o =>
    obtain ⟨e0, u⟩ := u
    obtain ⟨hp, u⟩ := Ow.rd_pl u
    obtain ⟨a, rfl, hl, hf, w⟩ := h
    refine ⟨S', _, e, u, fun S3 H3 p => .inr (.inl ⟨a, o, rfl, ?_, w.mono p.2.1 fun u q => (p.2.2 e0).kp _ _ q hl, hp, rfl⟩)⟩
    rw [(p.2.2 e0).el]; exact hl
  | own o =>
    obtain ⟨a, rfl, hn, hl, hf, w⟩ := h
    cases o with
    | lst xs =>
      obtain ⟨vs, h1, h2⟩ := w
      exact ⟨{ S' with F := upd S'.F a (.lst vs) }, .list xs, freeze_at e hn hl hf h1, u, fun S3 H3 p => .inl (Rp.mono p.2.1 (.lst upd_same (h2.ins hf)))⟩
    | dic xs =>
      obtain ⟨vs, h1, h2⟩ := w
      exact ⟨{ S' with F := upd S'.F a (.dK vs) }, .dict xs, freeze_at e hn hl hf h1, u, fun S3 H3 p => .inl (Rp.mono p.2.1 (.dic upd_same (h2.ins hf)))⟩
    | dtn xs => exact u.elim
end
/-- several of them -/
def tConsS (fz : Bool) (ta : TD) (tr : TDU) : TDU := fun env Q Ex => ta env (fun r => r.src fz fun x => tr env (fun xs => Q (x :: xs)) Ex) Ex
section
variable (bk : BoxKind) (X : Cx) (W : WX) (fz : Bool)
def liftV (t : TDU) : TA := fun σ H Q => ∃ S env Hz Qd Ex, AOk bk S H ∧ Abs X.K S Hz H σ env ∧ ExOk bk X W S σ H Ex ∧ (∀ xs vs H' S', Qd xs → Ext bk S S' H H' → Paired (Src bk X.K fz S' H') vs xs → Q vs H') ∧ t env Qd Ex
def PDV (es : List Expr) (t : TDU) : Prop := PA X es (liftV bk X W fz t)
end
section
variable {bk : BoxKind} {X : Cx} {W : WX} {fz : Bool} {S S' : AS} {σ : Sg} {H H' Hz : Hp} {env : En} {pos : Pos} {v : V} {tg e : Expr} {es : List Expr} {t : TD} {tr : TDU}
theorem pdv_nil : PDV bk X W fz [] tNilU := PA.imp pa_nil fun _ _ _ q => by
  obtain ⟨S, env, Hz, Qd, Ex, ok, ab, ex, con, t⟩ := q
  exact con [] [] _ _ t (Ext.refl ok) .nil
theorem pdv_cons (ha : PD bk X W e t) (hr : PDV bk X W fz es tr) (hs : starEach (e :: es) X.env = (false, eval e X.env) :: starEach es X.env) : PDV bk X W fz (e :: es) (tConsS fz t tr) := PA.imp (pa_cons ha hr hs) fun σ H Q q => by
  obtain ⟨S, env, Hz, Qd, Ex, ok, ab, ex, con, t⟩ := q
  refine ⟨S, env, Hz, _, Ex, ok, ab, ex, fun r v H1 S1 q1 e1 r1 => ?_, t⟩
  obtain ⟨S2, x, e2, q2, rx⟩ := r1.src e1 q1
  refine ⟨S2, env, Hz, _, Ex, e2.ok, ab.ext e2, ex.ext ok e2, fun xs vs H3 S3 q3 e3 r3 => ?_, q2⟩
  exact con _ _ _ _ q3 (Ext.trans ok e2 e3) (.cons (fun S4 H4 p => rx S4 H4 (PFX.from e2.ok e3 p)) r3)
/-! a list, a tuple -/
def asSeq (x : PyData) (k : List PyData → Prop) : Prop := match x with
  | .list xs => k xs
  | .tuple xs => k xs
  | _ => False
def tItVD (fz : Bool) (t : TD) : TDI := fun env Q Ex => t env (fun r => r.src fz fun x => asSeq x Q) Ex
def iSeq (K : PySem.W.Frag) (tl : TE) : TI := fun σ H R => tl σ H fun x H1 => ∃ a, x = .ref a ∧ (((∃ xs, SqL K H1 a xs) ∧ R (Itl K a) H1) ∨ ((∃ xs, SqT K H1 a xs) ∧ R (Itt K a) H1))
theorem pi_seq {l : Expr} {tl : TE} (hl : PE X l tl) : PI X tg l (iSeq X.K tl) := by
  refine ⟨fun pins s σ H R I h => ?_⟩
  refine thn (hl.run pins s σ H _ I h) fun v s1 ⟨x, H1, I1, r1, q1⟩ => ?_
  obtain ⟨a, e, q⟩ := q1
  subst e
  cases r1
  rcases q with ⟨⟨xs, hq⟩, q⟩ | ⟨⟨xs, hq⟩, q⟩
  · obtain ⟨its, rv, p, hz⟩ := I1.list hq
    refine wpAny_pyIter_list p.isList ?_
    refine ⟨s1.heap.objs.size, [s1.heap.objs.size], _, _, H1, rfl, I1.kept (t' := s1.toks) fun b o e => Heap.get?_push_of_some _ e, turn_list a _, ⟨_, Heap.get?_push_size _ rfl, rfl, rfl⟩, fun b hb => ?_, q⟩
    have e : b = s1.heap.objs.size := by simpa using hb
    subst e
    exact I1.fpOk (Nat.le_refl _) (I1.hok.fresh (Nat.le_refl _))
  · obtain ⟨its, rv, p, hz⟩ := I1.tuple hq
    refine wpAny_pyIter_tuple (show s1.heap.IsTuple a its.toArray from p) ?_
    refine ⟨s1.heap.objs.size, [s1.heap.objs.size], _, _, H1, rfl, I1.kept (t' := s1.toks) fun b o e => Heap.get?_push_of_some _ e, turn_tuple a _, ⟨_, Heap.get?_push_size _ rfl, rfl, rfl⟩, fun b hb => ?_, q⟩
    have e : b = s1.heap.objs.size := by simpa using hb
    subst e
    exact I1.fpOk (Nat.le_refl _) (I1.hok.fresh (Nat.le_refl _))
theorem sqL_lst {K : PySem.W.Frag} {a : Addr} {xs : List V} (h : H a = some (.lst xs)) : SqL K H a xs := SqL.of h
theorem it_list {P : AS → Hp → Prop} {a : Addr} {xs : List PyData} (h : ∀ S H, P S H → AOk bk S H ∧ Rq X.K S H (.ref a) (.list xs)) : ItD bk X.K P (Itl X.K a) xs := by
  have g : ∀ S H, P S H → ∃ vs, SqL X.K H a vs ∧ RpAll X.K S.F vs xs ∧ AOk bk S H := fun S H p => by
    obtain ⟨ok, r⟩ := h S H p
    obtain ⟨b, vs, e, h1, h2⟩ := r.rr.list ok.sub
    cases e
    exact ⟨vs, h1, h2, ok⟩
  refine ⟨fun i S H p hi => ?_, fun i S H x v H' p hx y => ?_, fun i S H p hi => ?_⟩
  · obtain ⟨vs, h1, h2, ok⟩ := g S H p
    have : i < vs.length := by rw [h2.length]; exact hi
    exact ⟨vs, vs[i], h1, List.getElem?_eq_getElem this⟩
  · obtain ⟨vs, h1, h2, ok⟩ := g S H p
    obtain ⟨rfl, y⟩ := y
    obtain ⟨v', hv, rv⟩ := h2.getD hx
    have := y vs h1
    rw [hv] at this
    cases this
    exact ⟨S, Ext.refl ok, rv⟩
  · obtain ⟨vs, h1, h2, ok⟩ := g S H p
    exact ⟨vs, h1, by rw [h2.length]; exact Nat.le_of_eq hi.symm⟩
theorem it_tup {P : AS → Hp → Prop} {a : Addr} {xs : List PyData} (h : ∀ S H, P S H → AOk bk S H ∧ Rq X.K S H (.ref a) (.tuple xs)) : ItD bk X.K P (Itt X.K a) xs := by
  have g : ∀ S H, P S H → ∃ vs, SqT X.K H a vs ∧ RpAll X.K S.F vs xs ∧ AOk bk S H := fun S H p => by
    obtain ⟨ok, r⟩ := h S H p
    obtain ⟨b, vs, e, h1, h2⟩ := r.rr.tuple
    cases e
    exact ⟨vs, sqT_mono ok.sub h1, h2, ok⟩
  refine ⟨fun i S H p hi => ?_, fun i S H x v H' p hx y => ?_, fun i S H p hi => ?_⟩
  · obtain ⟨vs, h1, h2, ok⟩ := g S H p
    have : i < vs.length := by rw [h2.length]; exact hi
    exact ⟨vs, vs[i], h1, List.getElem?_eq_getElem this⟩
  · obtain ⟨vs, h1, h2, ok⟩ := g S H p
    obtain ⟨rfl, y⟩ := y
    obtain ⟨v', hv, rv⟩ := h2.getD hx
    have := y vs h1
    rw [hv] at this
    cases this
    exact ⟨S, Ext.refl ok, rv⟩
  · obtain ⟨vs, h1, h2, ok⟩ := g S H p
    exact ⟨vs, h1, by rw [h2.length]; exact Nat.le_of_eq hi.symm⟩
theorem Src.ref {v : V} {x : PyData} {k : List PyData → Prop} (ok : AOk bk S H) (h : Src bk X.K fz S H v x) (q : asSeq x k) : ∃ a xs, v = .ref a ∧ k xs ∧
    (((∃ vs, SqL X.K H a vs) ∧ ItD bk X.K (PFX bk fz S H) (Itl X.K a) xs) ∨ ((∃ vs, SqT X.K H a vs) ∧ ItD bk X.K (PFX bk fz S H) (Itt X.K a) xs)) := by
  have h0 := h S H (PFX.self ok)
  cases x with
  | list xs =>
    obtain ⟨a, vs, rfl, h1, h2⟩ := h0.rr.list ok.sub
    exact ⟨a, xs, rfl, q, .inl ⟨⟨vs, h1⟩, it_list fun S3 H3 p => ⟨p.1, h S3 H3 p⟩⟩⟩
  | tuple xs =>
    obtain ⟨a, vs, rfl, h1, h2⟩ := h0.rr.tuple
    exact ⟨a, xs, rfl, q, .inr ⟨⟨vs, sqT_mono ok.sub h1⟩, it_tup fun S3 H3 p => ⟨p.1, h S3 H3 p⟩⟩⟩
  | _ => exact q.elim
theorem pid_seq (h : PD bk X W e t) : PID bk X W fz tg e (tItVD fz t) := PI.imp (pi_seq h) fun σ H R q => by
  obtain ⟨S, env, Hz, Qd, Ex, ok, ab, ex, con, t⟩ := q
  refine ⟨S, env, Hz, _, Ex, ok, ab, ex, fun r v H1 S1 q1 e1 r1 => ?_, t⟩
  obtain ⟨S2, x, e2, q2, rx⟩ := r1.src e1 q1
  obtain ⟨a, xs, rfl, q3, z⟩ := rx.ref e2.ok q2
  refine ⟨a, rfl, ?_⟩
  rcases z with ⟨z, it⟩ | ⟨z, it⟩
  · exact .inl ⟨z, con _ _ _ _ q3 e2 it⟩
  · exact .inr ⟨z, con _ _ _ _ q3 e2 it⟩
/-! range -/
def rngL (lo : Int) (n : Nat) : List PyData := (List.range n).map fun i => .int (lo + (i : Nat))
def rngC (lo c : Int) (n : Nat) : List PyData := (List.range n).map fun i => .int (lo + (i : Nat) * c)
theorem rngL_get {lo : Int} {n i : Nat} {x : PyData} (h : (rngL lo n)[i]? = some x) : x = .int (lo + (i : Nat)) := by
  unfold rngL at h
  rw [List.getElem?_map] at h
  cases q : (List.range n)[i]? with
  | none => rw [q] at h; cases h
  | some j =>
    rw [q] at h
    obtain ⟨h1, h2⟩ := List.getElem?_eq_some_iff.mp q
    rw [List.getElem_range] at h2
    subst h2
    cases h
    rfl
theorem rngL_len {lo : Int} {n : Nat} : (rngL lo n).length = n := by unfold rngL; rw [List.length_map, List.length_range]
theorem rngC_get {lo c : Int} {n i : Nat} {x : PyData} (h : (rngC lo c n)[i]? = some x) : x = .int (lo + (i : Nat) * c) := by
  unfold rngC at h
  rw [List.getElem?_map] at h
  cases q : (List.range n)[i]? with
  | none => rw [q] at h; cases h
  | some j =>
    rw [q] at h
    obtain ⟨h1, h2⟩ := List.getElem?_eq_some_iff.mp q
    rw [List.getElem_range] at h2
    subst h2
    cases h
    rfl
theorem rngC_len {lo c : Int} {n : Nat} : (rngC lo c n).length = n := by unfold rngC; rw [List.length_map, List.length_range]
theorem it_rng {P : AS → Hp → Prop} {lo : Int} {n : Nat} (h : ∀ S H, P S H → AOk bk S H) : ItD bk X.K P (Itr lo n) (rngL lo n) := by
  refine ⟨fun i S H p hi => by rw [rngL_len] at hi; exact hi, fun i S H x v H' p hx y => ?_, fun i S H p hi => by rw [rngL_len] at hi; exact Nat.le_of_eq hi.symm⟩
  obtain ⟨rfl, rfl⟩ := y
  rw [rngL_get hx]
  exact ⟨S, Ext.refl (h S _ p), .int _⟩
theorem it_rngC {P : AS → Hp → Prop} {lo c : Int} {n : Nat} (h : ∀ S H, P S H → AOk bk S H) : ItD bk X.K P (Itc lo c n) (rngC lo c n) := by
  refine ⟨fun i S H p hi => by rw [rngC_len] at hi; exact hi, fun i S H x v H' p hx y => ?_, fun i S H p hi => by rw [rngC_len] at hi; exact Nat.le_of_eq hi.symm⟩
  obtain ⟨rfl, rfl⟩ := y
  rw [rngC_get hx]
  exact ⟨S, Ext.refl (h S _ p), .int _⟩
def bd62 (i : Int) : Prop := -(2 ^ 62) ≤ i ∧ i < 2 ^ 62
def tRng1 (t : TDU) : TDI := fun env Q Ex => t env (fun xs => match xs with | [.int j] => bd62 j ∧ Q (rngL 0 j.toNat) | _ => False) Ex
def tRng2 (t : TDU) : TDI := fun env Q Ex => t env (fun xs => match xs with | [.int i, .int j] => bd62 i ∧ bd62 j ∧ Q (rngL i (j - i).toNat) | _ => False) Ex
/-- downwards -/
def tRng3 (t : TDU) : TDI := fun env Q Ex => t env (fun xs => match xs with | [.int i, .int j, .int c] => c = -1 ∧ bd62 i ∧ bd62 j ∧ Q (rngC i (-1) (i - j).toNat) | _ => False) Ex
variable {a b c : Expr} {p : Pos}
theorem pid_rng1 (hg : Gl X "range") (hm : X.mg "range" = none) (ha : PDU bk X W [a] tr) (hs : starEach [a] X.env = [(false, eval a X.env)]) : PID bk X W fz tg (.Call (.Name "range" p) [a] [] pos) (tRng1 tr) := PI.imp (pi_range1 hg hm ha hs) fun σ H R q => by
  obtain ⟨S, env, Hz, Qd, Ex, ok, ab, ex, con, t⟩ := q
  refine ⟨S, env, Hz, _, Ex, ok, ab, ex, fun xs vs H1 S1 q1 e1 r1 => ?_, t⟩
  split at q1
  · obtain ⟨v, rfl, h1⟩ := paired1 r1
    have := h1.rr.int
    subst this
    exact ⟨_, rfl, q1.1.1, q1.1.2, con _ _ _ _ q1.2 e1 (it_rng fun _ _ p => p.1)⟩
  · exact q1.elim
theorem pid_rng2 (hg : Gl X "range") (hm : X.mg "range" = none) (ha : PDU bk X W [a, b] tr) (hs : starEach [a, b] X.env = [(false, eval a X.env), (false, eval b X.env)]) (hs2 : starEach [b] X.env = [(false, eval b X.env)]) :
    PID bk X W fz tg (.Call (.Name "range" p) [a, b] [] pos) (tRng2 tr) := PI.imp (pi_range2 hg hm ha hs hs2) fun σ H R q => by
  obtain ⟨S, env, Hz, Qd, Ex, ok, ab, ex, con, t⟩ := q
  refine ⟨S, env, Hz, _, Ex, ok, ab, ex, fun xs vs H1 S1 q1 e1 r1 => ?_, t⟩
  split at q1
  · obtain ⟨v, w, rfl, h1, h2⟩ := paired2 r1
    have := h1.rr.int
    subst this
    have := h2.rr.int
    subst this
    obtain ⟨b1, b2, q1⟩ := q1
    exact ⟨_, _, rfl, ⟨b1.1, b1.2, b2.1, b2.2⟩, con _ _ _ _ q1 e1 (it_rng fun _ _ p => p.1)⟩
  · exact q1.elim
theorem paired3 {α β : Type} {R : α → β → Prop} {vs : List α} {y z w : β} (h : Paired R vs [y, z, w]) : ∃ a b c, vs = [a, b, c] ∧ R a y ∧ R b z ∧ R c w := by
  cases h with
  | cons h1 h2 => obtain ⟨b, c, rfl, h3, h4⟩ := paired2 h2; exact ⟨_, b, c, rfl, h1, h3, h4⟩
theorem pid_rng3 (hg : Gl X "range") (hm : X.mg "range" = none) (ha : PDU bk X W [a, b, c] tr) (hs : starEach [a, b, c] X.env = (false, eval a X.env) :: starEach [b, c] X.env) (hpl : (backTo pos (starEach [b, c] X.env)).any (·.1) = false) :
    PID bk X W fz tg (.Call (.Name "range" p) [a, b, c] [] pos) (tRng3 tr) := PI.imp (pi_range3 hg hm ha hs hpl) fun σ H R q => by
  obtain ⟨S, env, Hz, Qd, Ex, ok, ab, ex, con, t⟩ := q
  refine ⟨S, env, Hz, _, Ex, ok, ab, ex, fun xs vs H1 S1 q1 e1 r1 => ?_, t⟩
  split at q1
  · obtain ⟨v, w, u, rfl, h1, h2, h3⟩ := paired3 r1
    have := h1.rr.int
    subst this
    have := h2.rr.int
    subst this
    have := h3.rr.int
    subst this
    obtain ⟨rfl, b1, b2, q1⟩ := q1
    exact ⟨_, _, _, _, rfl, RgC.neg b1.1 b1.2 b2.1 b2.2, con _ _ _ _ q1 e1 (it_rngC fun _ _ p => p.1)⟩
  · exact q1.elim
end

/-- as seen from the def's entry -/
theorem back_ext {bk : BoxKind} {S0 S1 S' : AS} {Hz H1 H' : Hp} (e1 : Ext bk S0 S1 Hz H1) (e : Ext bk { S0 with F := S1.F } S' Hz H') : Ext bk S0 S' Hz H' := by
  refine ⟨e1.fz.trans e.fz, fun a h1 h2 => ?_, e.eb, e.el, e.kp, e.ok⟩
  by_cases z : S1.F a = none
  · exact e.nw a z h2
  · exact e1.nw a h1 z
/-! ### for -/
def forD (g : TGD) (tb : TSD) (D : SE) : List PyData → En → Prop
  | [], env => D.nx env
  | x :: xs, env => g x env fun env1 => tb { D with nx := forD g tb D xs, ct := forD g tb D xs, bk := D.nx } env1
def tForD (ti : TDI) (g : TGD) (tb : TSD) : TSD := fun D env => ti env (fun xs => forD g tb D xs env) (D.err env)
section
variable {bk : BoxKind} {X : Cx} {W : WX} {pos : Pos}
theorem sd_for {tg iter : Expr} {body : List Stmt} {ti : TDI} {g : TGD} {ts : TSD} {sl : List Nat} (hp : PassesOwn (model X.prog X.w) X.A X.env X.xe) (hc : X.calm = true) (hi : PID bk X W true tg iter ti) (hg : PGD bk X sl tg g) (hb : PSsD bk X W body ts)
    (hs : ∀ x, foldedSetIterable iter X.env x = pure x) : PSD bk X W (.For tg iter body [] pos) (tForD ti g ts) := PS.imp (ps_for hp hc hi hg hb hs) fun D σ H q => by
  obtain ⟨S0, Hz, S, env, Dd, ok0, e0, ab, en, t⟩ := q
  refine ⟨S, env, Hz, _, _, e0.ok, ab, en.exOk ok0 e0 ab, fun xs J H1 S1 q1 e1 it => ?_, t⟩
  have e01 := Ext.tr ok0 e0 e1
  refine ⟨fun i m σ H => m = xs.length - i ∧ i ≤ xs.length ∧ ∃ S env, Ext bk S0 S Hz H ∧ Same S1.F S.F ∧ Abs X.K S Hz H σ env ∧ forD g ts Dd (xs.drop i) env, ⟨xs.length, by simp, Nat.zero_le _, S1, env, e01, Same.refl _, ab.ext e1, by simpa using q1⟩, ?_⟩
  rintro i m σ2 H2 ⟨rfl, hi, S2, env2, e2, sm, ab2, q2⟩
  have P : PFX bk true S1 H1 S2 H2 := ⟨e2.ok, sm, fun z => nomatch z⟩
  by_cases hlt : i < xs.length
  · refine .inr ⟨it.go i S2 H2 P hlt, fun σ' H' => ∃ S env, Ext bk S0 S Hz H' ∧ Same S1.F S.F ∧ Abs X.K S Hz H' σ' env ∧ forD g ts Dd (xs.drop (i + 1)) env, fun σ' H' h => ⟨xs.length - (i + 1), by omega, rfl, hlt, h⟩, fun v H3 y => ?_⟩
    have hx : xs[i]? = some xs[i] := List.getElem?_eq_getElem hlt
    obtain ⟨S3, e3, rv⟩ := it.yld i S2 H2 _ v H3 P hx y
    rw [List.drop_eq_getElem_cons hlt] at q2
    have e23 := Ext.tr ok0 e2 e3
    have sm3 : Same S1.F S3.F := sm.trans e3.fz
    refine ⟨S3, Hz, env2, xs[i], _, e3.ok, ab2.ext e3, rv, fun σ4 env4 ab4 _ _ q4 => ?_, q2⟩
    refine ⟨{ S0 with F := S1.F }, Hz, S3, env4, _, ok0, ⟨sm3, fun a h1 h2 => ?_, e23.eb, e23.el, e23.kp, e23.ok⟩, ab4, ⟨?_, ?_, ?_, ?_, ?_⟩, q4⟩
    · refine e23.nw a ?_ h2
      cases z : S0.F a with
      | none => rfl
      | some w => rw [e01.fz a w z] at h1; cases h1
    all_goals
      first
      | exact fun σ' H' S' env' e' ab' h => ⟨S', env', (back_ext e01 e'), e'.fz, ab', h⟩
      | exact fun r v H' S' e' rr h => en.rt r v H' S' (back_ext e01 e') rr h
      | exact fun σ' H' S' env' e' ab' h => en.nx σ' H' S' env' (back_ext e01 e') ab' h
      | exact fun er cls d σ' H' S' env' e' ab' rr h => en.ex er cls d σ' H' S' env' (back_ext e01 e') ab' rr h
  · have e : i = xs.length := by omega
    subst e
    refine .inl ⟨it.stop _ S2 H2 P rfl, ?_⟩
    rw [List.drop_length] at q2
    exact en.nx σ2 H2 S2 env2 e2 ab2 q2
end

/-! ### list comprehensions -/
/-- the block's own names forgotten -/
def wipeD (env : En) : List Nat → En
  | [] => env
  | v :: vs => (wipeD env vs).set v none
theorem wipeD_len (env : En) : ∀ vs, (wipeD env vs).length = env.length
  | [] => rfl
  | v :: vs => by unfold wipeD; rw [List.length_set, wipeD_len env vs]
theorem wipeD_some {env : En} {i : Nat} {r : RV} : ∀ {vs : List Nat}, (wipeD env vs)[i]? = some (some r) → env[i]? = some (some r) ∧ i ∉ vs
  | [], h => ⟨h, by simp⟩
  | v :: vs, h => by
    unfold wipeD at h
    by_cases hi : v = i
    · subst hi
      by_cases hv : v < (wipeD env vs).length
      · rw [List.getElem?_set_self hv] at h; cases h
      · rw [List.getElem?_eq_none (by simpa using hv)] at h; cases h
    · rw [List.getElem?_set_ne hi] at h
      obtain ⟨h1, h2⟩ := wipeD_some h
      exact ⟨h1, by simp only [List.mem_cons, not_or]; exact ⟨fun e => hi e.symm, h2⟩⟩
theorem wipe_at {σ : Sg} {j : Nat} : ∀ {vs : List Nat}, j ∉ vs → (wipe σ vs)[j]? = σ[j]?
  | [], _ => rfl
  | v :: vs, h => by
    simp only [List.mem_cons, not_or] at h
    unfold wipe
    rw [List.getElem?_set_ne (fun z => h.1 z.symm)]
    exact wipe_at h.2
theorem wipe_in {σ : Sg} {j : Nat} : ∀ {vs : List Nat}, j ∈ vs → (wipe σ vs)[j]? = if j < σ.length then some none else none
  | v :: vs, h => by
    unfold wipe
    by_cases e : v = j
    · subst e
      by_cases l : v < σ.length
      · rw [if_pos l, List.getElem?_set_self (by rw [wipe_length]; exact l)]
      · rw [if_neg l, List.getElem?_eq_none (by rw [List.length_set, wipe_length]; omega)]
    · rw [List.getElem?_set_ne e]
      rcases List.mem_cons.mp h with z | z
      · exact absurd z.symm e
      · exact wipe_in z
/-- what a target of the block did is forgotten -/
theorem wipe_eq {σ σ2 : Sg} {vs : List Nat} (hl : σ2.length = σ.length) (h : ∀ j, j ∉ vs → σ2[j]? = (wipe σ vs)[j]?) : wipe σ2 vs = wipe σ vs := by
  refine List.ext_getElem? fun j => ?_
  by_cases m : j ∈ vs
  · rw [wipe_in m, wipe_in m, hl]
  · rw [wipe_at m, h j m]
def lcD (g : TGD) (tt : TDT) (te : TD) (vs : List Nat) (env : En) (Q : RV → Prop) : List PyData → List PyData → Prop
  | [], acc => Q (.own (.lst acc))
  | x :: xs, acc => g x (wipeD env vs) fun env2 => tt env2 (fun b => if b = true then te env2 (fun r => r.arg fun r' => match r' with
      | .d y => acc.length < sizeLine ∧ lcD g tt te vs env Q xs (acc ++ [y])
      | _ => False) (fun _ => False) else lcD g tt te vs env Q xs acc) (fun _ => False)
def tLcD (ti : TDI) (g : TGD) (tt : TDT) (te : TD) (vs : List Nat) : TD := fun env Q Ex => ti env (fun xs => lcD g tt te vs env Q xs []) Ex
def tYesD : TDT := fun _ Q _ => Q true
abbrev WF : WX := fun _ _ _ _ => False
section
variable {bk : BoxKind} {X : Cx} {W : WX} {pos : Pos} {S S' : AS} {Hz H H' : Hp} {σ : Sg} {env : En}
def PTsD (bk : BoxKind) (X : Cx) (W : WX) (es : List Expr) (t : TDT) : Prop := PTs X es (liftT bk X W t)
theorem PTs.imp {es : List Expr} {t t' : TT} (h : PTs X es t) (i : ∀ σ H Q, t' σ H Q → t σ H Q) : PTs X es t' := ⟨fun pins s σ H Q I q => h.run pins s σ H Q I (i σ H Q q)⟩
theorem ptd_nil : PTsD bk X W [] tYesD := PTs.imp pts_nil fun σ H Q q => by
  obtain ⟨S, env, Hz, Qd, Ex, ok, ab, ex, con, t⟩ := q
  exact con true _ _ t (Ext.refl ok)
theorem ptd_one {c : Expr} {t : TDT} (h : PDT bk X W c t) : PTsD bk X W [c] t := pts_one h
theorem Abs.wipe (x : Abs X.K S Hz H σ env) (vs : List Nat) : Abs X.K S Hz H (wipe σ vs) (wipeD env vs) := by
  refine ⟨by rw [wipe_length, wipeD_len]; exact x.len, fun i r h => ?_, fun i j o o' v h1 h2 h3 h4 => ?_⟩
  · obtain ⟨h1, h2⟩ := wipeD_some h
    rw [wipe_at h2]
    exact x.at_ i r h1
  · obtain ⟨g1, m1⟩ := wipeD_some h2
    obtain ⟨g2, m2⟩ := wipeD_some h3
    rw [wipe_at m1] at h4
    rw [wipe_at m2]
    exact x.ap i j o o' v h1 g1 g2 h4
theorem Ext.laidAt (ok : AOk bk S H) (e : Ext bk S S' H H') {p : Addr} {o : HO} (hn : H p = none) (hl : p ∉ S'.l) (hf : S'.F p = none) : Ext bk S S' H (upd H' p o) := e.write hn hf hl
theorem lift_lc {ti : TDI} {g : TGD} {tt : TDT} {te : TD} {vs : List Nat} {Q : VK} (h : liftE bk X W (tLcD ti g tt te vs) σ H Q) :
    tLc (liftI bk X W false ti) (liftG bk X vs g) (liftT bk X WF tt) (liftE bk X WF te) vs σ H Q := by
  obtain ⟨S, env, Hz, Qd, Ex, ok, ab, ex, con, t⟩ := h
  refine ⟨S, env, Hz, _, Ex, ok, ab, ex, fun xs J H1 S1 q1 e1 it => ?_, t⟩
  intro D hD
  have ok1 := e1.ok
  have lD : D ∉ S1.l := fun m => ok1.there m hD
  have fD : S1.F D = none := ok1.free hD
  have ab1 := ab.ext e1
  refine ⟨fun i m H => m = xs.length - i ∧ i ≤ xs.length ∧ ∃ S ws acc, Ext bk S1 S H1 H ∧ S.F D = none ∧ H D = some (.lst ws) ∧ RpAll X.K S.F ws acc ∧ lcD g tt te vs env Qd (xs.drop i) acc,
    ⟨xs.length, by simp, Nat.zero_le _, S1, [], [], Ext.laid ok1 hD, fD, upd_same, .nil, by simpa using q1⟩, ?_⟩
  rintro i m H2 ⟨rfl, hi, S2, ws, acc, e2, f2, h2, r2, q2⟩
  have P : PFX bk false S1 H1 S2 H2 := ⟨e2.ok, e2.fz, fun _ => e2⟩
  by_cases hlt : i < xs.length
  · refine .inr ⟨it.go i S2 H2 P hlt, fun H => ∃ S ws acc, Ext bk S1 S H1 H ∧ S.F D = none ∧ H D = some (.lst ws) ∧ RpAll X.K S.F ws acc ∧ lcD g tt te vs env Qd (xs.drop (i + 1)) acc, fun H' h => ⟨xs.length - (i + 1), by omega, rfl, hlt, h⟩, fun v H3 y => ?_⟩
    have hx : xs[i]? = some xs[i] := List.getElem?_eq_getElem hlt
    obtain ⟨S3, e3, rv⟩ := it.yld i S2 H2 _ v H3 P hx y
    rw [List.drop_eq_getElem_cons hlt] at q2
    have e13 := Ext.trans ok1 e2 e3
    -- the new list is kept by what comes
    have keep : ∀ {S4 : AS} {H4 : Hp}, Ext bk S2 S4 H2 H4 → S4.F D = none ∧ H4 D = some (.lst ws) ∧ RpAll X.K S4.F ws acc ∧ D ∉ S4.l := fun {S4 H4} e => by
      have l2 : D ∉ S2.l := by rw [e2.el]; exact lD
      refine ⟨?_, e.kp _ _ h2 l2, r2.mono e.fz, by rw [e.el]; exact l2⟩
      cases z : S4.F D with
      | none => rfl
      | some w =>
        have z2 := e.nw D f2 (by rw [z]; exact nofun)
        rw [h2] at z2; cases z2
    refine ⟨S3, Hz, wipeD env vs, xs[i], _, e3.ok, (ab1.ext e13).wipe vs, rv, fun σ4 env4 ab4 hl4 hj4 q4 => ?_, q2⟩
    refine ⟨wipe_eq (by rw [hl4, wipe_length]) hj4, ?_⟩
    refine ⟨S3, env4, Hz, _, fun _ => False, e3.ok, ab4, fun _ _ _ _ _ z => z.elim, fun b H5 S5 q5 e5 => ?_, q4⟩
    have e35 := Ext.trans e2.ok e3 e5
    cases b with
    | false =>
      obtain ⟨k1, k2, k3, _⟩ := keep e35
      simp only [Bool.false_eq_true, if_false] at q5 ⊢
      exact ⟨S5, ws, acc, Ext.trans ok1 e2 e35, k1, k2, k3, q5⟩
    | true =>
      simp only [if_true] at q5 ⊢
      refine ⟨S5, env4, Hz, _, fun _ => False, e5.ok, ab4.ext e5, fun _ _ _ _ _ z => z.elim, fun r v6 H6 S6 q6 e6 r6 => ?_, q5⟩
      obtain ⟨S7, r', e7, rv7, q7, _⟩ := r6.arg e5.ok e6 q6
      have e37 := Ext.trans e2.ok e35 e7
      obtain ⟨k1, k2, k3, k4⟩ := keep e37
      cases r' with
      | d y =>
        refine ⟨ws, k2, by rw [k3.length]; exact q7.1, S7, ws ++ [v6], acc ++ [y], ?_, k1, upd_same, k3.append (.cons rv7 .nil), q7.2⟩
        exact Ext.write (Ext.trans ok1 e2 e37) hD k1 k4
      | own o => exact q7.elim
      | bor o => exact q7.elim
      | box => exact q7.elim
      | scr ns => exact q7.elim
  · have e : i = xs.length := by omega
    subst e
    refine .inl ⟨it.stop _ S2 H2 P rfl, ?_⟩
    rw [List.drop_length] at q2
    refine con _ _ _ _ q2 (Ext.trans ok e1 e2) ⟨D, rfl, e1.free ok hD, by rw [e2.el]; exact lD, f2, ws, h2, r2⟩
section
variable {elt tg iter : Expr} {ifs : List Expr} {scope : Scope} {own : List (Str × Nat)} {ti : TDI} {g : TGD} {tt : TDT} {te : TD}
theorem pd_lc (hc : X.calm = true) (hN : X.N.Nodup) (hi : PID bk X W false tg iter ti) (ok : BlkOk X.N X.env.scope scope own)
    (hg : ∀ (s : Shared) (H : Hp) (C : Addr) (cl : List (Str × Addr)) (fp : List Addr), PGD bk (X.blk s H scope (compEnvC scope cl C X.env) fp) (own.map (·.2)) tg g) (ht : ∀ (s : Shared) (H : Hp) (C : Addr) (cl : List (Str × Addr)) (fp : List Addr), PTsD bk (X.blk s H scope (compEnvC scope cl C X.env) fp) WF ifs tt)
    (he : ∀ (s : Shared) (H : Hp) (C : Addr) (cl : List (Str × Addr)) (fp : List Addr), PD bk (X.blk s H scope (compEnvC scope cl C X.env) fp) WF elt te) (hs : ∀ x, foldedSetIterable iter X.env x = pure x) :
    PD bk X W (.ListComp elt [⟨tg, iter, ifs, 0⟩] scope pos) (tLcD ti g tt te (own.map (·.2))) := PE.imp (pe_lc (g := liftG bk X (List.map (fun x : Str × Nat => x.2) own) g) (tt := liftT bk X WF tt) (te := liftE bk X WF te) hc hN hi ok (fun s H C cl fp => hg s H C cl fp) (fun s H C cl fp => ht s H C cl fp) (fun s H C cl fp => he s H C cl fp) hs) fun _ _ _ q => lift_lc q
theorem sd_setLc {i : Nat} {y : Str} {py spos : Pos} (hc : X.calm = true) (hN : X.N.Nodup) (hy : X.N[i]? = some y) (hyl : X.env.scope.names.lookup y = some .local)
    (hsw : swapsWith (.ListComp elt [⟨tg, iter, ifs, 0⟩] scope pos) (some (.Name y py)) spos.line X.env = pure true) (hi : PID bk X W false tg iter ti) (ok : BlkOk X.N X.env.scope scope own)
    (hg : ∀ (s : Shared) (H : Hp) (C : Addr) (cl : List (Str × Addr)) (fp : List Addr), PGD bk (X.blk s H scope (compEnvC scope cl C X.env) fp) (own.map (·.2)) tg g) (ht : ∀ (s : Shared) (H : Hp) (C : Addr) (cl : List (Str × Addr)) (fp : List Addr), PTsD bk (X.blk s H scope (compEnvC scope cl C X.env) fp) WF ifs tt)
    (he : ∀ (s : Shared) (H : Hp) (C : Addr) (cl : List (Str × Addr)) (fp : List Addr), PD bk (X.blk s H scope (compEnvC scope cl C X.env) fp) WF elt te) (hs : ∀ x, foldedSetIterable iter X.env x = pure x) :
    PSD bk X W (.Assign [.Name y py] (.ListComp elt [⟨tg, iter, ifs, 0⟩] scope pos) spos) (tSetD i (tLcD ti g tt te (own.map (·.2)))) :=
  PS.imp (ps_setLc (g := liftG bk X (List.map (fun x : Str × Nat => x.2) own) g) (tt := liftT bk X WF tt) (te := liftE bk X WF te) hc hN hy hyl hsw hi ok (fun s H C cl fp => hg s H C cl fp) (fun s H C cl fp => ht s H C cl fp) (fun s H C cl fp => he s H C cl fp) hs) fun D σ H q => lift_lc (lift_set q)
end

/-! ### several names at once -/
/-- results that are kept as they are -/
inductive RStos (K : PySem.W.Frag) (S : AS) (H H' : Hp) : List V → List RV → Prop
  | nil : RStos K S H H' [] []
  | cons {v : V} {r : RV} {vs : List V} {rs : List RV} : RRes K S H H' v r → (∀ o, r ≠ .bor o) → (∀ o, r = .own o → ∀ (j : Nat) (o' : Ow), rs[j]? = some (.own o') → vs[j]? ≠ some v) → RStos K S H H' vs rs → RStos K S H H' (v :: vs) (r :: rs)
def liftSto (bk : BoxKind) (X : Cx) (W : WX) (t : TDA) : TA := fun σ H Q => ∃ S env Hz Qd Ex, AOk bk S H ∧ Abs X.K S Hz H σ env ∧ ExOk bk X W S σ H Ex ∧ (∀ rs vs H' S', Qd rs → Ext bk S S' H H' → RStos X.K S' H H' vs rs → Q vs H') ∧ t env Qd Ex
def PDS (bk : BoxKind) (X : Cx) (W : WX) (es : List Expr) (t : TDA) : Prop := PA X es (liftSto bk X W t)
def tConsO (ta : TD) (tr : TDA) : TDA := fun env Q Ex => ta env (fun r => r.sto fun r' => tr env (fun rs => Q (r' :: rs)) Ex) Ex
theorem RRes.on {v : V} {r : RV} {H0 : Hp} {S2 : AS} {H2 : Hp} (h : RRes X.K S H0 H v r) (e : Ext bk S S2 H H2) : RRes X.K S2 H0 H2 v r := by
  have fr : ∀ {a : Addr} {o : Ow}, S.F a = none → OwR X.K S.F H a o → S2.F a = none := fun {a o} f w => by
    obtain ⟨u, hu⟩ := OwR.there (K := X.K) (S := S) (H := H) w
    cases z : S2.F a with
    | none => rfl
    | some w =>
      have z2 := e.nw a f (by rw [z]; exact nofun)
      rw [hu] at z2; cases z2
  cases r with
  | d x => exact Rp.mono e.fz h
  | own o =>
    obtain ⟨a, rfl, n, l, f, w⟩ := h
    exact ⟨a, rfl, n, by rw [e.el]; exact l, fr f w, OwR.mono e.fz w fun u q => e.kp a u q l⟩
  | bor o =>
    obtain ⟨a, rfl, l, f, w⟩ := h
    exact ⟨a, rfl, by rw [e.el]; exact l, fr f w, OwR.mono e.fz w fun u q => e.kp a u q l⟩
  | box =>
    obtain ⟨h1, h2⟩ := h
    exact ⟨by rw [e.el]; exact h1, by rw [e.eb]; exact h2⟩
  | scr ns =>
    obtain ⟨a, rfl, h1⟩ := h
    exact ⟨a, rfl, sqL_mono e.fz h1⟩
theorem RStos.back {H0 : Hp} (k : ∀ a, H a = none → H0 a = none) : ∀ {vs : List V} {rs : List RV}, RStos X.K S H H' vs rs → RStos X.K S H0 H' vs rs
  | _, _, .nil => .nil
  | _, _, .cons h1 h2 h3 h4 => .cons (h1.back k) h2 h3 (RStos.back k h4)
theorem RStos.at_ : ∀ {vs : List V} {rs : List RV} {j : Nat} {r : RV}, RStos X.K S H H' vs rs → rs[j]? = some r → ∃ v, vs[j]? = some v ∧ RRes X.K S H H' v r
  | _, _, _, _, .nil, e => by simp at e
  | _, _, 0, _, .cons h1 _ _ _, e => by simp at e; subst e; exact ⟨_, rfl, h1⟩
  | _, _, j + 1, _, .cons _ _ _ h4, e => by
    obtain ⟨v, h5, h6⟩ := RStos.at_ (j := j) h4 (by simpa using e)
    exact ⟨v, by simpa using h5, h6⟩
theorem pdo_nil : PDS bk X W [] tNilD := PA.imp pa_nil fun _ _ _ q => by
  obtain ⟨S, env, Hz, Qd, Ex, ok, ab, ex, con, t⟩ := q
  exact con [] [] _ _ t (Ext.refl ok) .nil
theorem pdo_cons {e : Expr} {es : List Expr} {t : TD} {tr : TDA} (ha : PD bk X W e t) (hr : PDS bk X W es tr) (hs : starEach (e :: es) X.env = (false, eval e X.env) :: starEach es X.env) : PDS bk X W (e :: es) (tConsO t tr) := PA.imp (pa_cons ha hr hs) fun σ H Q q => by
  obtain ⟨S, env, Hz, Qd, Ex, ok, ab, ex, con, t⟩ := q
  refine ⟨S, env, Hz, _, Ex, ok, ab, ex, fun r v H1 S1 q1 e1 r1 => ?_, t⟩
  obtain ⟨hb, q2⟩ := RV.sto_ne q1
  refine ⟨S1, env, Hz, _, Ex, e1.ok, ab.ext e1, ex.ext ok e1, fun rs vs H2 S2 q3 e2 r2 => ?_, q2⟩
  refine con _ _ _ _ q3 (Ext.trans ok e1 e2) (.cons (r1.on e2) hb (fun o ho j o' hj hv => ?_) (r2.back fun a => e1.free ok))
  subst ho
  obtain ⟨a, rfl, _, _, _, w⟩ := r1
  obtain ⟨u, hu⟩ := OwR.there (K := X.K) (S := S1) (H := H1) w
  obtain ⟨v', h5, a', h6, n, _⟩ := r2.at_ hj
  rw [hv] at h5
  cases h5
  cases h6
  rw [n] at hu; cases hu
theorem RStos.slots2 {i j : Nat} {v w : V} {r r' : RV} (e : Ext bk S S' H H') (ok0 : ∀ a, H a = none → Hz a = none) (ab : Abs X.K S Hz H σ env) (h : RStos X.K S' H H' [v, w] [r, r']) : Abs X.K S' Hz H' ((σ.set i (some v)).set j (some w)) ((env.set i (some r)).set j (some r')) := by
  cases h with
  | cons h1 b1 n1 t =>
    cases t with
    | cons h2 b2 n2 t =>
      refine ((ab.ext e).set (h1.slot ok0 b1) fun o ho k o' _ => h1.apart ab o ho k o').set (h2.slot ok0 b2) fun o ho k o' hk hs hv => ?_
      by_cases z : i = k
      · subst z
        have l : i < env.length := by
          by_cases l : i < env.length
          · exact l
          · rw [List.getElem?_eq_none (by rw [List.length_set]; omega)] at hs; cases hs
        rw [List.getElem?_set_self l] at hs
        rw [List.getElem?_set_self (by rw [← ab.len]; exact l)] at hv
        cases hs
        cases hv
        subst ho
        exact n1 _ rfl 0 o rfl rfl
      · rw [List.getElem?_set_ne z] at hs hv
        exact h2.apart ab o ho k o' hs hv
/-- a, b = x, y -/
def tParD (i j : Nat) (t : TDA) : TSD := fun D env => t env (fun rs => match rs with | [r, r'] => D.nx ((env.set i (some r)).set j (some r')) | _ => False) (D.err env)
theorem sd_par {i j : Nat} {x y : Str} {a b : Expr} {ta : TDA} {px py pt : Pos} {kt k2 pt2} (hc : X.calm = true) (hN : X.N.Nodup) (hi : X.N[i]? = some x) (hj : X.N[j]? = some y) (hij : i ≠ j)
    (hx : X.env.scope.names.lookup x = some .local) (hy : X.env.scope.names.lookup y = some .local) (ha : PDS bk X W [a, b] ta)
    (hw : swappedStores [.Tuple [.Name x px, .Name y py] kt pt] (.Tuple [a, b] k2 pt2) X.env = pure (some [x, y]))
    (hs : swapsWithSole [.Tuple [.Name x px, .Name y py] kt pt] (.Tuple [a, b] k2 pt2) pos.line X.env = pure false) :
    PSD bk X W (.Assign [.Tuple [.Name x px, .Name y py] kt pt] (.Tuple [a, b] k2 pt2) pos) (tParD i j ta) := PS.imp (ps_par hc hN hi hj hij hx hy ha hw hs) fun D σ H q => by
  obtain ⟨S0, Hz, S, env, Dd, ok0, e0, ab, en, t⟩ := q
  refine ⟨S, env, Hz, _, _, e0.ok, ab, en.exOk ok0 e0 ab, fun rs vs H1 S1 q1 e1 r1 => ?_, t⟩
  split at q1
  · obtain ⟨v, w, rfl⟩ : ∃ v w, vs = [v, w] := by
      cases r1 with
      | cons _ _ _ t => cases t with
        | cons _ _ _ t => cases t; exact ⟨_, _, rfl⟩
    exact ⟨v, w, rfl, en.nx _ _ S1 _ (Ext.tr ok0 e0 e1) (r1.slots2 e1 (Ext.freeZ ok0 e0) ab) q1⟩
  · exact q1.elim
theorem RStos.slots3 {i j l : Nat} {v w u : V} {r r' r2 : RV} (hij : i ≠ j) (e : Ext bk S S' H H') (ok0 : ∀ a, H a = none → Hz a = none) (ab : Abs X.K S Hz H σ env) (h : RStos X.K S' H H' [v, w, u] [r, r', r2]) :
    Abs X.K S' Hz H' (((σ.set i (some v)).set j (some w)).set l (some u)) (((env.set i (some r)).set j (some r')).set l (some r2)) := by
  cases h with
  | cons h1 b1 n1 t =>
    have t0 := t
    cases t with
    | cons h2 b2 n2 t =>
      cases t with
      | cons h3 b3 n3 t =>
        have two : RStos X.K S' H H' [v, w] [r, r'] := .cons h1 b1 (fun o ho k o' hk hv => by
          cases k with
          | zero => exact n1 o ho 0 o' (by simpa using hk) (by simpa using hv)
          | succ k => simp at hk) (.cons h2 b2 (fun _ _ _ _ hk => by simp at hk) .nil)
        refine (two.slots2 e ok0 ab).set (h3.slot ok0 b3) fun o ho k o' hk hs hv => ?_
        subst ho
        by_cases z : j = k
        · subst z
          have l' : j < env.length := by
            by_cases l : j < env.length
            · exact l
            · rw [List.getElem?_eq_none (by rw [List.length_set, List.length_set]; omega)] at hs; cases hs
          rw [List.getElem?_set_self (by rw [List.length_set]; exact l')] at hs
          rw [List.getElem?_set_self (by rw [List.length_set, ← ab.len]; exact l')] at hv
          cases hs
          cases hv
          exact n2 _ rfl 0 o rfl rfl
        · rw [List.getElem?_set_ne z] at hs hv
          by_cases z : i = k
          · subst z
            have l' : i < env.length := by
              by_cases l : i < env.length
              · exact l
              · rw [List.getElem?_eq_none (by rw [List.length_set]; omega)] at hs; cases hs
            rw [List.getElem?_set_self l'] at hs
            rw [List.getElem?_set_self (by rw [← ab.len]; exact l')] at hv
            cases hs
            cases hv
            exact n1 _ rfl 1 o rfl rfl
          · rw [List.getElem?_set_ne z] at hs hv
            exact h3.apart ab o rfl k o' hs hv
def tPar3D (i j l : Nat) (t : TDA) : TSD := fun D env => t env (fun rs => match rs with | [r, r', r2] => D.nx (((env.set i (some r)).set j (some r')).set l (some r2)) | _ => False) (D.err env)
end
/-- target = a value: its parts -/
def tAsgD (t : TD) (g : TGD) : TSD := fun D env => t env (fun r => r.arg fun r' => match r' with | .d x => g x env D.nx | _ => False) (D.err env)
section
variable {bk : BoxKind} {X : Cx} {W : WX} {pos : Pos}
theorem sd_asg {tg e : Expr} {t : TD} {g : TGD} {sl : List Nat} (he : PD bk X W e t) (hg : PGD bk X sl tg g) (hs : swapsWithSole [tg] e pos.line X.env = pure false) (hw : swappedStores [tg] e X.env = pure none)
    (h1 : (assignEach [tg] X.env).map (·.2) = [assign tg X.env]) : PSD bk X W (.Assign [tg] e pos) (tAsgD t g) := PS.imp (ps_asg he hg hs hw h1) fun D σ H q => by
  obtain ⟨S0, Hz, S, env, Dd, ok0, e0, ab, en, t⟩ := q
  refine ⟨S, env, Hz, _, _, e0.ok, ab, en.exOk ok0 e0 ab, fun r v H1 S1 q1 e1 r1 => ?_, t⟩
  obtain ⟨S2, r', e2, ra, q2, _⟩ := r1.arg e0.ok e1 q1
  cases r' with
  | d x => exact ⟨S2, Hz, env, x, _, e2.ok, ab.ext e2, ra, fun σ' env' ab' _ _ q3 => en.nx _ _ S2 _ (Ext.tr ok0 e0 e2) ab' q3, q2⟩
  | own o => exact q2.elim
  | bor o => exact q2.elim
  | box => exact q2.elim
  | scr ns => exact q2.elim
end
end HA

namespace HA
open PySem PySem.Spec PyProof.Rows L2

/-! ### what every rule asks of the place -/
structure XB (X : Cx) (W : WX) (k : Nat) : Prop where
  calm : X.calm = true
  nd : X.N.Nodup
  room : Room k X.A
  gd : X.A.guards = some []
  sys : noSys X
  own : PassesOwn (model X.prog X.w) X.A X.env X.xe
  tk : Takes X W
theorem XB.u64 {X : Cx} {W : WX} {k : Nat} (x : XB X W k) : X.A.units + 64 < cLine := by have := x.room.un; omega
theorem XB.u65 {X : Cx} {W : WX} {k : Nat} (x : XB X W k) : X.A.units + 65 < cLine := by have := x.room.un; omega
theorem XB.blk {X : Cx} {W : WX} {k : Nat} (x : XB X W k) (s : Shared) (H : Hp) (sc : Scope) (ce : Env) (fp : List Addr) : XB (X.blk s H sc ce fp) WF k :=
  ⟨x.calm, x.nd, x.room, x.gd, x.sys, PassesOwn.never, takes0⟩
def sysIn (_ : PySem.W.Frag) : Prop := True
theorem noSys_of {X : Cx} (h : sysIn X.K) (k : X.K.In X.base) : noSys X := trivial
abbrev WOf (E : XK) : WX := fun cls d _ H => E cls d H
section
variable {P : Program} {w : World} {K : PySem.W.Frag} {mg : Str → Option Value} {base : Heap} {k n : Nat} {f : Addr} {fd : FuncData} {ps : List Str} {sp : SpD} {x : Str}
theorem XB.ofDef {N : List Str} {qual : Str} {sc : Scope} {f : Addr} {cd : Value} {A : Around} {outer : List Env} {s : Shared} {H : Hp} {E : XK} (nd : N.Nodup) (hr : Room k (A.deeper (envOfC qual sc s.heap.objs.size f cd))) (hg : A.guards = some []) (hs : sysIn K) (hk : K.In base) :
    XB (cxOf (L2.CX P w) P w K mg base N qual sc f cd A outer s H E) (WOf E) k := ⟨rfl, nd, hr, hg, noSys_of hs hk, passes_of rfl, takes_of rfl rfl rfl rfl⟩

/-! ### a def by its body over data -/
def fnEnds (Q : RV → Prop) (Ex : Err → Prop) : SE := ⟨fun _ => Q (.d .none), Q, fun _ => False, fun _ => False, fun e _ => Ex e⟩
def startD (m : Nat) (rs : List RV) : En := rs.map some ++ List.replicate (m - rs.length) none
theorem paired_at {α β : Type} {R : α → β → Prop} {xs : List α} {ys : List β} (h : Paired R xs ys) : ∀ {i : Nat} {y : β}, ys[i]? = some y → ∃ x, xs[i]? = some x ∧ R x y := by
  induction h with
  | nil => intro i y e; simp at e
  | cons r t ih =>
    intro i y e
    cases i with
    | zero => simp at e; subst e; exact ⟨_, rfl, r⟩
    | succ j => simp only [List.getElem?_cons_succ] at e ⊢; exact ih e
theorem RArg.slot {S : AS} {Hz H : Hp} {v : V} {r : RV} (h : RArg K S v r) : RSlot K S Hz H v r ∧ ∀ o, r ≠ .own o := by
  cases r with
  | d x => exact ⟨h, nofun⟩
  | own o => exact h.elim
  | bor o => exact h.elim
  | box => exact ⟨h, nofun⟩
  | scr ns => exact ⟨h, nofun⟩
theorem abs_start {S : AS} {H : Hp} {vs : List V} {rs : List RV} {N : List Str} (h : RArgs K S vs rs) : Abs K S H H (L2.start N vs) (startD N.length rs) := by
  have hl := Paired.len h
  unfold L2.start startD
  have at2 : ∀ (i : Nat) (r : RV), (rs.map some ++ List.replicate (N.length - rs.length) none)[i]? = some (some r) → rs[i]? = some r := fun i r e => by
    by_cases hi : i < rs.length
    · rw [List.getElem?_append_left (by rw [List.length_map]; exact hi), List.getElem?_map] at e
      cases q : rs[i]? with
      | none => rw [q] at e; cases e
      | some r' => rw [q] at e; cases e; rfl
    · rw [List.getElem?_append_right (by rw [List.length_map]; omega), List.getElem?_replicate] at e
      split at e <;> cases e
  refine ⟨by simp [hl], fun i r e => ?_, fun i j o o' v hij h1 h2 h3 => ?_⟩
  · obtain ⟨v, hv, hr⟩ := paired_at h (at2 i r e)
    refine ⟨v, ?_, (RArg.slot hr).1⟩
    have hi : i < vs.length := (List.getElem?_eq_some_iff.mp hv).1
    rw [List.getElem?_append_left (by rw [List.length_map]; exact hi), List.getElem?_map, hv]
    rfl
  · obtain ⟨v, hv, hr⟩ := paired_at h (at2 i _ h1)
    exact (show False from hr).elim
theorem FnG.data {bk : BoxKind} {qual : Str} {st : Stmt} {N : List Str} {D : TSD} (F : Fun K x qual st f fd) (S : FnScope N ps (defScope st)) (hn : n = ps.length)
    (hb : ∀ (cdv : Value) (A : Around) (outer : List Env) (s : Shared) (H : Hp) (E : XK), Room k (A.deeper (envOfC qual (defScope st) s.heap.objs.size f cdv)) → A.guards = some [] →
      PSsD bk (cxOf (L2.CX P w) P w K mg base N qual (defScope st) f cdv A outer s H E) (WOf E) (defBody st) D)
    (hd : ∀ rs Q Ex, rs.length = n → sp rs Q Ex → D (fnEnds Q Ex) (startD N.length rs)) : FnG P w K mg base (k + 1) f fd ps (liftSp bk K mg n sp) :=
  FnG.body F S (fun vs H Q E h => (liftSp.len h).trans hn) fun cdv A outer s H vs Q E hr hg hsp => by
    obtain ⟨S0, rs, Qd, Ex, ok, ra, hl, con, ex, q⟩ := hsp
    refine ⟨_, hb cdv A outer s H E hr hg, S0, H, S0, _, fnEnds Qd Ex, ok.box, Ext.refl ok, abs_start ra, ⟨?_, ?_, ?_, ?_, ?_⟩, hd rs Qd Ex hl q⟩
    · exact fun σ H' S' env e ab h => con _ .non _ S' h e .non
    · exact fun r v H' S' e rr h => con r v _ S' h e rr
    · exact fun _ _ _ _ _ _ h => h.elim
    · exact fun _ _ _ _ _ _ h => h.elim
    · exact fun e cls d σ H' S' env e2 ab rr h => ex e cls d _ S' h e2 rr
/-- a def that can be called by its name -/
structure FnAt (P : Program) (w : World) (K : PySem.W.Frag) (mg : Str → Option Value) (base : Heap) (bk : BoxKind) (k : Nat) (x : Str) (n : Nat) (ps : List Str) (s : SpD) : Prop where
  ex : ∃ f fd, FnG P w K mg base k f fd ps (liftSp bk K mg n s) ∧ mg x = some (.ref f) ∧ PySem.W.keepIn K (.ref f) = true ∧ Binds K fd ps []
structure FnKw (P : Program) (w : World) (K : PySem.W.Frag) (mg : Str → Option Value) (base : Heap) (bk : BoxKind) (k : Nat) (x : Str) (n : Nat) (ps ks : List Str) (g : {α : Type} → List α → List α) (s : SpD) : Prop where
  ex : ∃ f fd, FnG P w K mg base k f fd ps (liftSp bk K mg n s) ∧ mg x = some (.ref f) ∧ PySem.W.keepIn K (.ref f) = true ∧ KwB K fd ps ks g
theorem Fun.kwb {qual : Str} {st : Stmt} {ks : List Str} {g : {α : Type} → List α → List α} (F : Fun K x qual st f fd)
    (h : ∀ (kV doc pm : Value) (an : Option Addr) (cdv ct : Value) (ws : List Value), (g ws).length = ps.length → bindArgs (PySem.W.fnOf x qual (defArgs st) (defBody st) (defScope st) .none kV doc pm an cdv ct) ⟨[], ks.zip ws⟩ = pure (ps.zip (g ws)))
    (hr : ∀ {vs : List V} {ws : List Value}, Vals vs ws → Vals (g vs) (g ws)) : KwB K fd ps ks g := by
  obtain ⟨oc, od, kV, doc, pm, an, cdv, ct, osl, rfl, lk, hcd⟩ := F.ex
  exact ⟨fun s ws _ hl => .of_eq (h kV doc pm an cdv ct ws hl), hr⟩
end

/-! ### the rules in short -/
section
variable {bk : BoxKind} {X : Cx} {W : WX} {k : Nat} {pos p p2 : Pos} {e a b : Expr} {es : List Expr} {t ta tb : TD}
theorem qv (i : Nat) {x : Str} (hN : X.N[i]? = some x := by rfl) (hv : Vis X.env.scope x := by first | exact Or.inl rfl | exact Or.inr (Or.inl rfl) | exact Or.inr (Or.inr rfl)) (hd : (x == ("__debug__" : Str)) = false := by decide)
    (hcd : (x == ("__classdict__" : Str)) = false := by decide) : PD bk X W (.Name x pos) (tVarD i) := pd_var hN hv hd hcd
abbrev St1 (X : Cx) (e : Expr) (es : List Expr) : Prop := starEach (e :: es) X.env = (false, eval e X.env) :: starEach es X.env
theorem qa {tr : TDA} (ha : PD bk X W e t) (hr : PDA bk X W es tr) (hs : St1 X e es := by rfl) : PDA bk X W (e :: es) (tConsD t tr) := pda_cons ha hr hs
theorem qu {tr : TDU} (ha : PD bk X W e t) (hr : PDU bk X W es tr) (hs : St1 X e es := by rfl) : PDU bk X W (e :: es) (tConsU t tr) := pdu_cons ha hr hs
theorem qo {tr : TDA} (ha : PD bk X W e t) (hr : PDS bk X W es tr) (hs : St1 X e es := by rfl) : PDS bk X W (e :: es) (tConsO t tr) := pdo_cons ha hr hs
theorem qw {fz : Bool} {tr : TDU} (ha : PD bk X W e t) (hr : PDV bk X W fz es tr) (hs : St1 X e es := by rfl) : PDV bk X W fz (e :: es) (tConsS fz t tr) := pdv_cons ha hr hs
theorem qcmp {op : CmpOp} {g : GD} (ho : OpD bk X (compareOp op) g) (ha : PD bk X W a ta) (hb : PD bk X W b tb) (hm : behindInMarks op b = false := by first | exact nomark _ | with_unfolding_all rfl) : PD bk X W (.Compare a [op] [b] pos) (tBinD g ta tb) := pd_cmp ho ha hb hm
theorem qtcmp {op : CmpOp} {g : GD} (ho : OpD bk X (compareOp op) g) (ha : PD bk X W a ta) (hb : PD bk X W b tb) (hm : behindInMarks op b = false := by first | exact nomark _ | with_unfolding_all rfl) : PDT bk X W (.Compare a [op] [b] pos) (tTst (tBinD g ta tb)) := pdt_cmp ho ha hb hm
theorem qtv (h : PD bk X W a ta) (he : ∀ whole, isTrue a X.env whole = (do let v ← whole; standAt a.pos; holding [v] (truthy v)) := by intro _; rfl) : PDT bk X W a (tTst ta) := pdt_val h he
/-- a builtin of one argument -/
theorem q_len (hm : X.mg "len" = none) (h : PD bk X W e t) (hg : Gl X "len" := by rfl) (he : St1 X e [] := by rfl) : PD bk X W (.Call (.Name "len" p) [e] [] pos) (tCallB gLen (tConsU t tNilU)) :=
  pd_callB cd_len hg hm PySem.boot_len (pdu_cons h pdu_nil he) (by decide) (by decide) he rfl
theorem q_int (hm : X.mg "int" = none) (h : PD bk X W e t) (hg : Gl X "int" := by rfl) (he : St1 X e [] := by rfl) : PD bk X W (.Call (.Name "int" p) [e] [] pos) (tCallB gInt (tConsU t tNilU)) :=
  pd_callTy cd_int hg hm (by decide +kernel) (pdu_cons h pdu_nil he) (by decide) (by decide) he rfl
theorem q_abs (hm : X.mg "abs" = none) (h : PD bk X W e t) (hg : Gl X "abs" := by rfl) (he : St1 X e [] := by rfl) : PD bk X W (.Call (.Name "abs" p) [e] [] pos) (tCallB gAbs (tConsU t tNilU)) :=
  pd_callB cd_abs hg hm (by decide +kernel) (pdu_cons h pdu_nil he) (by decide) (by decide) he rfl
theorem q_repr (xb : XB X W k) (hm : X.mg "repr" = none) (h : PD bk X W e t) (hg : Gl X "repr" := by rfl) (he : St1 X e [] := by rfl) : PD bk X W (.Call (.Name "repr" p) [e] [] pos) (tCallB gRepr (tConsU t tNilU)) :=
  pd_callB (cd_repr xb.sys ⟨k, xb.room⟩ xb.gd) hg hm (by decide +kernel) (pdu_cons h pdu_nil he) (by decide) (by decide) he rfl
theorem q_list (hm : X.mg "list" = none) (h : PD bk X W e t) (hg : Gl X "list" := by rfl) (he : St1 X e [] := by rfl) : PD bk X W (.Call (.Name "list" p) [e] [] pos) (tCallB gList (tConsU t tNilU)) :=
  pd_callTy cd_list hg hm (by decide +kernel) (pdu_cons h pdu_nil he) (by decide) (by decide) he rfl
theorem q_tuple (hm : X.mg "tuple" = none) (h : PD bk X W e t) (hg : Gl X "tuple" := by rfl) (he : St1 X e [] := by rfl) : PD bk X W (.Call (.Name "tuple" p) [e] [] pos) (tCallB gTuple (tConsU t tNilU)) :=
  pd_callTy cd_tuple hg hm (by decide +kernel) (pdu_cons h pdu_nil he) (by decide) (by decide) he rfl
theorem q_gcd {tu : TD} (hm : X.mg "gcd" = some (.builtin "math.gcd")) (h : PD bk X W a ta) (h2 : PD bk X W b tb) (hg : Gl X "gcd" := by rfl) (he : St1 X a [b] := by rfl) (he2 : St1 X b [] := by rfl) (hpl : (backTo pos (starEach [b] X.env)).any (·.1) = false := by rfl) :
    PD bk X W (.Call (.Name "gcd" p) [a, b] [] pos) (tCallB gGcd (tConsU ta (tConsU tb tNilU))) :=
  pd_callImp cd_gcd hg hm (pdu_cons h (pdu_cons h2 pdu_nil he2) he) (by decide) he hpl
theorem q_isa (T : Ty) {y : Str} (hm : X.mg "isinstance" = none) (hm2 : X.mg y = none) (h : PD bk X W e t) (hy : y = Str.ofString T.nm := by rfl) (hg : Gl X "isinstance" := by rfl) (hg2 : Gl X y := by rfl) (he : St1 X e [.Name y p2] := by rfl) :
    PD bk X W (.Call (.Name "isinstance" p) [e, .Name y p2] [] pos) (tIsa T t) := pd_isa T rfl hy hg hm hg2 hm2 h he
theorem q_fn {j n : Nat} {x : Str} {ps : List Str} {s : SpD} {tr : TDA} (xb : XB X W k) (F : FnAt X.prog X.w X.K X.mg X.base bk j x n ps s) (ha : PDA bk X W (e :: es) tr) (hj : j ≤ k := by decide) (hg : Gl X x := by rfl) (hdb : (x == ("__debug__" : Str)) = false := by decide)
    (he : St1 X e es := by rfl) (hpl : (backTo pos (starEach es X.env)).any (·.1) = false := by rfl) : PD bk X W (.Call (.Name x p) (e :: es) [] pos) (tFn n s tr) := by
  obtain ⟨f, fd, F, hm, hk, hb⟩ := F.ex
  exact pd_fn xb.tk (F.mono hj) xb.room xb.gd hg hm hk hb ha hdb he hpl
theorem q_fn0 {j n : Nat} {x : Str} {ps : List Str} {s : SpD} (xb : XB X W k) (F : FnAt X.prog X.w X.K X.mg X.base bk j x n ps s) (hj : j ≤ k := by decide) (hg : Gl X x := by rfl) (hdb : (x == ("__debug__" : Str)) = false := by decide) : PD bk X W (.Call (.Name x p) [] [] pos) (tFn n s tNilD) := by
  obtain ⟨f, fd, F, hm, hk, hb⟩ := F.ex
  exact pd_fn0 xb.tk (F.mono hj) xb.room xb.gd hg hm hk hb hdb
theorem q_fnK {j n : Nat} {x : Str} {ps ks : List Str} {g : {α : Type} → List α → List α} {s : SpD} {tr : TDA} {kws : List Keyword} (xb : XB X W k) (F : FnKw X.prog X.w X.K X.mg X.base bk j x n ps ks g s) (ha : PDK bk X W kws tr) (hg2 : ∀ {α β : Type} (R : α → β → Prop) (xs : List α) (ys : List β), Paired R xs ys → Paired R (g xs) (g ys))
    (hj : j ≤ k := by decide) (hg : Gl X x := by rfl) (hdb : (x == ("__debug__" : Str)) = false := by decide) (hall : (backToKw pos (keywordEach kws X.env)).all (·.1.isSome) = true := by rfl) (hks : (backToKw pos (keywordEach kws X.env)).filterMap (·.1) = ks := by rfl)
    (hpl : ((backTo pos (starEach [] X.env)).any (·.1) || (backToKw pos (keywordEach kws X.env)).any (·.1.isNone)) = false := by rfl) : PD bk X W (.Call (.Name x p) [] kws pos) (tFnK n g s tr) := by
  obtain ⟨f, fd, F, hm, hk, hb⟩ := F.ex
  exact pd_fnK hg2 xb.tk (F.mono hj) xb.room xb.gd hg hm hk hb ha hall hks hdb hpl

/-! statements -/
theorem q_set (i : Nat) {x : Str} (xb : XB X W k) (he : PD bk X W e t) (hi : X.N[i]? = some x := by rfl) (hx : Loc X.env.scope x := by first | exact Or.inl rfl | exact Or.inr rfl) (hf : X.fn x = true ∨ X.env.scope.names.lookup x = some .local := by first | exact .inl rfl | exact .inr rfl)
    (hs : swapsWith e (some (.Name x p)) pos.line X.env = pure false := by rfl) : PSD bk X W (.Assign [.Name x p] e pos) (tSetD i t) := sd_set xb.nd hi hx hf he hs
theorem q_retv (i : Nat) {x : Str} (hN : X.N[i]? = some x := by rfl) (hv : Vis X.env.scope x := by first | exact Or.inl rfl | exact Or.inr (Or.inl rfl) | exact Or.inr (Or.inr rfl)) (hd : (x == ("__debug__" : Str)) = false := by decide)
    (hcd : (x == ("__classdict__" : Str)) = false := by decide) : PSD bk X W (.Return (some (.Name x p)) pos) (tRetV i) := sd_retv hN hv hd hcd
theorem q_drop (he : PD bk X W e t) (hs : swapsWith e none pos.line X.env = pure false := by rfl) : PSD bk X W (.Expr e pos) (tDropD t) := sd_drop he hs
theorem q_append (i : Nat) {x : Str} {p3 : Pos} (he : PD bk X W e t) (hN : X.N[i]? = some x := by rfl) (hv : Vis X.env.scope x := by first | exact Or.inl rfl | exact Or.inr (Or.inl rfl) | exact Or.inr (Or.inr rfl)) (hd : (x == ("__debug__" : Str)) = false := by decide)
    (hcd : (x == ("__classdict__" : Str)) = false := by decide) (hbase : attributeBase (.Name x p) "append" X.env (eval (.Name x p) X.env) = eval (.Name x p) X.env := by rfl)
    (hfew : ((backTo p3 (starEach [e] X.env)).all (fun x => !x.1) && (backToKw p3 (keywordEach [] X.env)).all (fun x => x.1.isSome) && decide ([e].length + ([] : List Keyword).length + (if ([] : List Keyword).isEmpty then 0 else 1) < 30)) = true := by rfl)
    (hline : (p2.endLine == p3.line) = true := by rfl) (hst : St1 X e [] := by rfl) : PSD bk X W (.Expr (.Call (.Attribute (.Name x p) "append" p2) [e] [] p3) pos) (tAppD i t) :=
  sd_append (pe_var hN hv hd hcd) hbase he hfew hline hst
theorem q_extend (i : Nat) {x : Str} {p3 : Pos} (he : PD bk X W e t) (hN : X.N[i]? = some x := by rfl) (hv : Vis X.env.scope x := by first | exact Or.inl rfl | exact Or.inr (Or.inl rfl) | exact Or.inr (Or.inr rfl)) (hd : (x == ("__debug__" : Str)) = false := by decide)
    (hcd : (x == ("__classdict__" : Str)) = false := by decide) (hbase : attributeBase (.Name x p) "extend" X.env (eval (.Name x p) X.env) = eval (.Name x p) X.env := by rfl)
    (hfew : ((backTo p3 (starEach [e] X.env)).all (fun x => !x.1) && (backToKw p3 (keywordEach [] X.env)).all (fun x => x.1.isSome) && decide ([e].length + ([] : List Keyword).length + (if ([] : List Keyword).isEmpty then 0 else 1) < 30)) = true := by rfl)
    (hline : (p2.endLine == p3.line) = true := by rfl) (hst : St1 X e [] := by rfl) : PSD bk X W (.Expr (.Call (.Attribute (.Name x p) "extend" p2) [e] [] p3) pos) (tExtD i t) :=
  sd_extend (pe_var hN hv hd hcd) hbase he hfew hline hst
/-! targets, loops -/
theorem qgn {sl : List Nat} (i : Nat) {x : Str} (xb : XB X W k) (hi : X.N[i]? = some x := by rfl) (hx : Loc X.env.scope x := by first | exact Or.inl rfl | exact Or.inr rfl) (hf : X.fn x = true ∨ X.env.scope.names.lookup x = some .local := by first | exact .inl rfl | exact .inr rfl) (hm : i ∈ sl := by decide) :
    PGD bk X sl (.Name x pos) (gNmD i) := pgd_name xb.nd hi hx hf hm
theorem qgc {sl : List Nat} {t : TGD} {u : TGDs} (h1 : PGD bk X sl e t) (h2 : PGDs bk X sl es u) (hs : (assignEach (e :: es) X.env).map (·.2) = assign e X.env :: (assignEach es X.env).map (·.2) := by rfl) : PGDs bk X sl (e :: es) (gConsD t u) := pgds_cons h1 h2 hs
theorem qgt {sl : List Nat} {n k2 : Nat} {t : TGDs} (xb : XB X W k) (h : PGDs bk X sl es t) (hn : (assignEach es X.env).length = n := by rfl) (hst : (assignEach es X.env).findIdx? (·.1) = none := by rfl) : PGD bk X sl (.Tuple es k2 pos) (gTupD n t) := pgd_tup xb.calm h hn hst
theorem q_for {tg iter : Expr} {body : List Stmt} {ti : TDI} {g : TGD} {ts : TSD} (sl : List Nat) (xb : XB X W k) (hi : PID bk X W true tg iter ti) (hg : PGD bk X sl tg g) (hb : PSsD bk X W body ts)
    (hs : ∀ x, foldedSetIterable iter X.env x = pure x := by intro _; rfl) : PSD bk X W (.For tg iter body [] pos) (tForD ti g ts) := sd_for xb.own xb.calm hi hg hb hs
theorem q_while {c : Expr} {body : List Stmt} {tc : TD} {ts : TSD} (xb : XB X W k) (hc : PDT bk X W c (tTst tc)) (hb : PSsD bk X W body ts) : PSD bk X W (.While c body [] pos) (tWhileD tc ts) := sd_while xb.own hc hb
theorem q_rng1 {tg : Expr} {fz : Bool} {tr : TDU} (hm : X.mg "range" = none) (ha : PDU bk X W [a] tr) (hg : Gl X "range" := by rfl) (hs : starEach [a] X.env = [(false, eval a X.env)] := by rfl) : PID bk X W fz tg (.Call (.Name "range" p) [a] [] pos) (tRng1 tr) := pid_rng1 hg hm ha hs
theorem q_rng2 {tg : Expr} {fz : Bool} {tr : TDU} (hm : X.mg "range" = none) (ha : PDU bk X W [a, b] tr) (hg : Gl X "range" := by rfl) (hs : starEach [a, b] X.env = [(false, eval a X.env), (false, eval b X.env)] := by rfl) (hs2 : starEach [b] X.env = [(false, eval b X.env)] := by rfl) :
    PID bk X W fz tg (.Call (.Name "range" p) [a, b] [] pos) (tRng2 tr) := pid_rng2 hg hm ha hs hs2
theorem q_rng3 {c : Expr} {tg : Expr} {fz : Bool} {tr : TDU} (hm : X.mg "range" = none) (ha : PDU bk X W [a, b, c] tr) (hg : Gl X "range" := by rfl) (hs : starEach [a, b, c] X.env = (false, eval a X.env) :: starEach [b, c] X.env := by rfl) (hpl : (backTo pos (starEach [b, c] X.env)).any (·.1) = false := by rfl) :
    PID bk X W fz tg (.Call (.Name "range" p) [a, b, c] [] pos) (tRng3 tr) := pid_rng3 hg hm ha hs hpl
section
variable {elt tg iter : Expr} {ifs : List Expr} {scope : Scope} {ti : TDI} {g : TGD} {tt : TDT} {te : TD}
abbrev XBlk (X : Cx) (s : Shared) (H : Hp) (scope : Scope) (C : Addr) (cl : List (Str × Addr)) (fp : List Addr) : Cx := X.blk s H scope (compEnvC scope cl C X.env) fp
theorem q_lc (own : List (Str × Nat)) (xb : XB X W k) (hi : PID bk X W false tg iter ti)
    (h : ∀ (s : Shared) (H : Hp) (C : Addr) (cl : List (Str × Addr)) (fp : List Addr), XB (XBlk X s H scope C cl fp) WF k → PGD bk (XBlk X s H scope C cl fp) (own.map (·.2)) tg g ∧ PTsD bk (XBlk X s H scope C cl fp) WF ifs tt ∧ PD bk (XBlk X s H scope C cl fp) WF elt te)
    (ok : blkC X.N X.env.scope scope own = true := by first | rfl | with_unfolding_all rfl) (hs : ∀ x, foldedSetIterable iter X.env x = pure x := by intro _; rfl) :
    PD bk X W (.ListComp elt [⟨tg, iter, ifs, 0⟩] scope pos) (tLcD ti g tt te (own.map (·.2))) :=
  pd_lc xb.calm xb.nd hi (blkOk_by ok) (fun s H C cl fp => (h s H C cl fp (xb.blk ..)).1) (fun s H C cl fp => (h s H C cl fp (xb.blk ..)).2.1) (fun s H C cl fp => (h s H C cl fp (xb.blk ..)).2.2) hs
theorem q_setLc (i : Nat) {y : Str} {py spos : Pos} (own : List (Str × Nat)) (xb : XB X W k) (hi : PID bk X W false tg iter ti)
    (h : ∀ (s : Shared) (H : Hp) (C : Addr) (cl : List (Str × Addr)) (fp : List Addr), XB (XBlk X s H scope C cl fp) WF k → PGD bk (XBlk X s H scope C cl fp) (own.map (·.2)) tg g ∧ PTsD bk (XBlk X s H scope C cl fp) WF ifs tt ∧ PD bk (XBlk X s H scope C cl fp) WF elt te)
    (hy : X.N[i]? = some y := by rfl) (hyl : X.env.scope.names.lookup y = some .local := by rfl) (hsw : swapsWith (.ListComp elt [⟨tg, iter, ifs, 0⟩] scope pos) (some (.Name y py)) spos.line X.env = pure true := by rfl)
    (ok : blkC X.N X.env.scope scope own = true := by first | rfl | with_unfolding_all rfl) (hs : ∀ x, foldedSetIterable iter X.env x = pure x := by intro _; rfl) :
    PSD bk X W (.Assign [.Name y py] (.ListComp elt [⟨tg, iter, ifs, 0⟩] scope pos) spos) (tSetD i (tLcD ti g tt te (own.map (·.2)))) :=
  sd_setLc xb.calm xb.nd hy hyl hsw hi (blkOk_by ok) (fun s H C cl fp => (h s H C cl fp (xb.blk ..)).1) (fun s H C cl fp => (h s H C cl fp (xb.blk ..)).2.1) (fun s H C cl fp => (h s H C cl fp (xb.blk ..)).2.2) hs
end
theorem q_par (i j : Nat) {x y : Str} {ta : TDA} {px py pt : Pos} {kt k2 : Nat} {pt2 : Pos} (xb : XB X W k) (ha : PDS bk X W [a, b] ta) (hi : X.N[i]? = some x := by rfl) (hj : X.N[j]? = some y := by rfl) (hij : i ≠ j := by decide)
    (hx : X.env.scope.names.lookup x = some .local := by rfl) (hy : X.env.scope.names.lookup y = some .local := by rfl)
    (hw : swappedStores [.Tuple [.Name x px, .Name y py] kt pt] (.Tuple [a, b] k2 pt2) X.env = pure (some [x, y]) := by rfl)
    (hs : swapsWithSole [.Tuple [.Name x px, .Name y py] kt pt] (.Tuple [a, b] k2 pt2) pos.line X.env = pure false := by rfl) :
    PSD bk X W (.Assign [.Tuple [.Name x px, .Name y py] kt pt] (.Tuple [a, b] k2 pt2) pos) (tParD i j ta) := sd_par xb.calm xb.nd hi hj hij hx hy ha hw hs
theorem q_asg {tg : Expr} {g : TGD} (sl : List Nat) (he : PD bk X W e t) (hg : PGD bk X sl tg g) (hs : swapsWithSole [tg] e pos.line X.env = pure false := by rfl) (hw : swappedStores [tg] e X.env = pure none := by rfl)
    (h1 : (assignEach [tg] X.env).map (·.2) = [assign tg X.env] := by rfl) : PSD bk X W (.Assign [tg] e pos) (tAsgD t g) := sd_asg he hg hs hw h1
end
end HA

namespace HA
open PySem PySem.Spec PyProof.Rows L2

/-! ### x[::-1] -/
section
variable {prog : Program} {w : World} {A : Around} {E : Value → Shared → Prop} {s : Shared}
theorem adjust_back (n : Nat) : Builtin.Slice.sliceAdjust none none (-1) (n : Int) = ((n : Int) - 1, -1) := by
  have h1 : ((-1 : Int) < 0) := by omega
  unfold Builtin.Slice.sliceAdjust
  simp only [h1, if_true]
theorem places_back (n : Nat) : Builtin.Slice.slicePlaces ((n : Int) - 1) (-1) (-1) = n := by
  unfold Builtin.Slice.slicePlaces
  have h1 : ¬ ((-1 : Int) > 0) := by omega
  have h2 : (- -1 : Int) = 1 := by omega
  simp only [h1, if_false, h2, Int.ediv_one]
  split <;> omega
theorem applied_back {sl : Addr} {vs : Value} {n : Nat} {Q : Int × Int × Nat → Shared → Prop} (hs : s.heap.IsSliceOf sl .none .none vs) (ps : IsPart vs (some (-1)))
    (h : Q ((n : Int) - 1, -1, n) s) : wpAny (model prog w) A (Builtin.Slice.sliceApplied (.ref sl) (pure (n : Int))) Q E s := by
  obtain ⟨os, hos, hcs, hds⟩ := id hs
  unfold Builtin.Slice.sliceApplied Builtin.Slice.sliceFields
  refine wpAny_bind (wpAny_bind (wpAny_field hos hds (x := .none) rfl (wpAny_bind (wpAny_field hos hds (x := .none) rfl (wpAny_bind (wpAny_field hos hds (x := vs) rfl (wpAny_pure ?_)))))))
  refine wpAny_bind (HT.slicePart_ ps ?_)
  show wpAny _ _ (if ((-1 : Int) == 0) = true then _ else _) _ _ s
  rw [if_neg (by decide)]
  refine wpAny_bind (slicePart_none (wpAny_bind (slicePart_none (wpAny_bind (wpAny_pure ?_)))))
  show wpAny _ _ (match Builtin.Slice.sliceAdjust none none (-1) (n : Int) with | (lo, hi) => pure (lo, (-1 : Int), Builtin.Slice.slicePlaces lo hi (-1))) _ _ s
  rw [adjust_back n]
  show wpAny _ _ (pure ((n : Int) - 1, (-1 : Int), Builtin.Slice.slicePlaces ((n : Int) - 1) (-1) (-1))) _ _ s
  rw [places_back]
  exact wpAny_pure h
theorem pick_back (xs : Array Value) : ((List.range xs.size).filterMap fun (m : Nat) => xs[(((xs.size : Int) - 1) + (m : Int) * (-1)).toNat]?).toArray = xs.toList.reverse.toArray := by
  have e1 : (List.range xs.size).filterMap (fun (m : Nat) => xs[(((xs.size : Int) - 1) + (m : Int) * (-1)).toNat]?) = ((List.range xs.size).map fun k => xs.size - 1 - k).filterMap (xs[·]?) := by
    rw [List.filterMap_map]
    have hc : ∀ l : List Nat, (∀ m ∈ l, m < xs.size) → l.filterMap (fun (m : Nat) => xs[(((xs.size : Int) - 1) + (m : Int) * (-1)).toNat]?) = l.filterMap ((xs[·]?) ∘ fun k => xs.size - 1 - k) := fun l => by
      induction l with
      | nil => intro _; rfl
      | cons m r ih =>
        intro h
        have hm := h m List.mem_cons_self
        have e : (((xs.size : Int) - 1) + (m : Int) * (-1)).toNat = xs.size - 1 - m := by omega
        rw [List.filterMap_cons, List.filterMap_cons, ih fun q hq => h q (List.mem_cons_of_mem _ hq)]
        have e2 : ((fun x => xs[x]?) ∘ fun k => xs.size - 1 - k) m = xs[xs.size - 1 - m]? := rfl
        rw [e2, e]
    exact hc _ fun m hm => List.mem_range.mp hm
  rw [e1, PySem.W.krv_range, List.filterMap_reverse, PySem.W.krv_all]
theorem getItem_back {t sl : Addr} {items : Array Value} {vs : Value} {Q : Value → Shared → Prop} (ht : IsTup s.heap t items) (hs : s.heap.IsSliceOf sl .none .none vs) (ps : IsPart vs (some (-1)))
    (h : Q (.ref s.heap.objs.size) { s with heap := s.heap.push { cls := .type "tuple", data := .seq items.toList.reverse.toArray } })
    (hsz : items.size ≤ sizeLine) : wpAny (model prog w) A (getItem (.ref t) (.ref sl)) Q E s := by
  have hfit : sizeOk (.seq items.toList.reverse.toArray) := by
    show items.toList.reverse.toArray.size ≤ sizeLine
    rw [List.size_toArray, List.length_reverse, Array.length_toList]
    exact hsz
  obtain ⟨os, hos, hcs, hds⟩ := id hs
  have hTs : s.TypeIs (.ref sl) "slice" := ⟨os, hos, hcs⟩
  unfold getItem
  try with_reducible refine wpAny_holding ?_
  first | refine wpAny_bind (wpAny_pure ?_) | skip
  refine wpAny_bind (wpAny_sequenceKey ht.typeIs (by decide) ?_)
  refine wpAny_bind (wpAny_callSpecial?_slot (name := Str.ofString "__getitem__") ht.typeIs PyProof.Rows.slot_tuple_getitem (wpAny_call_entry PyProof.Rows.slot_tuple_getitem ht.typeIs PyProof.Rows.entry_tuple_getitem ?_ (PyProof.Rows.args_tuple_getitem _ _)))
  show wpAny _ _ (Builtin.Tuple.tupleItemsOf (.ref t) >>= _) _ _ s
  refine wpAny_bind (PyProof.Rows.tupleItemsOf_ ht ?_)
  refine wpAny_bind (wpAny_typeOf hTs ?_)
  rw [if_pos (by decide)]
  refine wpAny_bind (applied_back hs ps ?_)
  have hno : ¬ ((((items.size : Int) - 1) == 0 && (-1 : Int) == 1 && items.size == items.size) = true) := by
    intro q
    rw [Bool.and_eq_true, Bool.and_eq_true] at q
    exact absurd q.1.2 (by decide)
  show wpAny _ _ (if (((items.size : Int) - 1) == 0 && (-1 : Int) == 1 && items.size == items.size) = true then _ else _) _ _ s
  rw [if_neg hno, pick_back]
  first
    | exact wpAny_bind (m := Builtin.Tuple.tupleExact _) (wpAny_newObj_type (wpAny_pure ⟨_, rfl, wpAny_pure h⟩) hfit)
    | exact wpAny_bind (m := Builtin.Tuple.tupleExact _) (wpAny_newObj_type (wpAny_bind (wpAny_pure (wpAny_pure ⟨_, rfl, wpAny_pure h⟩))) hfit)
    | exact wpAny_bind (wpAny_bind (m := Builtin.Tuple.tupleExact _) (wpAny_newObj_type (wpAny_pure (wpAny_pure ⟨_, rfl, wpAny_pure h⟩)) hfit))
    | exact wpAny_bind (wpAny_bind (m := Builtin.Tuple.tupleExact _) (wpAny_newObj_type (wpAny_pure ⟨_, rfl, wpAny_pure h⟩) hfit))
end
section
variable {X : Cx}
theorem pe_revQ {e : Expr} {te : TE} {k : Nat} {p1 p2 p3 pos : Pos} (he : PE X e te) : PE X (.Subscript e (.Slice none none (some (.UnaryOp .USub (.Constant (.int 1) k p1) p2)) p3) pos)
    (fun σ H Q => te σ H fun x H1 => ∃ a xs, x = .ref a ∧ ((SqL X.K H1 a xs ∧ ∀ p, H1 p = none → Q (.ref p) (upd H1 p (.lst xs.reverse))) ∨ (SqT X.K H1 a xs ∧ ∀ p, H1 p = none → Q (.ref p) (upd H1 p (.tup xs.reverse))))) := by
  refine ⟨fun pins s σ H Q I h => ?_⟩
  refine Subscript_ (thn (he.run pins s σ H _ I h) fun v s1 ⟨x, H1, I1, r1, q1⟩ => ?_)
  obtain ⟨a, xs, ex, q⟩ := q1
  subst ex
  cases r1
  have hst : PO X (some (.UnaryOp .USub (.Constant (.int 1) k p1) p2)) (tPart (tUn (rU fun i => .int (-i)) (tC (.int 1)))) := po_some (pe_un un_neg pe_int)
  refine wpAny_Slice (thn (po_none.run pins s1 σ H1 (fun o H2 => o = none ∧ H2 = H1) I1 ⟨rfl, rfl⟩) fun vl s2 ⟨l, H2, I2, pl, el, e2⟩ => ?_)
  subst el e2
  refine thn (po_none.run pins s2 σ H2 (fun o H3 => o = none ∧ H3 = H2) I2 ⟨rfl, rfl⟩) fun vu s3 ⟨u, H3, I3, pu, eu, e3⟩ => ?_
  subst eu e3
  refine thn (hst.run pins s3 σ H3 (fun o H4 => o = some (-1) ∧ H4 = H3) I3 ⟨1, rfl, -1, rfl, rfl, rfl⟩) fun vs s4 ⟨o, H4, I4, ps, eo, e4⟩ => ?_
  subst eo e4
  have I5 : Inv X pins σ H4 { s4 with heap := s4.heap.push { cls := .type "slice", data := .fields #[vl, vu, vs] } } := I4.kept (t' := s4.toks) fun b ob q => Heap.get?_push_of_some _ q
  show wpAny (model X.prog X.w) X.A (subscriptTail e (.Slice none none (some (.UnaryOp .USub (.Constant (.int 1) k p1) p2)) p3) (.ref a) (.ref s4.heap.objs.size)) (EP X pins σ Q) X.xe { s4 with heap := s4.heap.push { cls := .type "slice", data := .fields #[vl, vu, vs] } }
  rcases q with ⟨hx, q⟩ | ⟨hx, q⟩
  · obtain ⟨its, r, ht, hz⟩ := I5.list hx
    have hlen := r.length
    refine tail_any (ops := [.ref a, .ref s4.heap.objs.size]) ht.isList.typeIs (PySem.slot_list_getitem.lookup) ?_ (by with_unfolding_all rfl)
    refine wpAny_getItem_list_slice ht.isList (Heap.IsSliceOf.new _ vl vu vs) pl pu ps (by decide) ?_ (by rw [List.size_toArray]; omega)
    rw [PySem.W.krv_pick]
    refine ⟨.ref _, _, I5.laid (t' := s4.toks) (o := .lst xs.reverse) (fun b ob q => Heap.get?_push_of_some _ q) (Nat.le_refl _) ?_, rfl, q _ (I5.hok.fresh (Nat.le_refl _))⟩
    exact ⟨by rw [List.length_reverse]; exact hz, _, 0, r.reverse, Heap.get?_push_size _ rfl⟩
  · cases pl
    cases pu
    obtain ⟨its, r, ht, hz⟩ := I5.tuple hx
    have hlen := r.length
    refine tail_any (ops := [.ref a, .ref s4.heap.objs.size]) ht.typeIs (PyProof.Rows.slot_tuple_getitem.lookup) ?_ (by with_unfolding_all rfl)
    refine getItem_back ht (Heap.IsSliceOf.new _ .none .none vs) ps ?_ (by rw [List.size_toArray]; omega)
    refine ⟨.ref _, _, I5.laid (t' := s4.toks) (o := .tup xs.reverse) (fun b ob q => Heap.get?_push_of_some _ q) (Nat.le_refl _) ?_, rfl, q _ (I5.hok.fresh (Nat.le_refl _))⟩
    exact ⟨by rw [List.length_reverse]; exact hz, _, r.reverse, IsTup.new _ _⟩
end
def gRevS : PyData → (RV → Prop) → Prop
  | .list xs, Q => Q (.own (.lst xs.reverse))
  | .tuple xs, Q => Q (.d (.tuple xs.reverse))
  | _, _ => False
section
variable {bk : BoxKind} {X : Cx} {W : WX} {k : Nat} {pos : Pos}
theorem q_revS {e : Expr} {t : TD} {k : Nat} {p1 p2 p3 : Pos} (he : PD bk X W e t) : PD bk X W (.Subscript e (.Slice none none (some (.UnaryOp .USub (.Constant (.int 1) k p1) p2)) p3) pos) (tUnD gRevS t) := PE.imp (pe_revQ he) fun σ H Q q => by
  obtain ⟨S, env, Hz, Qd, Ex, ok, ab, ex, con, t⟩ := q
  refine ⟨S, env, Hz, _, Ex, ok, ab, ex, fun r v H1 S1 q1 e1 r1 => ?_, t⟩
  obtain ⟨x, rx, q2⟩ := r1.rq q1
  have con1 := con.ext ok e1
  cases x with
  | list xs =>
    obtain ⟨a, ws, rfl, ha, ra⟩ := rx.list e1.ok
    exact ⟨a, ws, rfl, .inl ⟨ha, fun p hp => con1.lst e1.ok q2 ra.reverse p hp⟩⟩
  | tuple xs =>
    obtain ⟨a, ws, rfl, ha, ra⟩ := rx.tuple
    exact ⟨a, ws, rfl, .inr ⟨sqT_mono e1.ok.sub ha, fun p hp => con1.tup e1.ok q2 ra.reverse p hp⟩⟩
  | _ => exact q2.elim

/-! ### three names -/
theorem q_par3 (i j l : Nat) {x y z : Str} {a b c : Expr} {ta : TDA} {px py pz pt : Pos} {kt k2 : Nat} {pt2 : Pos} (xb : XB X W k) (ha : PDS bk X W [a, b, c] ta) (hi : X.N[i]? = some x := by rfl) (hj : X.N[j]? = some y := by rfl) (hl : X.N[l]? = some z := by rfl)
    (hij : i ≠ j := by decide) (hil : i ≠ l := by decide) (hjl : j ≠ l := by decide) (hx : X.env.scope.names.lookup x = some .local := by rfl) (hy : X.env.scope.names.lookup y = some .local := by rfl) (hz : X.env.scope.names.lookup z = some .local := by rfl)
    (hw : swappedStores [.Tuple [.Name x px, .Name y py, .Name z pz] kt pt] (.Tuple [a, b, c] k2 pt2) X.env = pure (some [x, y, z]) := by rfl)
    (hs : swapsWithSole [.Tuple [.Name x px, .Name y py, .Name z pz] kt pt] (.Tuple [a, b, c] k2 pt2) pos.line X.env = pure false := by rfl) :
    PSD bk X W (.Assign [.Tuple [.Name x px, .Name y py, .Name z pz] kt pt] (.Tuple [a, b, c] k2 pt2) pos) (tPar3D i j l ta) := PS.imp (ps_par3 xb.calm xb.nd hi hj hl hij hil hjl hx hy hz ha hw hs) fun D σ H q => by
  obtain ⟨S0, Hz, S, env, Dd, ok0, e0, ab, en, t⟩ := q
  refine ⟨S, env, Hz, _, _, e0.ok, ab, en.exOk ok0 e0 ab, fun rs vs H1 S1 q1 e1 r1 => ?_, t⟩
  split at q1
  · obtain ⟨v, w, u, rfl⟩ : ∃ v w u, vs = [v, w, u] := by
      cases r1 with
      | cons _ _ _ t => cases t with
        | cons _ _ _ t => cases t with
          | cons _ _ _ t => cases t; exact ⟨_, _, _, rfl⟩
    exact ⟨v, w, u, rfl, en.nx _ _ S1 _ (Ext.tr ok0 e0 e1) (r1.slots3 hij e1 (Ext.freeZ ok0 e0) ab) q1⟩
  · exact q1.elim
end

/-! ### {k: v, ..} -/
def isKey : PyData → Bool
  | .int _ => true
  | .str _ => true
  | _ => false
theorem key_of {d : PyData} (h : isKey d = true) : ∃ k, keyD k = d := by
  cases d with
  | int i => exact ⟨.inl i, rfl⟩
  | str x => exact ⟨.inr x, rfl⟩
  | _ => cases h
theorem keyD_inj : ∀ {k j : Key}, keyD k = keyD j → k = j
  | .inl _, .inl _, h => by cases h; rfl
  | .inr _, .inr _, h => by cases h; rfl
  | .inl _, .inr _, h => by cases h
  | .inr _, .inl _, h => by cases h
/-- keys that are one -/
def keq : PyData → PyData → Bool
  | .int i, .int j => decide (i = j)
  | .str x, .str y => decide (x = y)
  | _, _ => false
theorem keq_keyD : ∀ k j : Key, keq (keyD k) (keyD j) = decide (k = j)
  | .inl i, .inl j => decide_eq_decide.mpr ⟨fun e => by rw [e], fun e => by cases e; rfl⟩
  | .inr i, .inr j => decide_eq_decide.mpr ⟨fun e => by rw [e], fun e => by cases e; rfl⟩
  | .inl _, .inr _ => rfl
  | .inr _, .inl _ => rfl
abbrev KVs := List (PyData × PyData)
def hasD (kvs : KVs) (k : PyData) : Bool := kvs.any fun kv => keq kv.1 k
def putD (kvs : KVs) (k v : PyData) : KVs := if hasD kvs k = true then kvs.map (fun kv => if keq kv.1 k = true then (kv.1, v) else kv) else kvs ++ [(k, v)]
def getD (kvs : KVs) (k : PyData) : Option PyData := (kvs.find? fun kv => keq kv.1 k).map (·.2)
def mergeD (kvs more : KVs) : KVs := more.foldl (fun acc kv => putD acc kv.1 kv.2) kvs
section
variable {K : PySem.W.Frag} {F : Hp}
theorem RpKv.has : ∀ {ds : KVs} {vs : List (Key × V)} (k : Key), RpKv K F vs ds → (vs.any fun kv => decide (kv.1 = k)) = hasD ds (keyD k)
  | [], _, _, h => by cases h; rfl
  | _ :: ds, _, k, h => by
    cases h with
    | @cons k2 v kvs d ds h1 h2 =>
      show (decide (k2 = k) || _) = (keq (keyD k2) (keyD k) || _)
      rw [keq_keyD, RpKv.has k h2]
      rfl
theorem RpKv.append : ∀ {ds es : KVs} {vs ws : List (Key × V)}, RpKv K F vs ds → RpKv K F ws es → RpKv K F (vs ++ ws) (ds ++ es)
  | [], _, _, _, h, g => by cases h; exact g
  | _ :: _, _, _, _, h, g => by
    cases h with
    | cons h1 h2 => exact .cons h1 (RpKv.append h2 g)
theorem RpKv.over {k : Key} {v : V} {x : PyData} (r : Rp K F v x) : ∀ {ds : KVs} {vs : List (Key × V)}, RpKv K F vs ds → RpKv K F (vs.map fun kv => if kv.1 = k then (kv.1, v) else kv) (ds.map fun kv => if keq kv.1 (keyD k) = true then (kv.1, x) else kv)
  | [], _, h => by cases h; exact .nil
  | _ :: ds, _, h => by
    cases h with
    | @cons k2 v2 kvs d ds h1 h2 =>
      rw [List.map_cons, List.map_cons]
      by_cases e : k2 = k
      · have e2 : keq (keyD k2) (keyD k) = true := by rw [keq_keyD]; exact decide_eq_true e
        simp only [if_pos e, if_pos e2]
        exact .cons r (RpKv.over r h2)
      · have e2 : ¬ keq (keyD k2) (keyD k) = true := by rw [keq_keyD]; exact fun z => e (of_decide_eq_true z)
        simp only [if_neg e, if_neg e2]
        exact .cons h1 (RpKv.over r h2)
theorem RpKv.put {ds : KVs} {vs : List (Key × V)} {k : Key} {v : V} {x : PyData} (h : RpKv K F vs ds) (r : Rp K F v x) : RpKv K F (putK vs k v) (putD ds (keyD k) x) := by
  unfold putK putD
  rw [h.has k]
  split
  · exact RpKv.over r h
  · exact h.append (.cons r .nil)
theorem RpKv.merge : ∀ {es ds : KVs} {ws vs : List (Key × V)}, RpKv K F ws es → RpKv K F vs ds → RpKv K F (mergeK vs ws) (mergeD ds es)
  | [], _, _, _, h, g => by cases h; exact g
  | _ :: es, ds, _, vs, h, g => by
    cases h with
    | @cons k2 v2 kvs d _ h1 h2 => exact RpKv.merge (es := es) (ds := putD ds (keyD k2) d) (ws := kvs) (vs := putK vs k2 v2) h2 (g.put h1)
theorem RpKv.get : ∀ {ds : KVs} {vs : List (Key × V)} {k : Key} {x : PyData}, RpKv K F vs ds → HA.getD ds (keyD k) = some x → ∃ v, valV vs k = some v ∧ Rp K F v x
  | [], _, _, _, h, e => by cases e
  | _ :: ds, _, k, x, h, e => by
    cases h with
    | @cons k2 v2 kvs d ds h1 h2 =>
      by_cases z : k2 = k
      · have z2 : keq (keyD k2) (keyD k) = true := by rw [keq_keyD]; exact decide_eq_true z
        have e' : some d = some x := by simpa [HA.getD, List.find?_cons, z2] using e
        cases e'
        exact ⟨v2, valV_pos z, h1⟩
      · have z2 : keq (keyD k2) (keyD k) = false := by rw [keq_keyD]; exact decide_eq_false z
        have e' : HA.getD ds (keyD k) = some x := by simpa [HA.getD, List.find?_cons, z2] using e
        obtain ⟨v, h3, h4⟩ := RpKv.get h2 e'
        exact ⟨v, by rw [valV_neg z]; exact h3, h4⟩
theorem RpKv.getN : ∀ {ds : KVs} {vs : List (Key × V)} {k : Key}, RpKv K F vs ds → HA.getD ds (keyD k) = none → valV vs k = none
  | [], _, _, h, e => by cases h; rfl
  | _ :: ds, _, k, h, e => by
    cases h with
    | @cons k2 v2 kvs d ds h1 h2 =>
      by_cases z : k2 = k
      · have z2 : keq (keyD k2) (keyD k) = true := by rw [keq_keyD]; exact decide_eq_true z
        simp [HA.getD, List.find?_cons, z2] at e
      · have z2 : keq (keyD k2) (keyD k) = false := by rw [keq_keyD]; exact decide_eq_false z
        have e' : HA.getD ds (keyD k) = none := by simpa [HA.getD, List.find?_cons, z2] using e
        rw [valV_neg z]
        exact RpKv.getN h2 e'
theorem Rp.key {k : Key} {v : V} (h : Rp K F v (keyD k)) : v = kV k := by
  cases k with
  | inl i => cases h; rfl
  | inr x => cases h; rfl
end
abbrev TDK := En → (KVs → Prop) → (Err → Prop) → Prop
def kNilD : TDK := fun _ Q _ => Q []
def kConsD (tk tv : TD) (r : TDK) : TDK := fun env Q Ex => tk env (fun rk => rk.use fun x => isKey x = true ∧ tv env (fun rv => rv.arg fun rv' => match rv' with
  | .d y => r env (fun kvs => Q ((x, y) :: kvs)) Ex
  | _ => False) Ex) Ex
def tDispD (t : TDK) : TD := fun env Q Ex => t env (fun kvs => Q (.own (.dic (mergeD [] kvs)))) Ex
/-- the pairs, evaluated; the new dict's address p is to be left alone -/
def PKv (bk : BoxKind) (X : Cx) (W : WX) (pos : Pos) (ks : List (Option Expr)) (vs : List Expr) (t : TDK) : Prop := ∃ trs, PPs X pos ks vs trs ∧ ∀ (σ : Sg) (S : AS) (env : En) (Hz H : Hp) (Qd : KVs → Prop) (Ex : Err → Prop) (Q : List (V × V) → Hp → Prop),
  AOk bk S H → Abs X.K S Hz H σ env → ExOk bk X W S σ H Ex → (∀ ds ws H' S', Qd ds → Ext bk S S' H H' → ws.length = ks.length → RpKv X.K S'.F ws ds → Q (ws.map fun kv => (kV kv.1, kv.2)) H') → t env Qd Ex → tPairs trs σ H Q
section
variable {bk : BoxKind} {X : Cx} {W : WX} {pos : Pos} {e f : Expr} {ks : List (Option Expr)} {vs : List Expr} {tk tv : TD} {t : TDK}
theorem pkv_nil : PKv bk X W pos [] [] kNilD := ⟨[], pps_nil, fun σ S env Hz H Qd Ex Q ok ab ex con t => con [] [] H S t (Ext.refl ok) rfl .nil⟩
theorem pkv_cons (hk : PD bk X W e tk) (hv : PD bk X W f tv) (hr : PKv bk X W pos ks vs t) : PKv bk X W pos (some e :: ks) (f :: vs) (kConsD tk tv t) := by
  obtain ⟨trs, pr, hr⟩ := hr
  refine ⟨_, pps_cons hk hv pr, fun σ S env Hz H Qd Ex Q ok ab ex con q => ?_⟩
  refine ⟨S, env, Hz, _, Ex, ok, ab, ex, fun r v H1 S1 q1 e1 r1 => ?_, q⟩
  obtain ⟨x, rx, hx, q2⟩ := r1.rq q1
  obtain ⟨key, rfl⟩ := key_of hx
  refine ⟨S1, env, Hz, _, Ex, e1.ok, ab.ext e1, ex.ext ok e1, fun r' v' H2 S2 q3 e2 r2 => ?_, q2⟩
  obtain ⟨S3, r3, e3, ra, q4, _⟩ := r2.arg e1.ok e2 q3
  have e13 := Ext.trans ok e1 e3
  have ek : v = kV key := by
    rcases rx with h | ⟨a, o, rfl, _, h, _, z⟩ | ⟨a, ns, rfl, h, z⟩
    · exact h.key
    · cases key <;> cases o <;> cases z
    · cases key <;> cases z
  cases r3 with
  | d y =>
    refine hr σ S3 env Hz H2 _ Ex _ e3.ok (ab.ext e13) (ex.ext ok e13) (fun ds ws H4 S4 q5 e4 l4 r4 => ?_) q4
    have := con _ ((key, v') :: ws) H4 S4 q5 (Ext.trans ok e13 e4) (by rw [List.length_cons, List.length_cons, l4]) (.cons (Rp.mono e4.fz ra) r4)
    rw [ek]
    exact this
  | own o => exact q4.elim
  | bor o => exact q4.elim
  | box => exact q4.elim
  | scr ns => exact q4.elim
theorem pd_disp (h : PKv bk X W pos ks vs t) (hall : ks.all (·.isSome) = true) (hl : ks.length = vs.length) (h0 : ks ≠ []) (h15 : ks.length ≤ 15) : PD bk X W (.Dict ks vs pos) (tDispD t) := by
  obtain ⟨trs, pr, h⟩ := h
  refine PE.imp (pe_disp pr hall hl h0 h15) fun σ H Q q => ?_
  obtain ⟨S, env, Hz, Qd, Ex, ok, ab, ex, con, t⟩ := q
  intro p hp
  have lp : p ∉ S.l := fun m => ok.there m hp
  have e0 := Ext.laid (o := .dK []) ok hp
  refine h σ S env Hz _ _ Ex _ e0.ok (ab.ext e0) (ex.ext ok e0) (fun ds ws H1 S1 q1 e1 l1 r1 => ?_) t
  have hp1 : H1 p = some (.dK []) := e1.kp _ _ upd_same lp
  have f1 : S1.F p = none := by
    cases z : S1.F p with
    | none => rfl
    | some w =>
      have z2 := e1.nw p (ok.free hp) (by rw [z]; exact nofun)
      rw [upd_same] at z2; cases z2
  have l2 : p ∉ S1.l := by rw [e1.el]; exact lp
  refine ⟨hp1, ws, rfl, by omega, ?_⟩
  exact con _ _ _ _ q1 ((Ext.trans ok e0 e1).write hp f1 l2) ⟨p, rfl, hp, l2, f1, _, upd_same, r1.merge .nil⟩
theorem q_disp (h : PKv bk X W pos ks vs t) (hall : ks.all (·.isSome) = true := by rfl) (hl : ks.length = vs.length := by rfl) (h0 : ks ≠ [] := by exact nofun) (h15 : ks.length ≤ 15 := by decide) : PD bk X W (.Dict ks vs pos) (tDispD t) := pd_disp h hall hl h0 h15
end

/-! ### x[k], of a dict, too -/
def gIx : GD := fun x y Q => match x with
  | .dict kvs => isKey y = true ∧ ∃ z, getD kvs y = some z ∧ Q (.d z)
  | x => gIx0 x y Q
theorem ix_dK {X : Cx} (hu : X.A.units + 1 < cLine) : IxR X (fun x y H Q => ∃ a v, x = .ref a ∧ DGet H a y (some v) ∧ Q v H) := by
  intro value slice pins s σ H x y v u Q I rx ry h hs
  obtain ⟨a, z, rfl, g, q⟩ := h
  obtain rfl : v = Value.ref a := rx
  exact tail_any (dict_typeIs I g) PySem.F.slot_dict_getitem.lookup (d_getItem hu I g ry fun w' s3 I3 rw' => ⟨z, H, I3, rw', q⟩) hs
theorem Rq.keyV {K : PySem.W.Frag} {S : AS} {H : Hp} {v : V} {k : Key} (h : Rq K S H v (keyD k)) : v = kV k := by
  rcases h with h | ⟨a, o, rfl, _, h, _, z⟩ | ⟨a, ns, rfl, h, z⟩
  · exact h.key
  · cases k <;> cases o <;> cases z
  · cases k <;> cases z
section
variable {bk : BoxKind} {X : Cx} {W : WX} {k : Nat} {pos : Pos} {a b : Expr} {ta tb : TD}
theorem ix_any (hu : X.A.units + 1 < cLine) : IxD bk X gIx := by
  intro value slice pins s σ H x y v u Q I rx ry h hsub
  obtain ⟨S, dx, dy, Qd, ok, hx, hy, con, g⟩ := h
  cases dx with
  | dict kvs =>
    obtain ⟨hk, z, hz, g⟩ := g
    obtain ⟨key, rfl⟩ := key_of hk
    obtain ⟨p, ws, rfl, hp, rp⟩ := hx.rr.dict ok.sub
    obtain ⟨w, hw, rw'⟩ := rp.get hz
    have ey := hy.keyV
    exact ix_dK hu value slice pins s σ H _ y v u Q I rx ry ⟨p, w, rfl, by rw [ey, ← hw]; exact DGet.k hp, con.data ok g rw'⟩ hsub
  | _ => exact ix_data value slice pins s σ H x y v u Q I rx ry ⟨S, _, dy, Qd, ok, hx, hy, con, g⟩ hsub
theorem XB.u1 {X : Cx} {W : WX} {k : Nat} (x : XB X W k) : X.A.units + 1 < cLine := by have := x.room.un; omega
theorem q_ix (xb : XB X W k) (ha : PD bk X W a ta) (hb : PD bk X W b tb) (hs : PlainIx b := by first | exact (fun _ _ => rfl)) : PD bk X W (.Subscript a b pos) (tBinD gIx ta tb) :=
  PE.imp (pe_ix (ix_any xb.u1) ha hb hs) fun _ _ _ h => two_data h
end
end HA

namespace HA
open PySem PySem.Spec PyProof.Rows L2

/-! ### the law: its box is made, then it draws -/
def spLaw (K : PySem.W.Frag) : Sp := fun vs H Q _ => ∃ (a : Addr) (ns : List Int), vs = [.ref a] ∧ SqL K H a (ns.map V.int) ∧ ns.length ≤ 63 ∧ ∀ H', Q (.bl true) H'
/-- what the law's end is: True -/
def lawEnds : SE := ⟨fun _ => False, fun r => r = .d (.bool true), fun _ => False, fun _ => False, fun _ _ => False⟩
def lawEnv (m : Nat) : En := none :: some .box :: List.replicate (m - 2) none
section
variable {P : Program} {w : World} {K : PySem.W.Frag} {mg : Str → Option Value} {base : Heap} {k : Nat} {f : Addr} {fd : FuncData} {bk : BoxKind}
/-- a start at which all is as it stands but for the box -/
theorem restart {X : Cx} {W : WX} {D : Ends} {t : TSD} {σ : Sg} {H : Hp} {b : Addr} {l : List Addr} {Dd : SE} {env : En} (hb : bk.ok H b l) (hl : l ≠ []) (hlen : env.length = σ.length)
    (henv : ∀ (i : Nat) (r : RV), env[i]? = some (some r) → r = .box ∧ σ[i]? = some (some (.ref b)))
    (en : EndsOk bk X W ⟨fun a => if a ∈ l then none else H a, b, l⟩ H D Dd) (q : t Dd env) : liftS bk X W t D σ H := by
  have ok : AOk bk ⟨fun a => if a ∈ l then none else H a, b, l⟩ H := by
    refine ⟨fun a u h => ?_, fun a m => ?_, .inr hb⟩
    · have h' : (if a ∈ l then none else H a) = some u := h
      split at h'
      · cases h'
      · exact h'
    · show (if a ∈ l then none else H a) = none
      rw [if_pos m]
  refine ⟨⟨fun a => if a ∈ l then none else H a, b, l⟩, H, ⟨fun a => if a ∈ l then none else H a, b, l⟩, env, Dd, ok.box, Ext.refl ok, ⟨hlen, fun i r h => ?_, fun i j o o' v _ h => ?_⟩, en, q⟩
  · obtain ⟨rfl, e⟩ := henv i r h
    exact ⟨_, e, hl, rfl⟩
  · have := (henv i _ h).1
    cases this
theorem FnG.law {N : List Str} {st s0 : Stmt} {rest : List Stmt} {D : TSD} {spBox : SpD} {boxOk : Ow → Prop} (F : Fun K "law" "law" st f fd) (S : FnScope N ["script"] (defScope st)) (hN : 2 ≤ N.length) (hbody : defBody st = s0 :: rest)
    (b0 : ∀ (cdv : Value) (A : Around) (outer : List Env) (s : Shared) (H : Hp) (E : XK), Room k (A.deeper (envOfC "law" (defScope st) s.heap.objs.size f cdv)) → A.guards = some [] →
      PSD bk (cxOf (L2.CX P w) P w K mg base N "law" (defScope st) f cdv A outer s H E) (WOf E) s0 (tSetD 1 (tFn 1 spBox (tConsD (tVarD 0) tNilD))) ∧
      PSsD bk (cxOf (L2.CX P w) P w K mg base N "law" (defScope st) f cdv A outer s H E) (WOf E) rest D)
    (hbox : ∀ ns Q Ex, ns.length ≤ 63 → (∀ o, boxOk o → Q (.own o)) → spBox [.scr ns] Q Ex)
    (hk : ∀ (F H : Hp) (b : Addr) (o : Ow), boxOk o → OwR K F H b o → F b = none → Same F H → ∃ l, l ≠ [] ∧ bk.ok H b l)
    (hd : D lawEnds (lawEnv N.length)) : FnG P w K mg base (k + 1) f fd ["script"] (spLaw K) :=
  FnG.body F S (fun vs H Q E h => by obtain ⟨a, ns, rfl, _⟩ := h; rfl) fun cdv A outer s H vs Q E hr hg hsp => by
    obtain ⟨a, ns, rfl, hS, hlen, q⟩ := hsp
    obtain ⟨h0, h1⟩ := b0 cdv A outer s H E hr hg
    rw [hbody]
    refine ⟨_, pss_cons h0 h1, ?_⟩
    have ok : AOk bk ⟨H, 0, []⟩ H := ⟨Same.refl _, fun a m => (nomatch m), .inl rfl⟩
    have ra : RArgs K ⟨H, 0, []⟩ [.ref a] [.scr ns] := .cons ⟨a, rfl, hS⟩ .nil
    refine ⟨⟨H, 0, []⟩, H, ⟨H, 0, []⟩, startD N.length [.scr ns], ⟨fun env => ∃ o, boxOk o ∧ env = (startD N.length [.scr ns]).set 1 (some (.own o)), fun _ => False, fun _ => False, fun _ => False, fun _ _ => False⟩, ok.box, Ext.refl ok, abs_start ra, ⟨?_, ?_, ?_, ?_, ?_⟩, ?_⟩
    · rintro σ' H' S' env' e' ab' ⟨o, ho, rfl⟩
      have l1 : 1 < (startD N.length [RV.scr ns]).length := by simp [startD]; omega
      obtain ⟨v, hv, b, rfl, hz, hl, hf, ow⟩ := ab'.at_ 1 (.own o) (List.getElem?_set_self l1)
      obtain ⟨l, hl0, hb⟩ := hk S'.F H' b o ho ow hf e'.ok.sub
      have hlσ : σ'.length = N.length := by rw [← ab'.len]; simp [startD]; omega
      refine restart (env := lawEnv N.length) (Dd := lawEnds) hb hl0 (by rw [hlσ]; simp [lawEnv]; omega) (fun i r hi => ?_) ⟨?_, ?_, ?_, ?_, ?_⟩ hd
      · match i with
        | 0 => simp [lawEnv] at hi
        | 1 => simp [lawEnv] at hi; exact ⟨hi.symm, hv⟩
        | i + 2 =>
          have : (List.replicate (N.length - 2) (none : Option RV))[i]? = some (some r) := by simpa [lawEnv] using hi
          rw [List.getElem?_replicate] at this
          split at this <;> cases this
      · exact fun _ _ _ _ _ _ h => h.elim
      · rintro r v H2 S2 _ rr rfl
        cases rr
        exact q H2
      · exact fun _ _ _ _ _ _ h => h.elim
      · exact fun _ _ _ _ _ _ h => h.elim
      · exact fun _ _ _ _ _ _ _ _ _ _ h => h.elim
    · exact fun _ _ _ _ _ _ h => h.elim
    · exact fun _ _ _ _ _ _ h => h.elim
    · exact fun _ _ _ _ _ _ h => h.elim
    · exact fun _ _ _ _ _ _ _ _ _ _ h => h.elim
    · have e0 : enGet (startD N.length [.scr ns]) 0 = fun k => k (.scr ns) := rfl
      unfold tSetD tFn tConsD tVarD tNilD
      rw [e0]
      exact ⟨rfl, hbox ns _ _ hlen fun o ho => ⟨o, ho, rfl⟩⟩
end

/-! ### the row's end -/
theorem law_callG {P : Program} {w : World} {K : PySem.W.Frag} {mg mb : Str → Option Value} {k : Nat} {fa a : Addr} {fd : FuncData} {x : Str} {sp : Sp} {t : Shared} {us : List Value} {ns : List Int}
    (KX : K.In t.heap) (hns : t.heap.Ns mainGlobals mg) (hb : t.heap.Ns builtinsNs mb) (hbb : ∀ x : Str, x ≠ "__name__" → mb x = bootBuiltins x) (hlim : t.heap.NoLimit) (hg : t.gens = #[])
    (ha : t.heap.get? a = some { cls := .type "list", data := .seq us.toArray }) (hi : IntsAre us ns) (hl : ns.length ≤ sizeLine) (hr : Room k callerA)
    (F : ∀ base : Heap, K.In base → base.Ns mainGlobals mg → FnG P w K mg base k fa fd [x] sp) (hbind : ∀ (s : Shared) (u : Value), BindsTo s fd ⟨[u], []⟩ [(x, u)])
    (hsp : ∀ H : Hp, SqL K H a (ns.map V.int) → sp [.ref a] H (fun v _ => v = .bl true) fun _ _ _ => False) :
    codeAny (model P w) callerA (.call (.ref fa) ⟨[.ref a], []⟩) (fun r s' => r = .ok (.ret (.bool true)) ∧ OldK t.heap s'.heap ∧ s'.os = t.os ∧ AllBare s'.gens) t := by
  have rv := vals_ints hi
  have go : ∀ H : Hp, Only H → SqL K H a (ns.map V.int) → HOk P w H t.heap → (∀ b, H b ≠ none → b = a) → (H a ≠ none → K.lookup a = none) → codeAny (model P w) callerA (.call (.ref fa) ⟨[.ref a], []⟩) (fun r s' => r = .ok (.ret (.bool true)) ∧ OldK t.heap s'.heap ∧ s'.os = t.os ∧ AllBare s'.gens) t := by
    intro H only hS hok one hK
    have shown : ∀ {b : Addr} {o : Obj}, t.heap.get? b = some o → H b = none → (hidT t.heap H).get? b = some o := fun e n => hidT_get e n
    have noA : ∀ {b : Addr} {o : Obj} {es : Array DictEntry} {ep : Nat}, t.heap.get? b = some o → o.data = .dict es ep → H b = none := fun {b o es ep} e d => by
      cases q : H b with
      | none => rfl
      | some u =>
        obtain rfl := one b (by rw [q]; exact nofun)
        rw [ha] at e
        cases e
        exact absurd (show Data.seq us.toArray _ = Data.dict es ep from d) nofun
    have names : ∀ {b : Addr} {m : Str → Option Value}, t.heap.Ns b m → (hidT t.heap H).Ns b m := fun {b m} ⟨o, es, ep, e, d, r⟩ => ⟨o, es, ep, shown e (noA e d), d, r⟩
    have kin : K.In (hidT t.heap H) := fun b o e => shown (KX b o e) (by
      cases q : H b with
      | none => rfl
      | some u =>
        obtain rfl := one b (by rw [q]; exact nofun)
        rw [hK (by rw [q]; exact nofun)] at e
        cases e)
    have md : Mod K mg (hidT t.heap H) := ⟨kin, names hns, ⟨mb, names hb, hbb⟩, let ⟨mc, h1, h2⟩ := hlim; ⟨mc, names h1, h2⟩⟩
    have e0 : Env0 P w K mg (hidT t.heap H) callerA [] t H := ⟨rfl, md, fun b o e => of_hidT e, Nat.le_of_eq (hidT_size _ _), trivial, fun b z => (nomatch z), hok, .of_eq hg⟩
    refine codeAny_mono ((F _ kin (names hns)).run callerA [] t H ⟨[.ref a], []⟩ [.ref a] [.ref a] _ _ hr rfl e0 (hbind t (.ref a)) (.cons rfl .nil) (hsp H hS)) fun r s' h => ?_
    cases r with
    | error e =>
      obtain ⟨_, _, _, _, _, _, _, _, _, _, _, _, z⟩ := h
      exact z.elim
    | ok fl =>
      cases fl with
      | next => exact False.elim h
      | brk => exact False.elim h
      | cont => exact False.elim h
      | ret u =>
        obtain ⟨v, H', os, bare, un, hok', r', q⟩ := h
        obtain rfl : v = .bl true := q
        obtain rfl : u = Value.bool true := r'
        refine ⟨rfl, OldK.of_keep fun b o e => ?_, os, bare⟩
        cases q : H b with
        | none => exact un.keep b o e q (fun z => by cases z) (by simp)
        | some u =>
          rcases only b with z | ⟨ob, xs, z⟩
          · rw [q] at z; cases z
          · obtain ⟨e1, _⟩ := hok b _ z
            obtain ⟨e2, _⟩ := hok' b _ (un.frzs b ob _ z)
            rw [e] at e1
            cases e1
            exact e2
  cases hk : K.lookup a with
  | some o =>
    have e := KX a o hk
    rw [ha] at e
    cases e
    exact go (fun _ => none) (fun _ => .inl rfl) (.inr ⟨_, us.toArray, _, hk, rfl, rfl, rfl, by rw [List.size_toArray, hi.length]; exact hl, by simpa using rv⟩) (fun b u z => by cases (show (none : Option HO) = some u from z)) (fun b z => absurd rfl z) fun z => absurd rfl z
  | none =>
    have at_ : ∀ b u, (if b = a then some (HO.frz { cls := .type "list", data := .seq us.toArray } (.lst (ns.map V.int))) else none) = some u → b = a ∧ u = HO.frz { cls := .type "list", data := .seq us.toArray } (.lst (ns.map V.int)) := fun b u z => by
      split at z
      · cases z; exact ⟨by assumption, rfl⟩
      · cases z
    refine go (fun b => if b = a then some (.frz { cls := .type "list", data := .seq us.toArray } (.lst (ns.map V.int))) else none) (fun b => ?_) (.inl (.inr ⟨{ cls := .type "list", data := .seq us.toArray }, if_pos rfl⟩)) (fun b u z => ?_) (fun b z => ?_) fun _ => hk
    · by_cases e : b = a
      · exact .inr ⟨_, _, if_pos e⟩
      · exact .inl (if_neg e)
    · obtain ⟨rfl, rfl⟩ := at_ b u z
      exact ⟨ha, by rw [List.length_map]; exact hl, us, _, rv, ha⟩
    · by_cases e : b = a
      · exact e
      · exact absurd (if_neg e) z
theorem walk_ofG {l : PySem.W.OpenLaw} {k : Nat} {q : Program} {loose : List Str} {XP : (Str → Option Value) → Heap → Prop} {YP : World → Heap → Prop} {d : DefRec} {K : Params → PySem.W.Frag} {x : Str}
    (hn : l.most = some 63) (hdf : d.params.defaults = []) (hr : Room k callerA) (hY : ∀ (w : World) (h : Heap), YP w h → (K w.params).In h)
    (F : ∀ (w : World) (mg : Str → Option Value) (fa : Addr) (h : Heap), (K w.params).In h → h.Ns mainGlobals mg → mg d.name = some (.ref fa) →
      ∃ fd : FuncData, (∀ (s : Shared) (u : Value), BindsTo s fd ⟨[u], []⟩ [(x, u)]) ∧ ∀ base : Heap, (K w.params).In base → base.Ns mainGlobals mg → FnG l.prog w (K w.params) mg base k fa fd [x] (spLaw (K w.params))) :
    PySem.W.WalkO q loose XP YP l.row.toRowW d [] (fun f vs => PySem.call f vs) := by
  refine Att.attach_call hn hdf fun w s₀ s₁ mg mb fa o pm cd doc a vs ns G Y ho hd hcd hmg hobj hints hlen hg => ?_
  have KX := hY w _ Y
  obtain ⟨fd, hb, hF⟩ := F w mg fa _ KX G.T.g hmg
  exact law_callG KX G.T.g G.T.b G.T.builtins G.T.nolimit hg hobj hints (Nat.le_trans hlen (by decide)) hr hF hb fun H hS => ⟨a, ns, rfl, hS, hlen, fun _ => rfl⟩
end HA

namespace HA
open PySem PySem.Spec PyProof.Rows L2

/-! ### reading with everything frozen -/
section
variable {bk : BoxKind} {X : Cx} {W : WX} {σ : Sg} {H : Hp} {env : En}
/-- the slots as data of the heap as it stands -/
def AllD (K : PySem.W.Frag) (H : Hp) (σ : Sg) (env : En) : Prop := env.length = σ.length ∧ ∀ (i : Nat) (r : RV), env[i]? = some (some r) → ∃ v x, σ[i]? = some (some v) ∧ r = .d x ∧ Rp K H v x
theorem aok_all : AOk bk ⟨H, 0, []⟩ H := ⟨Same.refl _, fun a m => (nomatch m), .inl rfl⟩
theorem AllD.nil {K : PySem.W.Frag} {H : Hp} : AllD K H [] [] := ⟨rfl, fun i r e => by simp at e⟩
theorem AllD.no {K : PySem.W.Frag} {H : Hp} {σ : Sg} {env : En} {v : Option V} (h : AllD K H σ env) : AllD K H (v :: σ) (none :: env) := ⟨by simp [h.1], fun i r e => by
  cases i with
  | zero => simp at e
  | succ i => simpa using h.2 i r (by simpa using e)⟩
theorem AllD.da {K : PySem.W.Frag} {H : Hp} {σ : Sg} {env : En} {v : V} {x : PyData} (r : Rp K H v x) (h : AllD K H σ env) : AllD K H (some v :: σ) (some (.d x) :: env) := ⟨by simp [h.1], fun i r' e => by
  cases i with
  | zero => simp at e; subst e; exact ⟨v, x, rfl, rfl, r⟩
  | succ i => simpa using h.2 i r' (by simpa using e)⟩
theorem AllD.abs (h : AllD X.K H σ env) : Abs X.K ⟨H, 0, []⟩ H H σ env := by
  refine ⟨h.1, fun i r e => ?_, fun i j o o' v _ e => ?_⟩
  · obtain ⟨v, x, e1, rfl, r⟩ := h.2 i r e
    exact ⟨v, e1, r⟩
  · obtain ⟨v, x, e1, z, r⟩ := h.2 i _ e
    cases z
theorem pureE {t : TD} {Q : VK} (h : AllD X.K H σ env) (q : t env (fun r => ∃ x, r = .d x ∧ ∀ v H', Same H H' → (∃ F, Same F H' ∧ Rp X.K F v x) → Q v H') (fun _ => False)) : liftE bk X W t σ H Q :=
  ⟨⟨H, 0, []⟩, env, H, _, _, aok_all, h.abs, fun _ _ _ _ _ z => z.elim, fun r v H' S' q e rr => by
    obtain ⟨x, rfl, q⟩ := q
    exact q v H' (fun a o ha => e.kp a o ha (by intro m; cases m)) ⟨_, e.ok.sub, rr⟩, q⟩
theorem pureI {t : TD} {Q : VK} (h : AllD X.K H σ env) (q : t env (fun r => ∃ z : Int, r = .d (.int z) ∧ ∀ H', Same H H' → Q (.int z) H') (fun _ => False)) : liftE bk X W t σ H Q :=
  ⟨⟨H, 0, []⟩, env, H, _, _, aok_all, h.abs, fun _ _ _ _ _ z => z.elim, fun r v H' S' q e rr => by
    obtain ⟨z, rfl, q⟩ := q
    cases rr
    exact q H' (fun a o ha => e.kp a o ha (by intro m; cases m)), q⟩
theorem pureT {t : TDT} {Q : Bool → Hp → Prop} (h : AllD X.K H σ env) (q : t env (fun b => ∀ H', Same H H' → Q b H') (fun _ => False)) : liftT bk X W t σ H Q :=
  ⟨⟨H, 0, []⟩, env, H, _, _, aok_all, h.abs, fun _ _ _ _ _ z => z.elim, fun b H' S' q e => q H' (fun a o ha => e.kp a o ha (by intro m; cases m)), q⟩
end
theorem Sm.of {i : Int} (h : i.natAbs < 2 ^ 64) : Sm i := Nat.lt_of_lt_of_le h (Nat.pow_le_pow_right (by decide) (by decide))
theorem ints_can (gs : List Int) : PyData.canLayAll0 (gs.map PyData.int) = true := by
  induction gs with
  | nil => rfl
  | cons z r ih => show (true && PyData.canLayAll0 (r.map PyData.int)) = true; rw [ih]; rfl
theorem ints_depth (gs : List Int) : PyData.depthAll (gs.map PyData.int) = 0 := by
  induction gs with
  | nil => rfl
  | cons z r ih =>
    show max (PyData.depth (.int z)) (PyData.depthAll (r.map PyData.int)) = 0
    rw [ih]; rfl
theorem ints_shaped (gs : List Int) : SeqAt.shaped (.list (gs.map PyData.int)) = true := by
  unfold SeqAt.shaped
  rw [show PyData.canLay0 (.list (gs.map PyData.int)) = PyData.canLayAll0 (gs.map PyData.int) from rfl, ints_can, Bool.true_and]
  refine decide_eq_true ?_
  rw [show PyData.depth (.list (gs.map PyData.int)) = PyData.depthAll (gs.map PyData.int) + 1 from rfl, ints_depth]
  decide

/-! ### the box of k01 to k16: a dict of a list and two counts -/
def kv3 (g : Addr) (st ct : Int) : List (Key × V) := [(.inr "great", .ref g), (.inr "stirred", .int st), (.inr "count", .int ct)]
def bx1 : BoxKind where
  ok H b l := ∃ (g : Addr) (gs : List Int) (st ct : Int), l = [b, g] ∧ b ≠ g ∧ H b = some (.dK (kv3 g st ct)) ∧ H g = some (.lst (gs.map V.int)) ∧ ∀ z ∈ gs, 0 ≤ z
  loc := by
    rintro H H' b l ⟨g, gs, st, ct, rfl, hn, h1, h2, h3⟩ k
    exact ⟨g, gs, st, ct, rfl, hn, by rw [k b (by simp)]; exact h1, by rw [k g (by simp)]; exact h2, h3⟩
  there := by
    rintro H b l ⟨g, gs, st, ct, rfl, hn, h1, h2, h3⟩ a m
    have : a = b ∨ a = g := by simpa using m
    rcases this with rfl | rfl
    · rw [h1]; exact nofun
    · rw [h2]; exact nofun
/-- what the box's maker is to give -/
def boxOk1 (o : Ow) : Prop := ∃ (gs : List Int) (st ct : Int), (∀ z ∈ gs, 0 ≤ z) ∧ o = .dic [(.str "great", .list (gs.map PyData.int)), (.str "stirred", .int st), (.str "count", .int ct)]
theorem RpAll.intsV {K : PySem.W.Frag} {F : Hp} : ∀ {gs : List Int} {vs : List V}, RpAll K F vs (gs.map PyData.int) → vs = gs.map V.int
  | [], _, h => by cases h; rfl
  | z :: gs, _, h => by
    cases h with
    | cons h1 h2 => cases h1; rw [RpAll.intsV h2]; rfl
theorem box1_is {K : PySem.W.Frag} (F H : Hp) (b : Addr) (o : Ow) (h : boxOk1 o) (w : OwR K F H b o) (hf : F b = none) (e : Same F H) : ∃ l, l ≠ [] ∧ bx1.ok H b l := by
  obtain ⟨gs, st, ct, hg, rfl⟩ := h
  obtain ⟨vs, h1, h2⟩ := w
  have keyOf : ∀ {k : Key} {x : Str}, keyD k = .str x → k = .inr x := fun {k x} e => by
    cases k with
    | inl i => cases e
    | inr y => cases e; rfl
  obtain ⟨g, rfl, hG⟩ : ∃ g, vs = kv3 g st ct ∧ F g = some (.lst (gs.map V.int)) := by
    generalize eq : [(PyData.str "great", PyData.list (gs.map PyData.int)), (.str "stirred", .int st), (.str "count", .int ct)] = ds at h2
    cases h2 with
    | nil => cases eq
    | @cons k1 v1 kvs1 d1 ds1 r1 t1 =>
      injection eq with e1 e2
      injection e1 with e3 e4
      subst e4
      cases t1 with
      | nil => cases e2
      | @cons k2 v2 kvs2 d2 ds2 r2 t2 =>
        injection e2 with e5 e6
        injection e5 with e7 e8
        subst e8
        cases t2 with
        | nil => cases e6
        | @cons k3 v3 kvs3 d3 ds3 r3 t3 =>
          injection e6 with e9 e10
          injection e9 with e11 e12
          subst e12 e10
          cases t3
          cases r2
          cases r3
          cases r1 with
          | lst ha ra =>
            rw [ra.intsV] at ha
            exact ⟨_, by rw [keyOf e3.symm, keyOf e7.symm, keyOf e11.symm]; rfl, ha⟩
  exact ⟨[b, g], nofun, g, gs, st, ct, rfl, (fun z => by rw [z, hG] at hf; cases hf), h1, e _ _ hG, hg⟩

/-! the draw, by hand -/
def spDraw : SpD := fun rs Q _ => match rs with
  | [.box, .d (.int m)] => 1 ≤ m ∧ Sm m ∧ ∀ r : Int, 0 ≤ r → r < m → Q (.d (.int r))
  | _ => False
section
variable (X : Cx) (W : WX)
def tDr1If : TS := tSeq (tAsg (liftE bx1 X W (tBinD gIx (tVarD 2) (tConD (.int 0)))) (gName 3))
  (tSeq (tAsg (liftE bx1 X W (tBinD gFdiv (tVarD 3) (tVarD 1))) (L2.gSub (tVar 2) (tC (.int 0)) rSetL))
  (tSeq (tIfS (liftT bx1 X W (tTst (tBinD gLt (tVarD 3) (tVarD 1)))) (tSeq (tDrop (tBM X.K "list" rPopAt (tVar 2) (tCons (tC (.int 0)) tNil))) tNext) tNext)
  (tSeq (tRet (liftE bx1 X W (tBinD gMod (tCallB gInt (tConsU (tVarD 3) tNilU)) (tVarD 1)))) tNext)))
def dF1 : TD := tBinD gMod (tCallB gInt (tConsU (tBinD gAdd (tBinD gIx (tVarD 0) (tConD (.str "stirred"))) (tBinD gMul (tConD (.int 2654435761)) (tVarD 4))) tNilU)) (tConD (.int 4294967291))
def dF2 : TD := tBinD gMod (tCallB gInt (tConsU (tBinD gAdd (tBinD gAdd (tBinD gMul (tVarD 5) (tVarD 5)) (tBinD gMul (tConD (.int 40503)) (tVarD 4))) (tConD (.int 7))) tNilU)) (tConD (.int 4294967279))
def dF3 : TD := tBinD gMod (tCallB gInt (tConsU (tBinD gAdd (tBinD gMul (tVarD 5) (tVarD 5)) (tBinD gIx (tVarD 0) (tConD (.str "stirred")))) tNilU)) (tConD (.int 4294967231))
def dF4 : TD := tBinD gMod (tCallB gInt (tConsU (tBinD gFdiv (tVarD 5) (tConD (.int 128))) tNilU)) (tVarD 1)
def tDr1Else : TS := tSeq (tAsg (liftE bx1 X W (tBinD gAdd (tBinD gIx (tVarD 0) (tConD (.str "count"))) (tConD (.int 1)))) (gName 4))
  (tSeq (tAsg (liftE bx1 X W (tVarD 4)) (L2.gSub (tVar 0) (tC (.str "count")) rSetD))
  (tSeq (tAsg (liftE bx1 X W dF1) (gName 5)) (tSeq (tAsg (liftE bx1 X W dF2) (gName 5)) (tSeq (tAsg (liftE bx1 X W dF3) (gName 5)) (tSeq (tRet (liftE bx1 X W dF4)) tNext)))))
def tDr1 : TS := tSeq (tAsg (tDGet (tVar 0) (tC (.str "great"))) (gName 2)) (tSeq (tIfS (liftT bx1 X W (tTst (tBinD gNe (tVarD 2) (tLstD tNilD)))) (tDr1If X W) tNext) (tDr1Else X W))
end
theorem same_upd {H : Hp} {a : Addr} {o : HO} (h : ∀ b u, H b = some u → b ≠ a → upd H a o b = some u := fun b u e n => by rw [upd_ne n]; exact e) : ∀ b u, H b = some u → b ≠ a → upd H a o b = some u := h
section
variable {X : Cx} {W : WX} {b g : Addr} {gs : List Int} {st ct m : Int}
theorem rp_box {K : PySem.W.Frag} {H : Hp} (hb : H b = some (.dK (kv3 g st ct))) (hg : H g = some (.lst (gs.map V.int))) : Rp K H (.ref b) (.dict [(.str "great", .list (gs.map PyData.int)), (.str "stirred", .int st), (.str "count", .int ct)]) :=
  .dic hb (.cons (.lst hg (RpAll.ints gs)) (.cons (.int st) (.cons (.int ct) .nil)))
/-- what a draw does to the heap: beside the box's own objects nothing is changed -/
def Kp2 (b g : Addr) (H H' : Hp) : Prop := ∀ a o, H a = some o → a ≠ b → a ≠ g → H' a = some o
theorem Kp2.same {H H' H'' : Hp} (h : Kp2 b g H H') (e : Same H' H'') : Kp2 b g H H'' := fun a o ha n1 n2 => e a o (h a o ha n1 n2)
theorem Kp2.upd {H H' : Hp} {a : Addr} {o : HO} (h : Kp2 b g H H') (ha : a = b ∨ a = g) : Kp2 b g H (L2.upd H' a o) := fun c u hc n1 n2 => by
  rw [upd_ne (fun z => by rcases ha with q | q <;> rw [q] at z <;> contradiction)]
  exact h c u hc n1 n2
theorem at0 {α : Type} {x : α} {xs : List α} : atI (x :: xs) 0 = some x := by
  unfold atI ixN
  rw [if_pos (by omega), if_pos (by rw [List.length_cons]; omega)]
  rfl
theorem draw1_if {D : Ends} {H0 H : Hp} {x4 x5 : Option V} (hm : 1 ≤ m) (hs : Sm m) (hn : b ≠ g) (hb : H b = some (.dK (kv3 g st ct))) (hg : H g = some (.lst (gs.map V.int))) (hp : ∀ z ∈ gs, 0 ≤ z) (he : gs ≠ []) (k : Kp2 b g H0 H)
    (q : ∀ (r : Int) (H' : Hp) (gs' : List Int), 0 ≤ r → r < m → Kp2 b g H0 H' → H' b = some (.dK (kv3 g st ct)) → H' g = some (.lst (gs'.map V.int)) → (∀ z ∈ gs', 0 ≤ z) → D.rt (.int r) H') :
    tDr1If X W D [some (.ref b), some (.int m), some (.ref g), none, x4, x5] H := by
  obtain ⟨z, rest, rfl⟩ : ∃ z rest, gs = z :: rest := by
    cases gs with
    | nil => exact absurd rfl he
    | cons z r => exact ⟨z, r, rfl⟩
  have hz : 0 ≤ z := hp z List.mem_cons_self
  -- mark = great[0]
  refine pureI (env := [none, none, some (.d (.list ((z :: rest).map PyData.int))), none, none, none]) (.no (.no (.da (.lst hg (RpAll.ints _)) (.no (.no (.no .nil)))))) ?_
  · refine ⟨.int z, at0, z, rfl, fun H1 e1 => ?_⟩
    have hb1 := e1 _ _ hb
    have hg1 := e1 _ _ hg
    -- great[0] = mark // many
    refine pureI (env := [none, some (.d (.int m)), none, some (.d (.int z)), none, none]) (.no (.da (.int m) (.no (.da (.int z) (.no (.no .nil)))))) ?_
    · refine ⟨by omega, hs, z.fdiv m, rfl, fun H2 e2 => ?_⟩
      have hb2 := e2 _ _ hb1
      have hg2 := e2 _ _ hg1
      refine ⟨.ref g, rfl, g, _, 0, 0, rfl, rfl, hg2, ?_, ?_⟩
      · unfold ixN
        rw [if_pos (by omega), if_pos (by rw [List.length_map, List.length_cons]; omega)]
        rfl
      have hb3 : upd H2 g (.lst (((z :: rest).map V.int).set 0 (.int (z.fdiv m)))) b = some (.dK (kv3 g st ct)) := by rw [upd_ne hn]; exact hb2
      have hg3 : upd H2 g (.lst (((z :: rest).map V.int).set 0 (.int (z.fdiv m)))) g = some (.lst ((z.fdiv m :: rest).map V.int)) := upd_same
      have k3 : Kp2 b g H0 (upd H2 g (.lst (((z :: rest).map V.int).set 0 (.int (z.fdiv m))))) := ((k.same e1).same e2).upd (.inr rfl)
      generalize upd H2 g (.lst (((z :: rest).map V.int).set 0 (.int (z.fdiv m)))) = H3 at hb3 hg3 k3
      have hd : 0 ≤ z.fdiv m := by
        rw [Int.fdiv_eq_ediv_of_nonneg z (by omega)]
        exact Int.ediv_nonneg hz (by omega)
      have hr0 : 0 ≤ z.fmod m := Int.fmod_nonneg_of_pos z (by omega)
      have hr1 : z.fmod m < m := Int.fmod_lt_of_pos z (by omega)
      have ret : ∀ (H4 : Hp) (gs' : List Int), H4 b = some (.dK (kv3 g st ct)) → H4 g = some (.lst (gs'.map V.int)) → (∀ y ∈ gs', 0 ≤ y) → Kp2 b g H0 H4 →
          tSeq (tRet (liftE bx1 X W (tBinD gMod (tCallB gInt (tConsU (tVarD 3) tNilU)) (tVarD 1)))) tNext D [some (.ref b), some (.int m), some (.ref g), some (.int z), x4, x5] H4 := fun H4 gs' h1 h2 h3 k4 => by
        refine pureI (env := [none, some (.d (.int m)), none, some (.d (.int z)), none, none]) (.no (.da (.int m) (.no (.da (.int z) (.no (.no .nil)))))) ?_
        · exact ⟨by omega, z.fmod m, rfl, fun H5 e5 => q _ H5 gs' hr0 hr1 (k4.same e5) (e5 _ _ h1) (e5 _ _ h2) h3⟩
      -- if mark < many: great.pop(0)
      refine pureT (env := [none, some (.d (.int m)), none, some (.d (.int z)), none, none]) (.no (.da (.int m) (.no (.da (.int z) (.no (.no .nil)))))) ?_
      show ∀ H', Same H3 H' → if decide (z < m) = true then _ else _
      intro H4 e4
      have hb4 := e4 _ _ hb3
      have hg4 := e4 _ _ hg3
      have k4 := k3.same e4
      refine ite2 (fun _ => ?_) fun _ => ?_
      · refine ⟨.ref g, rfl, tyV_lst hg4, ?_⟩
        refine ⟨g, _, 0, 0, .int (z.fdiv m), rfl, rfl, hg4, by decide, by decide, ?_, rfl, ?_⟩
        · unfold seqIndex?
          simp
        · refine ret _ rest ?_ upd_same (fun y hy => hp y (List.mem_cons_of_mem _ hy)) (k4.upd (.inr rfl))
          rw [upd_ne hn]
          exact hb4
      · refine ret H4 (z.fdiv m :: rest) hb4 hg4 (fun y hy => ?_) k4
        rcases List.mem_cons.mp hy with rfl | hy
        · exact hd
        · exact hp y (List.mem_cons_of_mem _ hy)
theorem draw1_else {D : Ends} {H0 H : Hp} {x2 x3 x4 x5 : Option V} (hm : 1 ≤ m) (hs : Sm m) (hn : b ≠ g) (hb : H b = some (.dK (kv3 g st ct))) (hg : H g = some (.lst (gs.map V.int))) (k : Kp2 b g H0 H)
    (q : ∀ (r : Int) (H' : Hp) (ct' : Int), 0 ≤ r → r < m → Kp2 b g H0 H' → H' b = some (.dK (kv3 g st ct')) → H' g = some (.lst (gs.map V.int)) → D.rt (.int r) H') :
    tDr1Else X W D [some (.ref b), some (.int m), x2, x3, x4, x5] H := by
  refine pureI (env := [some (.d _), none, none, none, none, none]) (.da (rp_box hb hg) (.no (.no (.no (.no (.no .nil)))))) ?_
  refine ⟨rfl, .int ct, rfl, ct + 1, rfl, fun H1 e1 => ?_⟩
  have hb1 := e1 _ _ hb
  have hg1 := e1 _ _ hg
  -- box['count'] = count
  refine pureI (env := [none, none, none, none, some (.d (.int (ct + 1))), none]) (.no (.no (.no (.no (.da (.int _) (.no .nil)))))) ?_
  refine ⟨ct + 1, rfl, fun H2 e2 => ?_⟩
  have hb2 := e2 _ _ hb1
  have hg2 := e2 _ _ hg1
  refine ⟨.ref b, rfl, b, _, rfl, DPut.k (k := .inr "count") hb2 (by show 3 < sizeLine; decide), ?_⟩
  have ep : putK (kv3 g st ct) (.inr "count") (.int (ct + 1)) = kv3 g st (ct + 1) := rfl
  rw [ep]
  have hb3 : upd H2 b (.dK (kv3 g st (ct + 1))) b = some (.dK (kv3 g st (ct + 1))) := upd_same
  have hg3 : upd H2 b (.dK (kv3 g st (ct + 1))) g = some (.lst (gs.map V.int)) := by rw [upd_ne hn.symm]; exact hg2
  have k3 : Kp2 b g H0 (upd H2 b (.dK (kv3 g st (ct + 1)))) := ((k.same e1).same e2).upd (.inl rfl)
  generalize upd H2 b (.dK (kv3 g st (ct + 1))) = H3 at hb3 hg3 k3
  have sm32 : ∀ z : Int, 0 ≤ z → z < 4294967296 → z.natAbs < 2 ^ 64 := fun z h1 h2 => by
    have : (2 : Nat) ^ 64 = 18446744073709551616 := by decide
    omega
  -- found
  refine pureI (env := [some (.d _), none, none, none, some (.d (.int (ct + 1))), none]) (.da (rp_box hb3 hg3) (.no (.no (.no (.da (.int _) (.no .nil)))))) ?_
  refine ⟨rfl, .int st, rfl, .inl (sm32 _ (by decide) (by decide)), by decide, _, rfl, fun H4 e4 => ?_⟩
  have f0 : ∀ z : Int, 0 ≤ z.fmod 4294967291 := fun z => Int.fmod_nonneg_of_pos z (by decide)
  have f1 : ∀ z : Int, z.fmod 4294967291 < 4294967291 := fun z => Int.fmod_lt_of_pos z (by decide)
  generalize ha : (st + 2654435761 * (ct + 1)).fmod 4294967291 = a1
  have a0 : 0 ≤ a1 := by rw [← ha]; exact f0 _
  have a2 : a1 < 4294967291 := by rw [← ha]; exact f1 _
  have hb4 := e4 _ _ hb3
  have hg4 := e4 _ _ hg3
  refine pureI (env := [none, none, none, none, some (.d (.int (ct + 1))), some (.d (.int a1))]) (.no (.no (.no (.no (.da (.int _) (.da (.int _) .nil)))))) ?_
  refine ⟨.inl (sm32 _ a0 (by omega)), .inl (sm32 _ (by decide) (by decide)), by decide, _, rfl, fun H5 e5 => ?_⟩
  generalize hc : (a1 * a1 + 40503 * (ct + 1) + 7).fmod 4294967279 = c1
  have c0 : 0 ≤ c1 := by rw [← hc]; exact Int.fmod_nonneg_of_pos _ (by decide)
  have c2 : c1 < 4294967279 := by rw [← hc]; exact Int.fmod_lt_of_pos _ (by decide)
  have hb5 := e5 _ _ hb4
  have hg5 := e5 _ _ hg4
  refine pureI (env := [some (.d _), none, none, none, none, some (.d (.int c1))]) (.da (rp_box hb5 hg5) (.no (.no (.no (.no (.da (.int _) .nil)))))) ?_
  refine ⟨.inl (sm32 _ c0 (by omega)), rfl, .int st, rfl, by decide, _, rfl, fun H6 e6 => ?_⟩
  generalize hd : (c1 * c1 + st).fmod 4294967231 = d1
  have hb6 := e6 _ _ hb5
  have hg6 := e6 _ _ hg5
  refine pureI (env := [none, some (.d (.int m)), none, none, none, some (.d (.int d1))]) (.no (.da (.int _) (.no (.no (.no (.da (.int _) .nil)))))) ?_
  refine ⟨by decide, Sm.of (by decide), by omega, _, rfl, fun H7 e7 => ?_⟩
  exact q _ H7 (ct + 1) (Int.fmod_nonneg_of_pos _ (by omega)) (Int.fmod_lt_of_pos _ (by omega)) ((((k3.same e4).same e5).same e6).same e7) (e7 _ _ hb6) (e7 _ _ hg6)
/-- the whole draw -/
theorem draw1_read {D : Ends} {H : Hp} (hm : 1 ≤ m) (hs : Sm m) (hn : b ≠ g) (hb : H b = some (.dK (kv3 g st ct))) (hg : H g = some (.lst (gs.map V.int))) (hp : ∀ z ∈ gs, 0 ≤ z)
    (q : ∀ (r : Int) (H' : Hp) (gs' : List Int) (ct' : Int), 0 ≤ r → r < m → Kp2 b g H H' → H' b = some (.dK (kv3 g st ct')) → H' g = some (.lst (gs'.map V.int)) → (∀ z ∈ gs', 0 ≤ z) → D.rt (.int r) H') :
    tDr1 X W D [some (.ref b), some (.int m), none, none, none, none] H := by
  refine ⟨.ref b, rfl, b, .ref g, rfl, .inl ⟨_, .inr "great", .inl hb, rfl, rfl⟩, ?_⟩
  have k0 : Kp2 b g H H := fun a o h _ _ => h
  refine pureT (env := [none, none, some (.d (.list (gs.map PyData.int))), none, none, none]) (.no (.no (.da (.lst hg (RpAll.ints _)) (.no (.no (.no .nil)))))) ?_
  refine ⟨Nat.zero_le _, .inr ⟨ints_shaped _, rfl⟩, fun H1 e1 => ?_⟩
  cases gs with
  | nil =>
    refine L2.iteF ?_
    exact draw1_else hm hs hn (e1 _ _ hb) (e1 _ _ hg) (k0.same e1) fun r H' ct' h1 h2 h3 h4 h5 => q r H' [] ct' h1 h2 h3 h4 h5 hp
  | cons z r =>
    refine L2.iteT ?_
    exact draw1_if hm hs hn (e1 _ _ hb) (e1 _ _ hg) hp nofun (k0.same e1) fun r H' gs' h1 h2 h3 h4 h5 h6 => q r H' gs' ct h1 h2 h3 h4 h5 h6
end
section
variable {P : Program} {w : World} {K : PySem.W.Frag} {mg : Str → Option Value} {base : Heap} {k : Nat} {f : Addr} {fd : FuncData}
theorem FnG.draw1 {x qual : Str} {ps N : List Str} {st : Stmt} (F : Fun K x qual st f fd) (S : FnScope N ps (defScope st)) (hN : N.length = 6) (hp : ps.length = 2)
    (hb : ∀ (cdv : Value) (A : Around) (outer : List Env) (s : Shared) (H : Hp) (E : XK), Room k (A.deeper (envOfC qual (defScope st) s.heap.objs.size f cdv)) → A.guards = some [] →
      PSs (cxOf (L2.CX P w) P w K mg base N qual (defScope st) f cdv A outer s H E) (defBody st) (tDr1 (cxOf (L2.CX P w) P w K mg base N qual (defScope st) f cdv A outer s H E) (WOf E))) :
    FnG P w K mg base (k + 1) f fd ps (liftSp bx1 K mg 2 spDraw) :=
  FnG.body F S (fun vs H Q E h => (liftSp.len h).trans hp.symm) fun cdv A outer s H vs Q E hr hg hsp => by
    obtain ⟨S0, rs, Qd, Ex, ok, ra, hl, con, ex, q⟩ := hsp
    refine ⟨_, hb cdv A outer s H E hr hg, ?_⟩
    unfold spDraw at q
    split at q
    · rename_i m
      obtain ⟨hm, hs, q⟩ := q
      obtain ⟨v1, v2, rfl, r1, r2⟩ := paired2 ra
      obtain ⟨hl0, rfl⟩ := r1
      have e2 : v2 = .int m := by
        have : Rp K S0.F v2 (.int m) := r2
        cases this; rfl
      subst e2
      rcases ok.box with z | hbx
      · exact absurd z hl0
      · obtain ⟨g, gs, st, ct, el, hn, h1, h2, h3⟩ := hbx
        have est : L2.start N [V.ref S0.b, V.int m] = [some (.ref S0.b), some (.int m), none, none, none, none] := by
          unfold L2.start
          rw [hN]
          rfl
        rw [est]
        refine draw1_read hm hs hn h1 h2 h3 fun r H' gs' ct' q0 q1 kp hb' hg' hp' => ?_
        refine con (.d (.int r)) (.int r) H' S0 (q r q0 q1) ?_ (.int r)
        have notB : ∀ {a : Addr} {o : HO}, S0.F a = some o → a ≠ S0.b ∧ a ≠ g := fun {a o} h => by
          have := ok.fz h
          rw [el] at this
          simpa using this
        refine ⟨Same.refl _, fun a z1 z2 => absurd z1 z2, rfl, rfl, fun a o ha hm' => ?_, ⟨fun a o h => ?_, ok.out, .inr ⟨g, gs', st, ct', el, hn, hb', hg', hp'⟩⟩⟩
        · rw [el] at hm'
          have hm2 : a ≠ S0.b ∧ a ≠ g := by simpa using hm'
          exact kp a o ha hm2.1 hm2.2
        · obtain ⟨n1, n2⟩ := notB h
          exact kp a o (ok.sub a o h) n1 n2
    · exact q.elim
end
end HA

namespace HA
open PySem PySem.Spec PyProof.Rows L2 Builtin Builtin.Str

/-! ### data that can be shown: how long the text is -/
def chOk (x : Str) : Prop := ∀ c ∈ x.cps.toList, c < 16 ^ 8
theorem chOk.append {x y : Str} (h : chOk x) (g : chOk y) : chOk (x ++ y) := fun c hc => by
  have e : (x ++ y).cps.toList = x.cps.toList ++ y.cps.toList := by
    show (x.cps ++ y.cps).toList = _
    rw [Array.toList_append]
  rw [e] at hc
  rcases List.mem_append.mp hc with q | q
  · exact h c q
  · exact g c q
theorem char_lt (c : Char) : c.toNat < 16 ^ 8 := by
  have h := c.valid
  have h2 : c.toNat < 0x110000 := by
    rcases h with h | ⟨_, h⟩
    · exact Nat.lt_trans h (by decide)
    · exact h
  exact Nat.lt_trans h2 (by decide)
theorem chOk.lit (s : String) : chOk (Str.ofString s) := fun c hc => by
  rw [Str.ofString_eq_toList] at hc
  have hc : c ∈ (s.toList.map Char.toNat).toArray.toList := hc
  rw [List.toList_toArray] at hc
  obtain ⟨d, _, rfl⟩ := List.mem_map.mp hc
  exact char_lt d
theorem chOk.join {sep : Str} (hs : chOk sep) : ∀ {ts : List Str}, (∀ t ∈ ts, chOk t) → chOk (Str.join sep ts)
  | [], _ => fun c hc => by
    have e : (Str.join sep []).cps.toList = [] := rfl
    rw [e] at hc; cases hc
  | [t], h => h t List.mem_cons_self
  | t :: u :: r, h => by
    show chOk (t ++ sep ++ Str.join sep (u :: r))
    exact ((h t List.mem_cons_self).append hs).append (chOk.join hs fun v hv => h v (List.mem_cons_of_mem _ hv))
theorem reprChar_ch (q c : Nat) (hq : q < 16 ^ 8) (hc : c < 16 ^ 8) : ∀ e ∈ reprChar q c, e < 16 ^ 8 := by
  have hex : ∀ (w : Nat), ∀ e ∈ List.replicate (w - ((Nat.toDigits 16 c).map Char.toNat).length) 48 ++ (Nat.toDigits 16 c).map Char.toNat, e < 16 ^ 8 := fun w e he => by
    rcases List.mem_append.mp he with h | h
    · rw [(List.mem_replicate.mp h).2]; decide
    · obtain ⟨d, _, rfl⟩ := List.mem_map.mp h
      exact char_lt d
  intro e he
  unfold reprChar at he
  dsimp only at he
  repeat' split at he
  all_goals
    first
    | (simp only [List.mem_cons, List.not_mem_nil, or_false] at he
       rcases he with rfl | rfl <;> first | exact hc | decide)
    | (simp only [List.mem_cons, List.not_mem_nil, or_false] at he
       subst he
       exact hc)
    | (rcases List.mem_append.mp he with h | h
       · simp only [List.mem_cons, List.not_mem_nil, or_false] at h
         rcases h with rfl | rfl <;> decide
       · exact hex _ e h)
theorem reprText_ch {x : Str} (h : chOk x) : chOk (reprText x) := by
  have hq : reprQuote x < 16 ^ 8 := by
    unfold reprQuote
    split <;> decide
  have go : ∀ (l : List Nat) (acc : Array Nat), (∀ c ∈ l, c < 16 ^ 8) → (∀ c ∈ acc.toList, c < 16 ^ 8) → ∀ c ∈ (l.foldl (fun out c => out ++ (reprChar (reprQuote x) c).toArray) acc).toList, c < 16 ^ 8 := by
    intro l
    induction l with
    | nil => intro acc _ h; exact h
    | cons d r ih =>
      intro acc h1 h2
      refine ih _ (fun c hc => h1 c (List.mem_cons_of_mem _ hc)) fun c hc => ?_
      rw [Array.toList_append, List.toList_toArray] at hc
      rcases List.mem_append.mp hc with q | q
      · exact h2 c q
      · exact reprChar_ch _ d hq (h1 d List.mem_cons_self) c q
  intro c hc
  have e : (reprText x).cps.toList = (x.cps.foldl (fun out c => out ++ (reprChar (reprQuote x) c).toArray) #[reprQuote x]).toList ++ [reprQuote x] := by
    show ((x.cps.foldl (fun out c => out ++ (reprChar (reprQuote x) c).toArray) #[reprQuote x]).push (reprQuote x)).toList = _
    rw [Array.toList_push]
  rw [e, ← Array.foldl_toList] at hc
  rcases List.mem_append.mp hc with q | q
  · exact go _ _ h (fun c hc => by simp only [List.mem_cons, List.not_mem_nil, or_false] at hc; subst hc; exact hq) c q
  · simp only [List.mem_cons, List.not_mem_nil, or_false] at q
    subst q
    exact hq
theorem listText_ch {ts : List Str} (h : ∀ t ∈ ts, chOk t) : chOk (listText ts) := by
  rw [listText_eq_join]
  exact ((chOk.lit _).append (chOk.join (chOk.lit _) h)).append (chOk.lit _)
theorem tupleText_ch {ts : List Str} (h : ∀ t ∈ ts, chOk t) : chOk (tupleText ts) := by
  unfold tupleText
  exact ((chOk.lit _).append (chOk.join (chOk.lit _) h)).append (chOk.lit _)
theorem dictText_ch {ts : List Str} (h : ∀ t ∈ ts, chOk t) : chOk (dictText ts) := by
  unfold dictText
  exact ((chOk.lit _).append (chOk.join (chOk.lit _) h)).append (chOk.lit _)
mutual
theorem shown_ch {B : Nat} : ∀ d : PyData, d.leavesShort B = true → chOk d.shown
  | .none, _ => chOk.lit _
  | .bool b, _ => by cases b <;> exact chOk.lit _
  | .int i, _ => chOk.lit _
  | .str x, h => by
    refine reprText_ch fun c hc => ?_
    have h' : (x.cps.toList.all fun c => decide (c < 16 ^ 8)) = true := by simpa only [PyData.leavesShort] using h
    exact of_decide_eq_true (List.all_eq_true.mp h' c hc)
  | .list xs, h => listText_ch (shownAll_ch xs (by simpa only [PyData.leavesShort] using h))
  | .tuple xs, h => tupleText_ch (shownAll_ch xs (by simpa only [PyData.leavesShort] using h))
  | .dict kvs, h => dictText_ch (shownKv_ch kvs (by simpa only [PyData.leavesShort] using h))
theorem shownAll_ch {B : Nat} : ∀ xs : List PyData, PyData.leavesShortAll B xs = true → ∀ t ∈ PyData.shownAll xs, chOk t
  | [], _, t, ht => by cases ht
  | x :: xs, h, t, ht => by
    have h' : x.leavesShort B = true ∧ PyData.leavesShortAll B xs = true := by simpa only [PyData.leavesShortAll, Bool.and_eq_true] using h
    rcases List.mem_cons.mp ht with rfl | ht
    · exact shown_ch x h'.1
    · exact shownAll_ch xs h'.2 t ht
theorem shownKv_ch {B : Nat} : ∀ xs : List (PyData × PyData), PyData.leavesShortKv B xs = true → ∀ t ∈ PyData.shownKv xs, chOk t
  | [], _, t, ht => by cases ht
  | (k, v) :: xs, h, t, ht => by
    have h' : (k.leavesShort B = true ∧ v.leavesShort B = true) ∧ PyData.leavesShortKv B xs = true := by simpa only [PyData.leavesShortKv, Bool.and_eq_true] using h
    rcases List.mem_cons.mp ht with rfl | ht
    · exact ((shown_ch k h'.1.1).append (chOk.lit _)).append (shown_ch v h'.1.2)
    · exact shownKv_ch xs h'.2 t ht
end
/-- n: its text is no longer; k: its depth -/
structure Tm (n k : Nat) (d : PyData) : Prop where
  l : d.leavesShort 600 = true
  s : d.showable = true
  dp : d.depth ≤ k
  n : d.shown.length ≤ n
theorem Tm.mono {n k n' k' : Nat} {d : PyData} (h : Tm n k d) (a : n ≤ n') (b : k ≤ k') : Tm n' k' d := ⟨h.l, h.s, Nat.le_trans h.dp b, Nat.le_trans h.n a⟩
theorem Tm.none {n k : Nat} (h : 4 ≤ n := by decide) : Tm n k .none := ⟨rfl, rfl, Nat.zero_le _, h⟩
theorem Tm.bool {n k : Nat} {b : Bool} (h : 5 ≤ n := by decide) : Tm n k (.bool b) := ⟨rfl, rfl, Nat.zero_le _, by cases b <;> exact Nat.le_trans (by decide) h⟩
def NumOk (i : Int) : Prop := i.natAbs < 10 ^ 79
/-- an int below 2 ^ n -/
def Sz (n : Nat) (i : Int) : Prop := i.natAbs < 2 ^ n
theorem two_ten (m : Nat) : 2 ^ m < 10 ^ (m / 3 + 1) := by
  have h1 : m = 3 * (m / 3) + m % 3 := (Nat.div_add_mod m 3).symm
  have h2 : m % 3 < 3 := Nat.mod_lt _ (by decide)
  have h3 : (2 : Nat) ^ m ≤ 8 ^ (m / 3) * 4 := by
    have e : (2 : Nat) ^ m = 2 ^ (3 * (m / 3)) * 2 ^ (m % 3) := by
      rw [← Nat.pow_add]
      exact congrArg (2 ^ ·) h1
    rw [e, Nat.pow_mul]
    refine Nat.mul_le_mul (Nat.le_refl _) ?_
    have : m % 3 = 0 ∨ m % 3 = 1 ∨ m % 3 = 2 := by omega
    rcases this with q | q | q <;> rw [q] <;> decide
  have h4 : (8 : Nat) ^ (m / 3) ≤ 10 ^ (m / 3) := Nat.pow_le_pow_left (by decide) _
  have h5 : 0 < (10 : Nat) ^ (m / 3) := Nat.pow_pos (by decide)
  rw [Nat.pow_succ]
  omega
theorem Tm.sz {m n k : Nat} {i : Int} (g : Sz m i) (hm : m ≤ 1700 := by decide) (h : m / 3 + 2 ≤ n := by decide) : Tm n k (.int i) := by
  have e : (PyData.shown (.int i)).length ≤ m / 3 + 2 := by
    show (Str.ofString (toString i)).length ≤ _
    rw [PySem.ofString_length]
    exact int_text_length_le10 (k := m / 3 + 1) (Nat.succ_pos _) (Nat.lt_trans g (two_ten m))
  refine ⟨decide_eq_true (by omega), decide_eq_true ?_, Nat.zero_le _, Nat.le_trans e h⟩
  have g2 : i.natAbs < 2 ^ 1900 := Nat.lt_of_lt_of_le g (Nat.pow_le_pow_right (by decide) (by omega))
  exact Nat.lt_trans (PySem.Flt.log2_lt_of (by decide) g2) (by decide)
theorem Tm.int {n k : Nat} {i : Int} (g : NumOk i) (h : 80 ≤ n := by decide) : Tm n k (.int i) := by
  have e : (PyData.shown (.int i)).length ≤ 80 := by
    show (Str.ofString (toString i)).length ≤ 80
    rw [PySem.ofString_length]
    exact int_text_length_le10 (k := 79) (by decide) g
  refine ⟨decide_eq_true (by omega), decide_eq_true ?_, Nat.zero_le _, Nat.le_trans e h⟩
  have g2 : i.natAbs < 2 ^ 1000 := Nat.lt_trans g (by decide +kernel)
  exact Nat.lt_trans (PySem.Flt.log2_lt_of (by decide) g2) (by decide)
theorem Tm.str {n k : Nat} {x : Str} (g : chOk x) (h : 10 * x.length + 2 ≤ n) : Tm n k (.str x) := by
  refine ⟨?_, rfl, Nat.zero_le _, Nat.le_trans (StrLaws.reprText_len x g) h⟩
  show (x.cps.toList.all fun c => decide (c < 16 ^ 8)) = true
  exact List.all_eq_true.mpr fun c hc => decide_eq_true (g c hc)
theorem Tm.all {n k : Nat} : ∀ {xs : List PyData}, (∀ x ∈ xs, Tm n k x) → PyData.leavesShortAll 600 xs = true ∧ PyData.showableAll xs = true ∧ PyData.depthAll xs ≤ k ∧ ((PyData.shownAll xs).map (·.length)).sum ≤ xs.length * n ∧ (PyData.shownAll xs).length = xs.length
  | [], _ => ⟨rfl, rfl, Nat.zero_le _, Nat.zero_le _, rfl⟩
  | x :: xs, h => by
    have h0 := h x List.mem_cons_self
    obtain ⟨h1, h2, h3, h4, h5⟩ := Tm.all (xs := xs) fun y hy => h y (List.mem_cons_of_mem _ hy)
    refine ⟨?_, ?_, ?_, ?_, ?_⟩
    · simp only [PyData.leavesShortAll, h0.l, h1, Bool.and_self]
    · simp only [PyData.showableAll, h0.s, h2, Bool.and_self]
    · exact Nat.max_le.mpr ⟨h0.dp, h3⟩
    · simp only [PyData.shownAll, List.map_cons, List.sum_cons, List.length_cons]
      have e : (xs.length + 1) * n = xs.length * n + n := Nat.succ_mul ..
      have := h0.n
      omega
    · simp only [PyData.shownAll, List.length_cons, h5]
theorem Tm.lst {n k c : Nat} {xs : List PyData} (h : ∀ x ∈ xs, Tm n k x) (hc : xs.length ≤ c) {n' k' : Nat} (hn : c * n + 2 * c + 3 ≤ n' := by decide) (hk : k + 1 ≤ k' := by decide) : Tm n' k' (.list xs) := by
  obtain ⟨h1, h2, h3, h4, h5⟩ := Tm.all h
  refine ⟨h1, h2, Nat.le_trans (Nat.add_le_add_right h3 1) hk, Nat.le_trans ?_ hn⟩
  have := listText_len_le (PyData.shownAll xs)
  have e : xs.length * n ≤ c * n := Nat.mul_le_mul_right _ hc
  show (listText (PyData.shownAll xs)).length ≤ _
  omega
theorem Tm.tup {n k c : Nat} {xs : List PyData} (h : ∀ x ∈ xs, Tm n k x) (hc : xs.length ≤ c) {n' k' : Nat} (hn : c * n + 2 * c + 3 ≤ n' := by decide) (hk : k + 1 ≤ k' := by decide) : Tm n' k' (.tuple xs) := by
  obtain ⟨h1, h2, h3, h4, h5⟩ := Tm.all h
  refine ⟨h1, h2, Nat.le_trans (Nat.add_le_add_right h3 1) hk, Nat.le_trans ?_ hn⟩
  have := tupleText_len_le (PyData.shownAll xs)
  have e : xs.length * n ≤ c * n := Nat.mul_le_mul_right _ hc
  show (tupleText (PyData.shownAll xs)).length ≤ _
  omega
theorem Tm.dic0 {n k : Nat} (h : 3 ≤ n := by decide) (hk : 1 ≤ k := by decide) : Tm n k (.dict []) := ⟨rfl, rfl, hk, Nat.le_trans (dictText_len_le []) h⟩
theorem Tm.dic1 {n k : Nat} {a d : PyData} (ha : Tm n k a) (h : Tm n k d) {n' k' : Nat} (hn : 2 * n + 10 ≤ n' := by decide) (hk : k + 1 ≤ k' := by decide) : Tm n' k' (.dict [(a, d)]) := by
  refine ⟨?_, ?_, ?_, Nat.le_trans ?_ hn⟩
  · simp only [PyData.leavesShort, PyData.leavesShortKv, ha.l, h.l, Bool.and_self]
  · simp only [PyData.showable, PyData.showableKv, ha.s, h.s, Bool.and_self]
  · have e1 := ha.dp
    have e2 := h.dp
    simp only [PyData.depth, PyData.depthKv]
    omega
  · have := dictText_len_le (PyData.shownKv [(a, d)])
    have e : (a.shown ++ ": " ++ d.shown).length = a.shown.length + 2 + d.shown.length := by
      rw [strLen_append, strLen_append]; rfl
    simp only [PyData.shownKv, List.map_cons, List.map_nil, List.sum_cons, List.sum_nil, List.length_cons, List.length_nil, e] at this
    have e1 := ha.n
    have e2 := h.n
    have e3 : (PyData.dict [(a, d)]).shown.length = (dictText [a.shown ++ Str.ofString ": " ++ d.shown]).length := rfl
    rw [e3]
    omega
theorem Tm.ok {n k : Nat} {d : PyData} (h : Tm n k d) (hn : n ≤ 16777216) (hk : k ≤ 60) : showOk d := ⟨h.s, Nat.le_trans h.dp hk, by rw [sizeLine_eq]; exact Nat.le_trans h.n hn⟩
theorem Tm.ch {n k : Nat} {d : PyData} (h : Tm n k d) : chOk d.shown := shown_ch d h.l
/-- the text of a shown thing, shown -/
theorem Tm.text {n k : Nat} {d : PyData} (h : Tm n k d) {n' : Nat} (hn : 10 * n + 2 ≤ n') {k' : Nat} : Tm n' k' (.str d.shown) := Tm.str h.ch (by have := h.n; omega)
theorem Tm.lit {n k : Nat} (s : String) (h : 10 * (Str.ofString s).length + 2 ≤ n := by decide) : Tm n k (.str (Str.ofString s)) := Tm.str (chOk.lit s) h
theorem Tm.mem {n k : Nat} {xs : List PyData} (h : Tm n k (.tuple xs)) {x : PyData} (hx : x ∈ xs) : Tm n k x := by
  have go : ∀ {ys : List PyData}, x ∈ ys → PyData.leavesShortAll 600 ys = true → PyData.showableAll ys = true → x.leavesShort 600 = true ∧ x.showable = true ∧ x.depth ≤ PyData.depthAll ys ∧ x.shown ∈ PyData.shownAll ys := by
    intro ys
    induction ys with
    | nil => intro h; cases h
    | cons y r ih =>
      intro hm h1 h2
      simp only [PyData.leavesShortAll, Bool.and_eq_true] at h1
      simp only [PyData.showableAll, Bool.and_eq_true] at h2
      rcases List.mem_cons.mp hm with rfl | hm
      · exact ⟨h1.1, h2.1, Nat.le_max_left _ _, List.mem_cons_self⟩
      · obtain ⟨q1, q2, q3, q4⟩ := ih hm h1.2 h2.2
        exact ⟨q1, q2, Nat.le_trans q3 (Nat.le_max_right _ _), List.mem_cons_of_mem _ q4⟩
  obtain ⟨q1, q2, q3, q4⟩ := go hx h.l h.s
  refine ⟨q1, q2, Nat.le_trans q3 (Nat.le_trans (Nat.le_succ _) h.dp), Nat.le_trans ?_ h.n⟩
  have memLen : ∀ (ts : List Str), x.shown ∈ ts → x.shown.length ≤ (Str.join ", " ts).length := by
    intro ts
    induction ts with
    | nil => intro h; cases h
    | cons t r ih =>
      intro hm
      cases r with
      | nil =>
        simp only [List.mem_cons, List.not_mem_nil, or_false] at hm
        rw [hm]
        exact Nat.le_refl _
      | cons u r =>
        show _ ≤ (t ++ ", " ++ Str.join ", " (u :: r)).length
        rw [strLen_append, strLen_append]
        rcases List.mem_cons.mp hm with e | hm
        · rw [e]; omega
        · have := ih hm
          omega
  show x.shown.length ≤ (tupleText (PyData.shownAll xs)).length
  unfold tupleText
  rw [strLen_append, strLen_append]
  have := memLen _ q4
  omega
end HA

namespace HA
open PySem PySem.Spec PyProof.Rows L2

/-! ### a module's own constants -/
/-- the name stands for the datum, whatever else stands in the heap -/
def GV (K : PySem.W.Frag) (mg : Str → Option Value) (x : Str) (d : PyData) : Prop := ∃ (u : Value) (v : V), mg x = some u ∧ RelV v u ∧ ∀ F, Rp K F v d
theorem GV.int {K : PySem.W.Frag} {mg : Str → Option Value} {x : Str} {i : Int} {t : Tok} (h : mg x = some (.int i t)) : GV K mg x (.int i) := ⟨_, .int i, h, ⟨t, rfl⟩, fun _ => .int i⟩
theorem GV.str {K : PySem.W.Frag} {mg : Str → Option Value} {x z : Str} {t : Tok} (h : mg x = some (.str z t)) : GV K mg x (.str z) := ⟨_, .str z, h, ⟨t, rfl⟩, fun _ => .str z⟩
/-- a tuple of texts, or of numbers -/
theorem GV.tup {K : PySem.W.Frag} {mg : Str → Option Value} {x : Str} {a : Addr} {o : Obj} {its : Array Value} {n : Nat} {vs : List V} {ds : List PyData} (h : mg x = some (.ref a)) (hk : K.lookup a = some o) (hc : o.cls = .type "tuple") (hd : o.data = .seq its n) (hz : its.size ≤ sizeLine)
    (hv : Vals vs its.toList) (hr : ∀ F, RpAll K F vs ds) : GV K mg x (.tuple ds) := ⟨_, .ref a, h, rfl, fun F => .tup (.inr ⟨o, its, n, hk, hc, hd, hz, hv⟩) (hr F)⟩
section
variable {bk : BoxKind} {X : Cx} {W : WX} {k : Nat} {pos p : Pos} {e : Expr} {t : TD}
theorem q_glob {x : Str} {d : PyData} (h : GV X.K X.mg x d) (hg : Gl X x := by rfl) (hd : (x == ("__debug__" : Str)) = false := by decide) : PD bk X W (.Name x pos) (tConD d) := by
  obtain ⟨u, v, hm, r, h⟩ := h
  exact pd_glob hg hm r h hd
end

/-! ### sorted -/
def gSorted : GB
  | [.list xs], Q => PySem.W.AllAlike xs ∧ PySem.W.Sortable xs ∧ (∀ x ∈ xs, x.depth ≤ 60) ∧ Q (.own (.lst (xs.mergeSort (PySem.W.dataLe false id))))
  | _, _ => False
theorem valsRead {X : Cx} {pins : List (Addr × Obj)} {σ : Sg} {H F : Hp} {s : Shared} (I : Inv X pins σ H s) (e : Same F H) : ∀ {ds : List PyData} {vs : List V} {us : List Value}, RpAll X.K F vs ds → Vals vs us →
    PySem.W.EachIs (fun u (d : PyData) => (∃ v, RelV v u ∧ Rp X.K F v d) ∧ ∃ as, Reads s.heap u d as) us ds
  | [], _, _, h, r => by cases h; cases r; exact .nil
  | d :: ds, _, _, h, r => by
    cases h with
    | cons h1 h2 =>
      cases r with
      | cons r1 r2 => exact .cons ⟨⟨_, r1, h1⟩, Rp.reads I d _ _ (h1.mono e) r1⟩ (valsRead I e h2 r2)
theorem each_back {K : PySem.W.Frag} {F : Hp} : ∀ {ds : List PyData} {us : List Value}, PySem.W.EachIs (fun u (d : PyData) => ∃ v, RelV v u ∧ Rp K F v d) us ds → ∃ vs, Vals vs us ∧ RpAll K F vs ds
  | [], _, h => by cases h; exact ⟨[], .nil, .nil⟩
  | d :: ds, _, h => by
    cases h with
    | cons h1 h2 =>
      obtain ⟨v, r, p⟩ := h1
      obtain ⟨vs, rs, ps⟩ := each_back h2
      exact ⟨v :: vs, .cons r rs, .cons p ps⟩
section
variable {bk : BoxKind} {X : Cx} {W : WX} {k : Nat} {pos p : Pos} {e : Expr} {t : TD}
theorem cd_sorted (hr : Room k X.A) : CallD bk X (.builtin "sorted") gSorted := by
  intro pins s σ H vs us Q I r h
  obtain ⟨S, xs, Qd, ok, rx, con, g⟩ := h
  unfold gSorted at g
  split at g
  · rename_i xs
    obtain ⟨g1, g2, g3, g⟩ := g
    obtain ⟨v, rfl, h1⟩ := paired1 rx
    obtain ⟨a, ws, rfl, hl, ha⟩ := h1.list ok
    obtain ⟨u, rfl, ru⟩ : ∃ u, us = [u] ∧ RelV (.ref a) u := by
      cases r with
      | cons r1 r2 => cases r2; exact ⟨_, rfl, r1⟩
    cases ru
    obtain ⟨its, rv, pl, hz⟩ := I.list hl
    have er := valsRead I ok.sub ha rv
    have hlen : xs.length ≤ sizeLine := by rw [← ha.length]; exact hz
    have e1 : PySem.W.EachIs (fun u (d : PyData) => ∃ v, RelV v u ∧ Rp X.K S.F v d) its xs := er.mono fun _ _ h => h.1
    have e2 : PySem.W.EachIs (fun u (d : PyData) => ∃ as, Reads s.heap u (id d) as) its xs := er.mono fun _ _ h => h.2
    have hu := hr.un
    refine PySem.W.sorted_data (enc := id) (R := fun u (d : PyData) => ∃ v, RelV v u ∧ Rp X.K S.F v d) pl.isList e1 e2 (by rw [List.map_id]; exact g1) (by rw [List.map_id]; exact g2) hlen (fun b hb => by have := g3 b hb; show X.A.units + 2 + b.depth < cLine; omega) fun out ho eo => ?_
    obtain ⟨zs, z1, z2⟩ := each_back eo
    obtain ⟨ep, he'⟩ := PyProof.Rows.sortedAll_at s.heap its out.toArray
    have hlz : zs.length ≤ sizeLine := by
      have := z1.length
      omega
    refine ⟨.ref _, upd H (s.heap.objs.size + 1) (.lst zs), I.laid (t' := s.toks) (fun _ _ => PyProof.Rows.sortedAll_old) (Nat.le_succ _) ⟨hlz, out, ep, z1, he'⟩, rfl, ?_⟩
    exact con.lst ok g z2 _ (I.hok.fresh (Nat.le_succ _))
  · exact g.elim
theorem q_sorted (xb : XB X W k) (hm : X.mg "sorted" = none) (h : PD bk X W e t) (hg : Gl X "sorted" := by rfl) (he : St1 X e [] := by rfl) : PD bk X W (.Call (.Name "sorted" p) [e] [] pos) (tCallB gSorted (tConsU t tNilU)) :=
  pd_callB (cd_sorted xb.room) hg hm (by decide +kernel) (pdu_cons h pdu_nil he) (by decide) (by decide) he rfl
end
end HA

namespace HA
open PySem PySem.Spec PyProof.Rows L2

/-! ### a list or a tuple (b: a tuple) -/
def SqB (K : PySem.W.Frag) (b : Bool) (H : Hp) (a : Addr) (xs : List V) : Prop := match b with
  | false => SqL K H a xs
  | true => SqT K H a xs
def ItB (b : Bool) (h : Heap) (it a : Addr) (i : Nat) : Prop := match b with
  | false => h.IsListIter it a i
  | true => h.IsTupleIter it a i
def SeB (b : Bool) (h : Heap) (a : Addr) (xs : Array Value) : Prop := match b with
  | false => h.IsList a xs
  | true => h.IsTuple a xs
def itO (b : Bool) (a : Addr) : Obj := match b with
  | false => { cls := .type "list_iterator", data := .fields #[.ref a, .int 0 0] }
  | true => { cls := .type "tuple_iterator", data := .fields #[.ref a, .int 0 0] }
theorem drawsB (b : Bool) {prog : Program} {w : World} {A : Around} (hh : A.handled = none) (it a : Addr) (hne : a ≠ it) (its : Array Value) :
    Draws prog w A it [it, a] its.size (fun i v => its[i]? = some v) (fun i h => ItB b h it a i ∧ SeB b h a its) := by
  cases b with
  | false => exact .list hh it a hne its
  | true => exact .tuple hh it a hne its
theorem beginsB (b : Bool) (a : Addr) (its : Array Value) : Begins (.ref a) (itO b a) (fun h => SeB b h a its) := by
  cases b with
  | false => exact begins_list a its
  | true => exact begins_tuple a its
theorem ItB.at0 {b : Bool} {h : Heap} {it a : Addr} (e : h.get? it = some (itO b a)) : ItB b h it a 0 := by
  cases b with
  | false => exact ⟨_, e, rfl, rfl⟩
  | true => exact ⟨_, e, rfl, rfl⟩
theorem ItB.at_ {b : Bool} {h h' : Heap} {it a : Addr} {i : Nat} (x : ItB b h it a i) (k : ∀ o, h.get? it = some o → h'.get? it = some o) : ItB b h' it a i := by
  cases b with
  | false => exact Heap.IsListIter.at x k
  | true => exact Heap.IsTupleIter.at x k
theorem SeB.at_ {b : Bool} {h h' : Heap} {a : Addr} {xs : Array Value} (x : SeB b h a xs) (k : ∀ o, h.get? a = some o → h'.get? a = some o) : SeB b h' a xs := by
  cases b with
  | false => exact Heap.IsList.at x k
  | true => exact Heap.IsTuple.at x k
theorem ItB.obj {b : Bool} {h : Heap} {it a : Addr} {i : Nat} (x : ItB b h it a i) : ∃ o, h.get? it = some o ∧ ∀ v, o.data ≠ .cell v := by
  cases b with
  | false => obtain ⟨o, e, c, d⟩ := x; exact ⟨o, e, fun v z => by rw [d] at z; cases z⟩
  | true => obtain ⟨o, e, c, d⟩ := x; exact ⟨o, e, fun v z => by rw [d] at z; cases z⟩
theorem SeB.ne {b : Bool} {h : Heap} {a e : Addr} {xs : Array Value} {o : Obj} {vs : Array Value} (x : SeB b h a xs) (he : h.get? e = some o) (hd : o.data = .fields vs) : a ≠ e := fun z => by
  subst z
  cases b with
  | false => obtain ⟨o', e', c, n, d⟩ := x; rw [he] at e'; cases e'; rw [hd] at d; cases d
  | true => obtain ⟨o', e', c, n, d⟩ := x; rw [he] at e'; cases e'; rw [hd] at d; cases d
theorem SeB.neIt {b b' : Bool} {h : Heap} {a a' it : Addr} {i : Nat} {xs : Array Value} (x : SeB b h a xs) (y : ItB b' h it a' i) : a ≠ it := by
  cases b' with
  | false => obtain ⟨o, e, c, d⟩ := y; exact x.ne e d
  | true => obtain ⟨o, e, c, d⟩ := y; exact x.ne e d
section
variable {X : Cx} {pins : List (Addr × Obj)} {σ : Sg} {H : Hp} {s : Shared}
theorem seqB {b : Bool} {a : Addr} {xs : List V} (I : Inv X pins σ H s) (h : SqB X.K b H a xs) : ∃ its, Paired RelV xs its ∧ SeB b s.heap a its.toArray := by
  cases b with
  | false => obtain ⟨its, rv, p, _⟩ := I.list h; exact ⟨its, rv, p.isList⟩
  | true => obtain ⟨its, rv, p, _⟩ := I.tuple h; exact ⟨its, rv, p⟩
theorem injB {b : Bool} {a : Addr} {xs ys : List V} (I : Inv X pins σ H s) (h : SqB X.K b H a xs) (h2 : SqB X.K b H a ys) : xs = ys := by
  cases b with
  | false => exact I.list_inj h h2
  | true => exact I.tuple_inj h h2
end

/-! ### enumerate(a list, a tuple) -/
def IteB (K : PySem.W.Frag) (b : Bool) (a : Addr) : It :=
  ⟨fun i H => ∃ (xs : List V) (x : V), SqB K b H a xs ∧ xs[i]? = some x, fun i H v H' => ∃ T x, v = .ref T ∧ H T = none ∧ H' = upd H T (.tup [.int (i : Nat), x]) ∧ ∀ xs, SqB K b H a xs → xs[i]? = some x, fun i H => ∃ xs : List V, SqB K b H a xs ∧ i = xs.length⟩
theorem turn_enumB {P : Program} {w : World} {K : PySem.W.Frag} {elts : List Expr} {kk : Nat} {tpos : Pos} (b : Bool) (a e it : Addr) :
    Turn P w K (.Tuple elts kk tpos) (IteB K b a) [e, it] e (fun i h => (∃ old, IsEnum h e it (0 + ((i : Nat) : Int)) old) ∧ ItB b h it a i ∧ e ≠ it) where
  mem := by simp
  obj := fun i h st c hc => by
    obtain ⟨⟨old, he⟩, hi, _⟩ := st
    have e' : c = e ∨ c = it := by simpa using hc
    rcases e' with z | z
    · rw [z]; exact ⟨_, he, fun v q => nomatch q⟩
    · rw [z]; exact hi.obj
  keep := fun i h h' st k => let ⟨⟨old, he⟩, hi, hne⟩ := st; ⟨⟨old, k e (by simp) _ he⟩, hi.at_ fun o q => k it (by simp) o q, hne⟩
  item := by
    intro X hP hw hK hc i pins s σ H E I hf st hg
    subst hP hw hK
    obtain ⟨⟨old, he⟩, hit, hne⟩ := st
    obtain ⟨xs, x, hq, hx⟩ := hg
    obtain ⟨its, rv, p⟩ := seqB I hq
    obtain ⟨u, hu, ru⟩ := paired_get rv hx
    have hae : a ≠ e := p.ne he rfl
    have hai : a ≠ it := p.neIt hit
    have W := WalksT.enumFrom (A := X.A) 0 (drawsB b (prog := X.prog) (w := X.w) (A := X.A.in1) (I.ok.hd hc) it a hai its.toArray) e hne (by simp [hne, hae.symm]) (by simp)
    have hi : i < its.toArray.size := by
      have := (List.getElem?_eq_some_iff.mp hu).1
      simpa using this
    refine W.item i s _ E hi ⟨⟨old, he⟩, hit, p⟩ fun T vals h' tk hP hle hT hM hk => ?_
    obtain ⟨t, v, hv, rfl⟩ := hP
    have ev : v = u := by
      have : its[i]? = some v := by simpa using hv
      rw [hu] at this; cases this; rfl
    subst ev
    refine ⟨_, rfl, W.go elts kk tpos i T { s with heap := h', toks := tk } _ E hM fun h2 st2 hk2 => ?_⟩
    have hT2 : h2.IsTuple T #[.int (0 + (i : Int)) t, v] := hT.at fun o q => hk2 T o (W.apart i T h' hM) q
    have new : ObjOk X.prog X.w (upd H T (.tup [.int (i : Nat), x])) h2 T (.tup [.int (i : Nat), x]) :=
      ⟨by show 2 ≤ sizeLine; decide, [.int (0 + (i : Int)) t, v], .cons ⟨_, by rw [Int.zero_add]⟩ (.cons ru .nil), hT2⟩
    have I1 : Inv X pins σ (upd H T (.tup [.int (i : Nat), x])) { s with heap := h2, toks := tk } :=
      I.turnedNew (ch := [e, it]) (fun c o hb q => hk2 c o hb (hk c o hb q)) hf hle new
    refine ⟨.ref T, _, I1, rfl, ⟨T, x, rfl, I.hok.fresh hle, rfl, fun ys hy => by rw [injB I hy hq]; exact hx⟩, ⟨st2.1, st2.2.1, hne⟩, fun c hb => ?_⟩
    rw [upd_ne]
    · exact (hf c hb).1
    · intro z
      subst z
      exact W.apart i _ h' hM hb
  done := by
    intro X hP hw hK hc i pins s σ H E I hf st hg
    subst hP hw hK
    obtain ⟨⟨old, he⟩, hit, hne⟩ := st
    obtain ⟨xs, hq, hx⟩ := hg
    obtain ⟨its, rv, p⟩ := seqB I hq
    have hae : a ≠ e := p.ne he rfl
    have hai : a ≠ it := p.neIt hit
    have W := WalksT.enumFrom (A := X.A) 0 (drawsB b (prog := X.prog) (w := X.w) (A := X.A.in1) (I.ok.hd hc) it a hai its.toArray) e hne (by simp [hne, hae.symm]) (by simp)
    have hi : i = its.toArray.size := by rw [hx, rv.length]; simp
    subst hi
    refine W.done s _ E ⟨⟨old, he⟩, hit, p⟩ fun h' tk hk => ⟨rfl, I.turnedL (t' := tk) (ch := [e, it]) hk hf⟩
  self := fun A i s Q E st h => let ⟨⟨_, he⟩, _⟩ := st; wpAny_pyIter_enum he h

/-! enumerate(v) begins: v told by what iter(v) does -/
structure BeginsG (v : Value) (f : Heap → Heap) (it : Heap → Addr) (H : Heap → Prop) : Prop where
  iter : ∀ (prog : Program) (w : World) (A : Around) (E : Value → Shared → Prop) (s : Shared) (Q : Value → Shared → Prop), H s.heap → Q (.ref (it s.heap)) { s with heap := f s.heap } → wpAny (model prog w) A (pyIter v) Q E s
theorem begG {v : Value} {o : Obj} {H : Heap → Prop} (B : Begins v o H) : BeginsG v (fun h => h.push o) (fun h => h.objs.size) H := ⟨fun prog w A E s Q h q => B.iter prog w A E s Q h q⟩
def enO (it : Addr) : Obj := { cls := .type "enumerate", data := .fields #[.none, .bool false, .ref it, rawInt 0, .none, .none] }
theorem meets_enumerate_newG {v : Value} {f : Heap → Heap} {it : Heap → Addr} {H : Heap → Prop} (B : BeginsG v f it H) :
    Meets (Builtin.«enumerate.__new__» ⟨[.type "enumerate", v], []⟩) (fun _ R s => H s.heap ∧
      R (.ok (.ret (.ref (f s.heap).objs.size))) { s with heap := (f s.heap).push (enO (it s.heap)) }) :=
  .of_wp fun prog w A R s h => by
    obtain ⟨hp, g, d, tk, os⟩ := s; obtain ⟨h1, h⟩ := h
    have hsub := sub_enumerate
    have q1 : ∀ {A' : Around} {E : Value → Shared → Prop} {Q : Value → Shared → Prop}, Q (.ref (it hp)) ⟨f hp, g, d, tk, os⟩ → wpAny (model prog w) A' (pyIter v) Q E ⟨hp, g, d, tk, os⟩ :=
      fun q => B.iter prog w _ _ ⟨hp, g, d, tk, os⟩ _ h1 q
    wp_walk using q1
    refine wpAny_stack_any fun st => wpAny_pure ?_
    split
    · rename_i c _ _ _ _ _
      cases (c == Value.type "enumerate")
      · wp_walk using q1
        exact ⟨_, rfl, h⟩
      · wp_walk using q1
        exact ⟨_, rfl, h⟩
    · wp_walk using q1
      exact ⟨_, rfl, h⟩
theorem call_enumG {prog : Program} {w : World} {A : Around} {E : Value → Shared → Prop} {s : Shared} {v : Value} {f : Heap → Heap} {it : Heap → Addr} {H : Heap → Prop} {Q : Value → Shared → Prop} (B : BeginsG v f it H) (h1 : H s.heap)
    (h : Q (.ref (f s.heap).objs.size) { s with heap := (f s.heap).push (enO (it s.heap)) }) : wpAny (model prog w) A (call (.type "enumerate") [v]) Q E s := by
  refine callType_new F.called_enumerate (by decide) (F.typeCall_enumerate_1 _) (F.newCall_enumerate_1 _) (fun obj => F.args_object_init_2 obj _) F.entry_enumerate_new
    (meets_enumerate_newG B) ⟨h1, ?_⟩
  exact ⟨⟨_, Heap.get?_push_size _ rfl, rfl⟩, h⟩
def iEnumB (K : PySem.W.Frag) (ta : TA) : TI := fun σ H R => ta σ H fun vs H1 => ∃ a b xs, vs = [.ref a] ∧ SqB K b H1 a xs ∧ R (IteB K b a) H1
theorem pi_enumB {X : Cx} {e : Expr} {ta : TA} {p pos tpos : Pos} {elts : List Expr} {kk : Nat} (hg : Gl X "enumerate") (hm : X.mg "enumerate" = none) (ha : PA X [e] ta) (hs : starEach [e] X.env = [(false, eval e X.env)] := by rfl) :
    PI X (.Tuple elts kk tpos) (.Call (.Name "enumerate" p) [e] [] pos) (iEnumB X.K ta) := by
  refine ⟨fun pins s σ H R I h => ?_⟩
  refine Call_ (ld_blt I hg hm boot_enumerate (PyProof.Rows.callWith_type1 (thn (ha.run pos pins s σ H _ I h) fun us s1 ⟨vs, H1, I1, r1, q1⟩ => ?_) hs rfl))
  obtain ⟨a, b, xs, ex, hq, q⟩ := q1
  subst ex
  cases r1 with
  | cons r rr =>
    cases rr
    cases r
    obtain ⟨its, rv, p'⟩ := seqB I1 hq
    refine call_enumG (begG (beginsB b a its.toArray)) p' (wpAny_pyIter_enum (Heap.get?_push_size _ rfl) ?_)
    have hz : (s1.heap.push (itO b a)).objs.size = s1.heap.objs.size + 1 := Heap.size_push ..
    have I2 : Inv X pins σ H1 { s1 with heap := (s1.heap.push (itO b a)).push (enO s1.heap.objs.size) } := I1.kept (t' := s1.toks) fun c o z => Heap.get?_push_of_some _ (Heap.get?_push_of_some _ z)
    rw [hz]
    refine ⟨s1.heap.objs.size + 1, [s1.heap.objs.size + 1, s1.heap.objs.size], _, _, H1, rfl, I2, turn_enumB b a (s1.heap.objs.size + 1) s1.heap.objs.size, ⟨⟨.none, ?_⟩, ?_, Nat.succ_ne_self _⟩, fun c hb => ?_, q⟩
    · have := Heap.get?_push_size (s1.heap.push (itO b a)) (o := enO s1.heap.objs.size) rfl
      rw [hz] at this; exact this
    · exact ItB.at0 (Heap.get?_push_of_some _ (Heap.get?_push_size _ (beginsB b a its.toArray).free))
    · have e' : c = s1.heap.objs.size + 1 ∨ c = s1.heap.objs.size := by simpa using hb
      have hle : s1.heap.objs.size ≤ c := by
        rcases e' with z | z
        · rw [z]; exact Nat.le_add_right _ _
        · rw [z]; exact Nat.le_refl _
      exact I1.fpOk hle (I1.hok.fresh hle)

/-! the readings -/
def enumF (k : Nat) : List PyData → List PyData
  | [] => []
  | x :: xs => .tuple [.int (k : Nat), x] :: enumF (k + 1) xs
theorem enumF_len : ∀ (k : Nat) (xs : List PyData), (enumF k xs).length = xs.length
  | _, [] => rfl
  | k, _ :: xs => by simp only [enumF, List.length_cons, enumF_len (k + 1) xs]
theorem enumF_get : ∀ {k i : Nat} {xs : List PyData} {v : PyData}, (enumF k xs)[i]? = some v → ∃ x, xs[i]? = some x ∧ v = .tuple [.int ((k + i : Nat) : Int), x]
  | _, _, [], _, h => by simp [enumF] at h
  | k, 0, x :: xs, v, h => by
    simp only [enumF, List.getElem?_cons_zero, Option.some.injEq] at h
    exact ⟨x, rfl, h.symm⟩
  | k, i + 1, x :: xs, v, h => by
    simp only [enumF, List.getElem?_cons_succ] at h
    obtain ⟨y, h1, h2⟩ := enumF_get h
    exact ⟨y, by simpa using h1, by rw [h2, show k + 1 + i = k + (i + 1) by omega]⟩
section
variable {bk : BoxKind} {X : Cx} {W : WX} {fz : Bool} {S : AS} {H : Hp} {tr : TDU} {e : Expr} {p pos tpos : Pos} {elts : List Expr} {kk : Nat}
/-- a list or a tuple at a, read while P holds -/
def SrcB (bk : BoxKind) (K : PySem.W.Frag) (P : AS → Hp → Prop) (b : Bool) (a : Addr) (xs : List PyData) : Prop := ∀ S H, P S H → ∃ vs, SqB K b H a vs ∧ RpAll K S.F vs xs ∧ AOk bk S H
theorem Src.srcB {v : V} {x : PyData} {k : List PyData → Prop} (ok : AOk bk S H) (h : Src bk X.K fz S H v x) (q : asSeq x k) : ∃ a b xs, v = .ref a ∧ k xs ∧ SrcB bk X.K (PFX bk fz S H) b a xs := by
  have h0 := h S H (PFX.self ok)
  cases x with
  | list xs =>
    obtain ⟨a, vs, rfl, h1, h2⟩ := h0.rr.list ok.sub
    refine ⟨a, false, xs, rfl, q, fun S3 H3 p => ?_⟩
    obtain ⟨b, vs, e, h1, h2⟩ := (h S3 H3 p).rr.list p.1.sub
    cases e
    exact ⟨vs, h1, h2, p.1⟩
  | tuple xs =>
    obtain ⟨a, vs, rfl, h1, h2⟩ := h0.rr.tuple
    refine ⟨a, true, xs, rfl, q, fun S3 H3 p => ?_⟩
    obtain ⟨b, vs, e, h1, h2⟩ := (h S3 H3 p).rr.tuple
    cases e
    exact ⟨vs, sqT_mono p.1.sub h1, h2, p.1⟩
  | _ => exact q.elim
/-- a new tuple -/
theorem Ext.tup2 (ok : AOk bk S H) {T : Addr} (hn : H T = none) {vs : List V} {xs : List PyData} (r : RpAll X.K S.F vs xs) : ∃ S', Ext bk S S' H (upd H T (.tup vs)) ∧ Rp X.K S'.F (.ref T) (.tuple xs) :=
  ⟨_, Ext.new ok hn, .tup (.inl (.inl upd_same)) (r.mono (Ext.new (o := .tup vs) ok hn).fz)⟩
theorem it_enumB {P : AS → Hp → Prop} {b : Bool} {a : Addr} {xs : List PyData} (h : SrcB bk X.K P b a xs) : ItD bk X.K P (IteB X.K b a) (enumF 0 xs) := by
  refine ⟨fun i S H p hi => ?_, fun i S H x v H' p hx y => ?_, fun i S H p hi => ?_⟩
  · obtain ⟨vs, h1, h2, ok⟩ := h S H p
    rw [enumF_len] at hi
    have : i < vs.length := by rw [h2.length]; exact hi
    exact ⟨vs, vs[i], h1, List.getElem?_eq_getElem this⟩
  · obtain ⟨vs, h1, h2, ok⟩ := h S H p
    obtain ⟨T, u, rfl, hn, rfl, y⟩ := y
    obtain ⟨x', hx', rfl⟩ := enumF_get hx
    obtain ⟨v', hv, rv⟩ := h2.getD hx'
    have := y vs h1
    rw [hv] at this
    cases this
    refine Ext.tup2 ok hn (.cons ?_ (.cons rv .nil))
    rw [Nat.zero_add]
    exact .int _
  · obtain ⟨vs, h1, h2, ok⟩ := h S H p
    exact ⟨vs, h1, by rw [hi, h2.length, enumF_len]⟩
def tEnumD (t : TDU) : TDI := fun env Q Ex => t env (fun xs => match xs with | [x] => asSeq x fun ys => Q (enumF 0 ys) | _ => False) Ex
theorem pid_enum (hg : Gl X "enumerate") (hm : X.mg "enumerate" = none) (ha : PDV bk X W fz [e] tr) (hs : starEach [e] X.env = [(false, eval e X.env)]) : PID bk X W fz (.Tuple elts kk tpos) (.Call (.Name "enumerate" p) [e] [] pos) (tEnumD tr) :=
  PI.imp (pi_enumB hg hm ha hs) fun σ H R q => by
    obtain ⟨S, env, Hz, Qd, Ex, ok, ab, ex, con, t⟩ := q
    refine ⟨S, env, Hz, _, Ex, ok, ab, ex, fun xs vs H1 S1 q1 e1 r1 => ?_, t⟩
    split at q1
    · obtain ⟨v, rfl, h1⟩ := paired1 r1
      obtain ⟨a, b, ys, rfl, q2, sb⟩ := h1.srcB e1.ok q1
      obtain ⟨ws, h2, _⟩ := sb S1 H1 (PFX.self e1.ok)
      exact ⟨a, b, ws, rfl, h2, con _ _ _ _ q2 e1 (it_enumB sb)⟩
    · exact q1.elim
end
end HA

namespace HA
open PySem PySem.Spec PyProof.Rows L2

/-! ### zip(.., ..) of lists, tuples -/
def ItzB (K : PySem.W.Frag) (b c : Bool) (a d : Addr) : It :=
  ⟨fun i H => ∃ (xs ys : List V) (x y : V), SqB K b H a xs ∧ SqB K c H d ys ∧ xs[i]? = some x ∧ ys[i]? = some y,
    fun i H v H' => ∃ T x y, v = .ref T ∧ H T = none ∧ H' = upd H T (.tup [x, y]) ∧ (∀ xs, SqB K b H a xs → xs[i]? = some x) ∧ ∀ ys, SqB K c H d ys → ys[i]? = some y,
    fun i H => ∃ xs ys : List V, SqB K b H a xs ∧ SqB K c H d ys ∧ i = min xs.length ys.length⟩
theorem turn_zipB {P : Program} {w : World} {K : PySem.W.Frag} {elts : List Expr} {kk : Nat} {tpos : Pos} (b c : Bool) {a d z TI TO i1 i2 : Addr} (D : ZipSep2 z TI TO i1 i2 [i1, a] [i2, d]) :
    Turn P w K (.Tuple elts kk tpos) (ItzB K b c a d) [z, TI, TO, i1, i2] z (fun i h => IsZip h z TI TO .none ∧ IsTupOf2 h TI (.ref i1) (.ref i2) ∧ (∃ x y, IsTupOf2 h TO x y) ∧ ItB b h i1 a i ∧ ItB c h i2 d i) where
  mem := by simp
  obj := fun i h st e he => by
    obtain ⟨hz, hTI, ⟨x, y, hTO⟩, h1, h2⟩ := st
    have e' : e = z ∨ e = TI ∨ e = TO ∨ e = i1 ∨ e = i2 := by simpa using he
    rcases e' with q | q | q | q | q
    · rw [q]; exact ⟨_, hz, fun v q => nomatch q⟩
    · rw [q]; exact ⟨_, hTI, fun v q => nomatch q⟩
    · rw [q]; exact ⟨_, hTO, fun v q => nomatch q⟩
    · rw [q]; exact h1.obj
    · rw [q]; exact h2.obj
  keep := fun i h h' st k => by
    obtain ⟨hz, hTI, ⟨x, y, hTO⟩, h1, h2⟩ := st
    exact ⟨k z (by simp) _ hz, k TI (by simp) _ hTI, ⟨x, y, k TO (by simp) _ hTO⟩, h1.at_ fun o q => k i1 (by simp) o q, h2.at_ fun o q => k i2 (by simp) o q⟩
  item := by
    intro X hP hw hK hc i pins s σ H E I hf st hg
    subst hP hw hK
    obtain ⟨hz, hTI, hTO, h1, h2⟩ := st
    obtain ⟨xs, ys, x, y, hqx, hqy, hx, hy⟩ := hg
    obtain ⟨its, rv, p⟩ := seqB I hqx
    obtain ⟨its2, rv2, p2⟩ := seqB I hqy
    obtain ⟨u, hu, ru⟩ := paired_get rv hx
    obtain ⟨u2, hu2, ru2⟩ := paired_get rv2 hy
    have W := WalksT.zipD2 (A := X.A) D (drawsB b (prog := X.prog) (w := X.w) (A := X.A.in1) (I.ok.hd hc) i1 a (p.neIt h1) its.toArray) (drawsB c (prog := X.prog) (w := X.w) (A := X.A.in1) (I.ok.hd hc) i2 d (p2.neIt h2) its2.toArray)
    have hi : i < min its.toArray.size its2.toArray.size := by
      have l1 := (List.getElem?_eq_some_iff.mp hu).1
      have l2 := (List.getElem?_eq_some_iff.mp hu2).1
      simp only [List.size_toArray]
      omega
    have hf' : ∀ b ∈ [z, TO, i1, i2], FpOk X pins H b := fun e he => hf e (by
      have e' : e = z ∨ e = TO ∨ e = i1 ∨ e = i2 := by simpa using he
      rcases e' with q | q | q | q <;> simp [q])
    refine W.item i s _ E hi ⟨hz, hTI, hTO, ⟨h1, p⟩, h2, p2⟩ fun T vals h' tk hP hle hT hM hk => ?_
    obtain ⟨v, v2, hv, hv2, rfl⟩ := hP
    have ev : v = u := by
      have : its[i]? = some v := by simpa using hv
      rw [hu] at this; cases this; rfl
    have ev2 : v2 = u2 := by
      have : its2[i]? = some v2 := by simpa using hv2
      rw [hu2] at this; cases this; rfl
    subst ev ev2
    refine ⟨_, rfl, W.go elts kk tpos i T { s with heap := h', toks := tk } _ E hM fun h3 st3 hk3 => ?_⟩
    have hT2 : h3.IsTuple T #[v, v2] := hT.at fun o q => hk3 T o (W.apart i T h' hM) q
    have new : ObjOk X.prog X.w (upd H T (.tup [x, y])) h3 T (.tup [x, y]) := ⟨by show 2 ≤ sizeLine; decide, [v, v2], .cons ru (.cons ru2 .nil), hT2⟩
    have I1 : Inv X pins σ (upd H T (.tup [x, y])) { s with heap := h3, toks := tk } :=
      I.turnedNew (ch := [z, TO, i1, i2]) (fun c o hb q => hk3 c o hb (hk c o hb q)) hf' hle new
    have old : ∀ e, e ∈ [z, TI, TO, i1, i2] → e < s.heap.objs.size := fun e he => by
      have e' : e = z ∨ e = TI ∨ e = TO ∨ e = i1 ∨ e = i2 := by simpa using he
      rcases e' with q | q | q | q | q
      · rw [q]; exact Heap.lt_size hz
      · rw [q]; exact Heap.lt_size hTI
      · rw [q]; obtain ⟨_, _, q⟩ := hTO; exact Heap.lt_size q
      · rw [q]; obtain ⟨_, q, _⟩ := h1.obj; exact Heap.lt_size q
      · rw [q]; obtain ⟨_, q, _⟩ := h2.obj; exact Heap.lt_size q
    refine ⟨.ref T, _, I1, rfl, ⟨T, x, y, rfl, I.hok.fresh hle, rfl, fun l hl => by rw [injB I hl hqx]; exact hx, fun l hl => by rw [injB I hl hqy]; exact hy⟩, ⟨st3.1, st3.2.1, st3.2.2.1, st3.2.2.2.1.1, st3.2.2.2.2.1⟩, fun e hb => ?_⟩
    rw [upd_ne]
    · exact (hf e hb).1
    · intro q
      subst q
      exact absurd (Nat.lt_of_lt_of_le (old _ hb) hle) (Nat.lt_irrefl _)
  done := by
    intro X hP hw hK hc i pins s σ H E I hf st hg
    subst hP hw hK
    obtain ⟨hz, hTI, hTO, h1, h2⟩ := st
    obtain ⟨xs, ys, hqx, hqy, hx⟩ := hg
    obtain ⟨its, rv, p⟩ := seqB I hqx
    obtain ⟨its2, rv2, p2⟩ := seqB I hqy
    have W := WalksT.zipD2 (A := X.A) D (drawsB b (prog := X.prog) (w := X.w) (A := X.A.in1) (I.ok.hd hc) i1 a (p.neIt h1) its.toArray) (drawsB c (prog := X.prog) (w := X.w) (A := X.A.in1) (I.ok.hd hc) i2 d (p2.neIt h2) its2.toArray)
    have hi : i = min its.toArray.size its2.toArray.size := by rw [hx, rv.length, rv2.length]; simp
    have hf' : ∀ b ∈ [z, TO, i1, i2], FpOk X pins H b := fun e he => hf e (by
      have e' : e = z ∨ e = TO ∨ e = i1 ∨ e = i2 := by simpa using he
      rcases e' with q | q | q | q <;> simp [q])
    subst hi
    refine W.done s _ E ⟨hz, hTI, hTO, ⟨h1, p⟩, h2, p2⟩ fun h' tk hk => ⟨rfl, I.turnedL (t' := tk) (ch := [z, TO, i1, i2]) hk hf'⟩
  self := fun A i s Q E st h => wpAny_pyIter_zip st.1 h
def iZipB (K : PySem.W.Frag) (ta : TA) : TI := fun σ H R => ta σ H fun vs H1 => ∃ a d b c xs ys, vs = [.ref a, .ref d] ∧ SqB K b H1 a xs ∧ SqB K c H1 d ys ∧ R (ItzB K b c a d) H1
theorem pi_zipB {X : Cx} {e e2 : Expr} {ta : TA} {p pos tpos : Pos} {elts : List Expr} {kk : Nat} (hg : Gl X "zip") (hm : X.mg "zip" = none) (ha : PA X [e, e2] ta)
    (hs : starEach [e, e2] X.env = (false, eval e X.env) :: starEach [e2] X.env := by rfl) (hpl : (backTo pos (starEach [e2] X.env)).any (·.1) = false := by rfl) :
    PI X (.Tuple elts kk tpos) (.Call (.Name "zip" p) [e, e2] [] pos) (iZipB X.K ta) := by
  refine ⟨fun pins s σ H R I h => ?_⟩
  refine Call_ (ld_blt I hg hm PyProof.Rows.boot_zip (PyProof.Rows.callWith_type1 (thn (ha.run pos pins s σ H _ I h) fun us s1 ⟨vs, H1, I1, r1, q1⟩ => ?_) hs hpl))
  obtain ⟨a, d, b, c, xs, ys, ex, hqx, hqy, q⟩ := q1
  subst ex
  obtain ⟨v1, v2, rfl, r, r'⟩ := vals2 r1
  cases r
  cases r'
  obtain ⟨its, rv, p1⟩ := seqB I1 hqx
  obtain ⟨its2, rv2, p2⟩ := seqB I1 hqy
  have la : a < s1.heap.objs.size := by
    cases b with
    | false => obtain ⟨o, e, _⟩ := p1; exact Heap.lt_size e
    | true => obtain ⟨o, e, _⟩ := p1; exact Heap.lt_size e
  have ld : d < s1.heap.objs.size := by
    cases c with
    | false => obtain ⟨o, e, _⟩ := p2; exact Heap.lt_size e
    | true => obtain ⟨o, e, _⟩ := p2; exact Heap.lt_size e
  refine zip_begins2 (beginsB b a its.toArray) (beginsB c d its2.toArray) p1 p2 fun h' hz hTI hTO e1 e2 hsz hk => wpAny_pyIter_zip hz ?_
  have I2 : Inv X pins σ H1 { s1 with heap := h' } := I1.kept (t' := s1.toks) hk
  refine ⟨s1.heap.objs.size + 4, [s1.heap.objs.size + 4, s1.heap.objs.size + 2, s1.heap.objs.size + 3, s1.heap.objs.size, s1.heap.objs.size + 1], _, _, H1, rfl, I2,
    turn_zipB b c (zip_sep2 (N := s1.heap.objs.size) (fp1 := [a]) (fp2 := [d]) (fun x hx => by rw [List.mem_singleton.mp hx]; exact la) (fun x hx => by rw [List.mem_singleton.mp hx]; exact ld)), ⟨hz, hTI, ⟨_, _, hTO⟩, ItB.at0 e1, ItB.at0 e2⟩, fun x hx => ?_, q⟩
  have e' : x = s1.heap.objs.size + 4 ∨ x = s1.heap.objs.size + 2 ∨ x = s1.heap.objs.size + 3 ∨ x = s1.heap.objs.size ∨ x = s1.heap.objs.size + 1 := by simpa using hx
  have hle : s1.heap.objs.size ≤ x := by
    rcases e' with z | z | z | z | z
    · rw [z]; exact Nat.le_add_right _ _
    · rw [z]; exact Nat.le_add_right _ _
    · rw [z]; exact Nat.le_add_right _ _
    · rw [z]; exact Nat.le_refl _
    · rw [z]; exact Nat.le_add_right _ _
  exact I1.fpOk hle (I1.hok.fresh hle)
/-! the readings -/
def zipL : List PyData → List PyData → List PyData
  | x :: xs, y :: ys => .tuple [x, y] :: zipL xs ys
  | _, _ => []
theorem zipL_len : ∀ (xs ys : List PyData), (zipL xs ys).length = min xs.length ys.length
  | [], _ => by simp [zipL]
  | _ :: _, [] => by simp [zipL]
  | _ :: xs, _ :: ys => by simp only [zipL, List.length_cons, zipL_len xs ys]; omega
theorem zipL_get : ∀ {i : Nat} {xs ys : List PyData} {v : PyData}, (zipL xs ys)[i]? = some v → ∃ x y, xs[i]? = some x ∧ ys[i]? = some y ∧ v = .tuple [x, y]
  | _, [], _, _, h => by simp [zipL] at h
  | _, _ :: _, [], _, h => by simp [zipL] at h
  | 0, x :: xs, y :: ys, v, h => by
    simp only [zipL, List.getElem?_cons_zero, Option.some.injEq] at h
    exact ⟨x, y, rfl, rfl, h.symm⟩
  | i + 1, x :: xs, y :: ys, v, h => by
    simp only [zipL, List.getElem?_cons_succ] at h
    obtain ⟨x', y', h1, h2, h3⟩ := zipL_get h
    exact ⟨x', y', by simpa using h1, by simpa using h2, h3⟩
section
variable {bk : BoxKind} {X : Cx} {W : WX} {fz : Bool} {S : AS} {H : Hp} {tr : TDU} {e e2 : Expr} {p pos tpos : Pos} {elts : List Expr} {kk : Nat}
theorem it_zipB {P : AS → Hp → Prop} {b c : Bool} {a d : Addr} {xs ys : List PyData} (h : SrcB bk X.K P b a xs) (g : SrcB bk X.K P c d ys) : ItD bk X.K P (ItzB X.K b c a d) (zipL xs ys) := by
  refine ⟨fun i S H p hi => ?_, fun i S H x v H' p hx y => ?_, fun i S H p hi => ?_⟩
  · obtain ⟨vs, h1, h2, ok⟩ := h S H p
    obtain ⟨ws, h3, h4, _⟩ := g S H p
    rw [zipL_len] at hi
    have l1 : i < vs.length := by rw [h2.length]; omega
    have l2 : i < ws.length := by rw [h4.length]; omega
    exact ⟨vs, ws, vs[i], ws[i], h1, h3, List.getElem?_eq_getElem l1, List.getElem?_eq_getElem l2⟩
  · obtain ⟨vs, h1, h2, ok⟩ := h S H p
    obtain ⟨ws, h3, h4, _⟩ := g S H p
    obtain ⟨T, u, u2, rfl, hn, rfl, y1, y2⟩ := y
    obtain ⟨x', y', hx', hy', rfl⟩ := zipL_get hx
    obtain ⟨v', hv, rv⟩ := h2.getD hx'
    obtain ⟨w', hw, rw'⟩ := h4.getD hy'
    have e1 := y1 vs h1
    have e2 := y2 ws h3
    rw [hv] at e1
    rw [hw] at e2
    cases e1
    cases e2
    exact Ext.tup2 ok hn (.cons rv (.cons rw' .nil))
  · obtain ⟨vs, h1, h2, ok⟩ := h S H p
    obtain ⟨ws, h3, h4, _⟩ := g S H p
    exact ⟨vs, ws, h1, h3, by rw [hi, h2.length, h4.length, zipL_len]⟩
def tZipD (t : TDU) : TDI := fun env Q Ex => t env (fun xs => match xs with | [x, y] => asSeq x fun xs => asSeq y fun ys => Q (zipL xs ys) | _ => False) Ex
theorem pid_zip (hg : Gl X "zip") (hm : X.mg "zip" = none) (ha : PDV bk X W fz [e, e2] tr) (hs : starEach [e, e2] X.env = (false, eval e X.env) :: starEach [e2] X.env) (hpl : (backTo pos (starEach [e2] X.env)).any (·.1) = false) :
    PID bk X W fz (.Tuple elts kk tpos) (.Call (.Name "zip" p) [e, e2] [] pos) (tZipD tr) :=
  PI.imp (pi_zipB hg hm ha hs hpl) fun σ H R q => by
    obtain ⟨S, env, Hz, Qd, Ex, ok, ab, ex, con, t⟩ := q
    refine ⟨S, env, Hz, _, Ex, ok, ab, ex, fun xs vs H1 S1 q1 e1 r1 => ?_, t⟩
    split at q1
    · obtain ⟨v, w, rfl, h1, h2⟩ := paired2 r1
      obtain ⟨a, b, ys, rfl, q2, sb⟩ := h1.srcB e1.ok q1
      obtain ⟨d, c, zs, rfl, q3, sc⟩ := h2.srcB e1.ok q2
      obtain ⟨ws, h3, _⟩ := sb S1 H1 (PFX.self e1.ok)
      obtain ⟨us, h4, _⟩ := sc S1 H1 (PFX.self e1.ok)
      exact ⟨a, d, b, c, ws, us, rfl, h3, h4, con _ _ _ _ q3 e1 (it_zipB sb sc)⟩
    · exact q1.elim
end
end HA

namespace HA
open PySem PySem.Spec PyProof.Rows L2

/-! ### enumerate(zip(.., ..)): the zip's own pair is out all the while, or gone -/
theorem wpAny_ifAlive {M : Model} {A : Around} {E : Value → Shared → Prop} {s : Shared} {a : Addr} {Q : Option Obj → Shared → Prop} (h : Q (s.heap.get? a) s) : wpAny M A (loadIfAlive a) Q E s := fun _ _ _ => h
abbrev ZS (h : Heap) (z TI TO : Addr) (f0 f1 : Value) : Prop := h.get? z = some { cls := .type "zip", dict := none, data := .fields #[f0, f1, .bool false, .ref TI, .ref TO], slots := #[] }
def F0 (v : Value) : Prop := v = .none ∨ ∃ T : Nat, v = rawInt T
section
variable {prog : Program} {w : World} {A : Around} {E : Value → Shared → Prop} {s : Shared} {z TI TO i1 i2 : Addr} {fp1 fp2 : List Addr} {n1 n2 i : Nat} {P1 P2 : Nat → Value → Prop} {St1 St2 : Nat → Heap → Prop} {f0 f1 : Value}
theorem zs_free {Q : Bool → Shared → Prop} (hz : ZS s.heap z TI TO f0 f1) (hf : F0 f0) (h : ∀ b h' g1, ZS h' z TI TO f0 g1 → Heap.SameBut z s.heap h' → Q b { s with heap := h' }) :
    wpAny (model prog w) A (Builtin.SmallTypes.ownedTupleIsFree (.ref z)) Q E s := by
  have yes : Q true s := h true s.heap f1 hz (Heap.SameBut.refl _ _)
  have no : Q false s := h false s.heap f1 hz (Heap.SameBut.refl _ _)
  unfold Builtin.SmallTypes.ownedTupleIsFree
  rcases hf with rfl | ⟨T, rfl⟩
  · exact wpAny_bind (wpAny_field hz rfl (x := .none) rfl (wpAny_pure yes))
  · refine wpAny_bind (wpAny_field hz rfl (x := rawInt T) rfl (wpAny_bind (wpAny_ifAlive ?_)))
    generalize s.heap.get? ((T : Int).toNat) = r
    cases r with
    | none => exact wpAny_pure yes
    | some o =>
      rw [if_neg (by simp)]
      refine wpAny_bind (wpAny_field hz rfl (x := f1) rfl ?_)
      cases (f1 != Value.bool true) with
      | false => exact wpAny_pure no
      | true => exact wpAny_bind (wpAny_setField_rec hz (by simp) fun h1 hz1 sb => wpAny_pure (h false h1 (.bool true) hz1 sb))
/-- what a turn of the zip leaves -/
structure ZNew (h0 h : Heap) (z TI TO i1 i2 : Addr) (St1 St2 : Nat → Heap → Prop) (j : Nat) (x y : Value) : Prop where
  zs : ∃ f0 f1, F0 f0 ∧ ZS h z TI TO f0 f1
  ti : IsTupOf2 h TI (.ref i1) (.ref i2)
  to : ∃ u v, IsTupOf2 h TO u v
  s1 : St1 j h
  s2 : St2 j h
  new : IsTupOf2 h h0.objs.size x y
  sz : h.objs.size = h0.objs.size + 1
  kp : ∀ c o, c ∉ [z, TO, i1, i2] → h0.get? c = some o → h.get? c = some o
theorem drOver {it : Addr} {fp : List Addr} {n : Nat} {P : Nat → Value → Prop} {St : Nat → Heap → Prop} (D : Draws prog w A it fp n P St) {j : Nat} {h h' : Heap} (st : St j h) (k : ∀ b o, b ∈ fp → h.get? b = some o → h'.get? b = some o) : St j h' := D.frame j h h' st fun b hb o e => k b o hb e
theorem zs_next {Q : Value → Shared → Prop} (S : ZipSep2 z TI TO i1 i2 fp1 fp2) (D1 : Draws prog w A i1 fp1 n1 P1 St1) (D2 : Draws prog w A i2 fp2 n2 P2 St2) (hz : ZS s.heap z TI TO f0 f1) (hf : F0 f0)
    (hTI : IsTupOf2 s.heap TI (.ref i1) (.ref i2)) (hTO : ∃ u v, IsTupOf2 s.heap TO u v) (st1 : St1 i s.heap) (st2 : St2 i s.heap) (l1 : i < n1) (l2 : i < n2)
    (hQ : ∀ x y h' tk, P1 i x → P2 i y → ZNew s.heap h' z TI TO i1 i2 St1 St2 (i + 1) x y → Q (.ref s.heap.objs.size) { s with heap := h', toks := tk }) :
    wpAny (model prog w) A (Builtin.«zip.__next__» ⟨[.ref z], []⟩) (fun fin s' => ∃ v, fin = .done (.ret v) ∧ Q v s') E s := by
  obtain ⟨hp, g, d, tk0, os⟩ := s
  obtain ⟨u, v, hTO⟩ := hTO
  show wpAny _ _ (field (.ref z) 2 >>= _) _ _ _
  refine wpAny_bind (wpAny_field hz rfl (x := .bool false) rfl ?_)
  show wpAny _ _ (field (.ref z) 3 >>= _) _ _ _
  refine wpAny_bind (wpAny_field hz rfl (x := .ref TI) rfl ?_)
  refine wpAny_bind (wpAny_seqItems hTI rfl (wpAny_bind (zs_free hz hf fun b a0 g1 hz0 sb0 => ?_)))
  have nz1 := S.zi1
  have nz2 := S.zi2
  have nT1 := S.Ti1
  have nT2 := S.Ti2
  have hTO0 : IsTupOf2 a0 TO u v := sb0.extBut _ _ S.TOz hTO
  have st10 : St1 i a0 := D1.over st1 sb0 S.zf1
  have st20 : St2 i a0 := D2.over st2 sb0 S.zf2
  cases b with
  | true =>
    simp only [if_true]
    refine wpAny_bind (wpAny_rule (wpAny_bind (wpAny_field hz0 rfl (x := .ref TO) rfl (wpAny_bind (wpAny_setField_rec hz0 (by simp) fun a1 hz1 sb1 => ?_)))))
    replace sb1 : Heap.SameBut z a0 a1 := sb1
    refine wpAny_bind ?_
    simp only [List.zipIdx_cons, List.zipIdx_nil, List.forIn_cons, List.forIn_nil]
    refine wpAny_bind (wpAny_bind (wpAny_onRaise ?_))
    show wpAny _ _ (Builtin.SmallTypes.nextOf (.ref i1) >>= _) _ _ ⟨a1, g, d, tk0, os⟩
    refine wpAny_bind (D1.item i _ _ _ l1 (D1.over st10 sb1 S.zf1) fun x a2 tk2 hx st12 sb2 => wpAny_pure ?_)
    replace sb2 : Heap.SameBut i1 a1 a2 := sb2
    have hTO2 : IsTupOf2 a2 TO u v := sb2.extBut _ _ nT1 (sb1.extBut _ _ S.TOz hTO0)
    refine wpAny_bind (wpAny_seqItems (s := ⟨a2, g, d, tk2, os⟩) hTO2 rfl (wpAny_bind (updateSeq_IsTupOf2 (s := ⟨a2, g, d, tk2, os⟩) hTO2 fun a3 hTO3 sb3 => wpAny_bind (wpAny_letGo (wpAny_pure ?_)))))
    replace hTO3 : IsTupOf2 a3 TO x v := hTO3
    replace sb3 : Heap.SameBut TO a2 a3 := sb3
    refine wpAny_bind (wpAny_bind (wpAny_onRaise ?_))
    show wpAny _ _ (Builtin.SmallTypes.nextOf (.ref i2) >>= _) _ _ ⟨a3, g, d, tk2, os⟩
    refine wpAny_bind (D2.item i _ _ _ l2 (D2.over (D2.over (D2.over st20 sb1 S.zf2) sb2 S.sep1_2) sb3 S.Tf2) fun y a4 tk4 hy st24 sb4 => wpAny_pure ?_)
    replace sb4 : Heap.SameBut i2 a3 a4 := sb4
    have hTO4 : IsTupOf2 a4 TO x v := sb4.extBut _ _ nT2 hTO3
    refine wpAny_bind (wpAny_seqItems (s := ⟨a4, g, d, tk4, os⟩) hTO4 rfl (wpAny_bind (updateSeq_IsTupOf2 (s := ⟨a4, g, d, tk4, os⟩) hTO4 fun a5 hTO5 sb5 => wpAny_bind (wpAny_letGo (wpAny_pure (wpAny_pure ?_))))))
    replace hTO5 : IsTupOf2 a5 TO x y := hTO5
    replace sb5 : Heap.SameBut TO a4 a5 := sb5
    refine wpAny_bind (wpAny_seqItems (s := ⟨a5, g, d, tk4, os⟩) hTO5 rfl (wpAny_bind (wpAny_newTuple ?_)))
    have sz5 : a5.objs.size = hp.objs.size := by rw [sb5.1, sb4.1, sb3.1, sb2.1, sb1.1, sb0.1]
    have hz5 : ZS a5 z TI TO .ellipsis g1 := sb5.extBut _ _ S.TOz.symm (sb4.extBut _ _ nz2 (sb3.extBut _ _ S.TOz.symm (sb2.extBut _ _ nz1 hz1)))
    have zl : z < a5.objs.size := Heap.lt_size hz5
    generalize hA : a5.push { cls := .type "tuple", data := .seq #[x, y] } = a6
    have hz6 : ZS a6 z TI TO .ellipsis g1 := by rw [← hA]; exact Heap.get?_push_of_some _ hz5
    have up6 : ∀ c o, a5.get? c = some o → a6.get? c = some o := fun c o e => by rw [← hA]; exact Heap.get?_push_of_some _ e
    have hT6 : IsTupOf2 a6 hp.objs.size x y := by rw [← hA, ← sz5]; exact Heap.get?_push_size _ rfl
    have sz6 : a6.objs.size = hp.objs.size + 1 := by rw [← hA, Heap.size_push, sz5]
    show wpAny _ _ (Builtin.SmallTypes.ownedTupleHandOut (.ref z) (.ref a5.objs.size) >>= _) _ _ ⟨a6, g, d, tk4, os⟩
    refine wpAny_bind ?_
    unfold Builtin.SmallTypes.ownedTupleHandOut
    refine wpAny_bind (wpAny_setField_rec hz6 (by simp) fun a7 hz7 sb7 => wpAny_setField_rec hz7 (by simp) fun a8 hz8 sb8 => wpAny_pure ⟨_, rfl, ?_⟩)
    replace sb7 : Heap.SameBut z a6 a7 := sb7
    replace sb8 : Heap.SameBut z a7 a8 := sb8
    have up : ∀ c o, c ≠ z → a5.get? c = some o → a8.get? c = some o := fun c o n e => sb8.extBut _ _ n (sb7.extBut _ _ n (up6 c o e))
    show Q (.ref a5.objs.size) ⟨a8, g, d, tk4, os⟩
    rw [sz5]
    refine hQ x y a8 tk4 hx hy ⟨⟨rawInt a5.objs.size, .bool false, .inr ⟨_, rfl⟩, hz8⟩, ?_, ⟨x, y, up _ _ S.TOz hTO5⟩, ?_, ?_, ?_, ?_, ?_⟩
    · exact up _ _ S.TIz (sb5.extBut _ _ S.TITO (sb4.extBut _ _ S.TIi2 (sb3.extBut _ _ S.TITO (sb2.extBut _ _ S.TIi1 (sb1.extBut _ _ S.TIz (sb0.extBut _ _ S.TIz hTI))))))
    · refine drOver D1 (D1.over (D1.over (D1.over st12 sb3 S.Tf1) sb4 S.sep2_1) sb5 S.Tf1) fun b o hb e => up b o (fun q => S.zf1 (q ▸ hb)) e
    · refine drOver D2 (D2.over st24 sb5 S.Tf2) fun b o hb e => up b o (fun q => S.zf2 (q ▸ hb)) e
    · refine sb8.extBut _ _ ?_ (sb7.extBut _ _ ?_ hT6) <;> exact Nat.ne_of_gt (by rw [← sz5]; exact zl)
    · rw [sb8.1, sb7.1, sz6]
    · intro c o hc e
      simp only [List.mem_cons, List.not_mem_nil, or_false, not_or] at hc
      exact up _ _ hc.1 (sb5.extBut _ _ hc.2.1 (sb4.extBut _ _ hc.2.2.2 (sb3.extBut _ _ hc.2.1 (sb2.extBut _ _ hc.2.2.1 (sb1.extBut _ _ hc.1 (sb0.extBut _ _ hc.1 e))))))
  | false =>
    rw [if_neg Bool.false_ne_true]
    refine wpAny_bind ?_
    rw [← Array.forIn_toList]
    simp only [List.forIn_cons, List.forIn_nil]
    refine wpAny_bind (wpAny_bind (wpAny_holding ?_))
    show wpAny _ _ (Builtin.SmallTypes.nextOf (.ref i1) >>= _) _ _ ⟨a0, g, d, tk0, os⟩
    refine wpAny_bind (D1.item i _ _ _ l1 st10 fun x a2 tk2 hx st12 sb2 => wpAny_pure (wpAny_pure ?_))
    replace sb2 : Heap.SameBut i1 a0 a2 := sb2
    refine wpAny_bind (wpAny_bind (wpAny_holding ?_))
    show wpAny _ _ (Builtin.SmallTypes.nextOf (.ref i2) >>= _) _ _ ⟨a2, g, d, tk2, os⟩
    refine wpAny_bind (D2.item i _ _ _ l2 (D2.over st20 sb2 S.sep1_2) fun y a4 tk4 hy st24 sb4 => wpAny_pure (wpAny_pure (wpAny_pure ?_)))
    replace sb4 : Heap.SameBut i2 a2 a4 := sb4
    show wpAny _ _ (newTuple [x, y] >>= _) _ _ ⟨a4, g, d, tk4, os⟩
    refine wpAny_bind (wpAny_newTuple (wpAny_pure ⟨_, rfl, ?_⟩))
    have sz4 : a4.objs.size = hp.objs.size := by rw [sb4.1, sb2.1, sb0.1]
    have up : ∀ c o, a4.get? c = some o → (a4.push { cls := .type "tuple", data := .seq #[x, y] }).get? c = some o := fun c o e => Heap.get?_push_of_some _ e
    show Q (.ref a4.objs.size) ⟨a4.push { cls := .type "tuple", data := .seq #[x, y] }, g, d, tk4, os⟩
    rw [sz4]
    refine hQ x y _ tk4 hx hy ⟨⟨f0, g1, hf, up _ _ (sb4.extBut _ _ nz2 (sb2.extBut _ _ nz1 hz0))⟩, ?_, ⟨u, v, up _ _ (sb4.extBut _ _ nT2 (sb2.extBut _ _ nT1 hTO0))⟩, ?_, ?_, ?_, ?_, ?_⟩
    · exact up _ _ (sb4.extBut _ _ S.TIi2 (sb2.extBut _ _ S.TIi1 (sb0.extBut _ _ S.TIz hTI)))
    · exact drOver D1 (D1.over st12 sb4 S.sep2_1) fun b o _ e => up b o e
    · exact drOver D2 st24 fun b o _ e => up b o e
    · show IsTupOf2 _ hp.objs.size x y
      rw [← sz4]
      exact Heap.get?_push_size _ rfl
    · rw [Heap.size_push, sz4]
    · intro c o hc e
      simp only [List.mem_cons, List.not_mem_nil, or_false, not_or] at hc
      exact up _ _ (sb4.extBut _ _ hc.2.2.2 (sb2.extBut _ _ hc.2.2.1 (sb0.extBut _ _ hc.1 e)))
/-- it ends -/
theorem zs_end {Q : Fin → Shared → Prop} (S : ZipSep2 z TI TO i1 i2 fp1 fp2) (D1 : Draws prog w A i1 fp1 n1 P1 St1) (D2 : Draws prog w A i2 fp2 n2 P2 St2) (hz : ZS s.heap z TI TO f0 f1) (hf : F0 f0)
    (hTI : IsTupOf2 s.heap TI (.ref i1) (.ref i2)) (hTO : ∃ u v, IsTupOf2 s.heap TO u v) (st1 : St1 i s.heap) (st2 : St2 i s.heap) (hi : i = min n1 n2)
    (hE : ∀ h' tk e, (∀ c o, c ∉ [z, TO, i1, i2] → s.heap.get? c = some o → h'.get? c = some o) → (∃ o, h'.get? e = some o ∧ o.cls = .type "StopIteration") → E (.ref e) { s with heap := h', toks := tk }) :
    wpAny (model prog w) A (Builtin.«zip.__next__» ⟨[.ref z], []⟩) Q E s := by
  obtain ⟨hp, g, d, tk0, os⟩ := s
  obtain ⟨u, v, hTO⟩ := hTO
  show wpAny _ _ (field (.ref z) 2 >>= _) _ _ _
  refine wpAny_bind (wpAny_field hz rfl (x := .bool false) rfl ?_)
  show wpAny _ _ (field (.ref z) 3 >>= _) _ _ _
  refine wpAny_bind (wpAny_field hz rfl (x := .ref TI) rfl ?_)
  refine wpAny_bind (wpAny_seqItems hTI rfl (wpAny_bind (zs_free hz hf fun b a0 g1 hz0 sb0 => ?_)))
  have nz1 := S.zi1
  have nz2 := S.zi2
  have nT1 := S.Ti1
  have nT2 := S.Ti2
  have hTO0 : IsTupOf2 a0 TO u v := sb0.extBut _ _ S.TOz hTO
  have st10 : St1 i a0 := D1.over st1 sb0 S.zf1
  have st20 : St2 i a0 := D2.over st2 sb0 S.zf2
  have away : ∀ {c : Addr}, c ∉ [z, TO, i1, i2] → c ≠ z ∧ c ≠ TO ∧ c ≠ i1 ∧ c ≠ i2 := fun {c} hc => by
    simpa only [List.mem_cons, List.not_mem_nil, or_false, not_or] using hc
  -- what stops the zip: its field is put back, if it was taken
  cases b with
  | true =>
    simp only [if_true]
    refine wpAny_bind (wpAny_rule (wpAny_bind (wpAny_field hz0 rfl (x := .ref TO) rfl (wpAny_bind (wpAny_setField_rec hz0 (by simp) fun a1 hz1 sb1 => ?_)))))
    replace sb1 : Heap.SameBut z a0 a1 := sb1
    replace hz1 : ZS a1 z TI TO .ellipsis g1 := hz1
    have halt : ∀ {q : Heap} {tk : Nat} {e : Addr}, ZS q z TI TO .ellipsis g1 → (∃ o, q.get? e = some o ∧ o.cls = .type "StopIteration") → (∀ c o, c ∉ [z, TO, i1, i2] → hp.get? c = some o → q.get? c = some o) →
        wpAny (model prog w) A (setField (.ref z) 0 .none) (fun _ s' => E (.ref e) s') E ⟨q, g, d, tk, os⟩ := fun {q tk e} hq he hk => by
      obtain ⟨o, ho, hc⟩ := he
      have ne : e ≠ z := fun x => by subst x; rw [hq] at ho; cases ho; simp at hc
      exact wpAny_setField_rec (s := ⟨q, g, d, tk, os⟩) hq (by simp) fun q' _ sb => hE q' tk e (fun c o n x => sb.extBut _ _ (away n).1 (hk c o n x)) ⟨o, sb.extBut _ _ ne ho, hc⟩
    refine wpAny_bind ?_
    simp only [List.zipIdx_cons, List.zipIdx_nil, List.forIn_cons, List.forIn_nil]
    refine wpAny_bind (wpAny_bind (wpAny_onRaise ?_))
    show wpAny _ _ (Builtin.SmallTypes.nextOf (.ref i1) >>= _) _ _ ⟨a1, g, d, tk0, os⟩
    by_cases l1 : i < n1
    · refine wpAny_bind (D1.item i _ _ _ l1 (D1.over st10 sb1 S.zf1) fun x a2 tk2 hx st12 sb2 => wpAny_pure ?_)
      replace sb2 : Heap.SameBut i1 a1 a2 := sb2
      have hTO2 : IsTupOf2 a2 TO u v := sb2.extBut _ _ nT1 (sb1.extBut _ _ S.TOz hTO0)
      refine wpAny_bind (wpAny_seqItems (s := ⟨a2, g, d, tk2, os⟩) hTO2 rfl (wpAny_bind (updateSeq_IsTupOf2 (s := ⟨a2, g, d, tk2, os⟩) hTO2 fun a3 hTO3 sb3 => wpAny_bind (wpAny_letGo (wpAny_pure ?_)))))
      replace sb3 : Heap.SameBut TO a2 a3 := sb3
      have hi2 : i = n2 := by omega
      refine wpAny_bind (wpAny_bind (wpAny_onRaise ?_))
      show wpAny _ _ (Builtin.SmallTypes.nextOf (.ref i2) >>= _) _ _ ⟨a3, g, d, tk2, os⟩
      refine wpAny_bind (D2.done ⟨a3, g, d, tk2, os⟩ _ _ (by rw [← hi2]; exact (D2.over (D2.over (D2.over st20 sb1 S.zf2) sb2 S.sep1_2) sb3 S.Tf2)) fun q e hq he => ?_)
      replace hq : Heap.ExtBut i2 a3 q := hq
      refine halt (hq _ _ nz2 (sb3.extBut _ _ S.TOz.symm (sb2.extBut _ _ nz1 hz1))) he fun c o n x => ?_
      exact hq _ _ (away n).2.2.2 (sb3.extBut _ _ (away n).2.1 (sb2.extBut _ _ (away n).2.2.1 (sb1.extBut _ _ (away n).1 (sb0.extBut _ _ (away n).1 x))))
    · have hi1 : i = n1 := by omega
      refine wpAny_bind (D1.done ⟨a1, g, d, tk0, os⟩ _ _ (by rw [← hi1]; exact (D1.over st10 sb1 S.zf1)) fun q e hq he => ?_)
      replace hq : Heap.ExtBut i1 a1 q := hq
      exact halt (hq _ _ nz1 hz1) he fun c o n x => hq _ _ (away n).2.2.1 (sb1.extBut _ _ (away n).1 (sb0.extBut _ _ (away n).1 x))
  | false =>
    rw [if_neg Bool.false_ne_true]
    refine wpAny_bind ?_
    rw [← Array.forIn_toList]
    simp only [List.forIn_cons, List.forIn_nil]
    refine wpAny_bind (wpAny_bind (wpAny_holding ?_))
    show wpAny _ _ (Builtin.SmallTypes.nextOf (.ref i1) >>= _) _ _ ⟨a0, g, d, tk0, os⟩
    by_cases l1 : i < n1
    · refine wpAny_bind (D1.item i _ _ _ l1 st10 fun x a2 tk2 hx st12 sb2 => wpAny_pure (wpAny_pure ?_))
      replace sb2 : Heap.SameBut i1 a0 a2 := sb2
      have hi2 : i = n2 := by omega
      refine wpAny_bind (wpAny_bind (wpAny_holding ?_))
      show wpAny _ _ (Builtin.SmallTypes.nextOf (.ref i2) >>= _) _ _ ⟨a2, g, d, tk2, os⟩
      refine wpAny_bind (D2.done ⟨a2, g, d, tk2, os⟩ _ _ (by rw [← hi2]; exact (D2.over st20 sb2 S.sep1_2)) fun q e hq he => ?_)
      replace hq : Heap.ExtBut i2 a2 q := hq
      exact hE q tk2 e (fun c o n x => hq _ _ (away n).2.2.2 (sb2.extBut _ _ (away n).2.2.1 (sb0.extBut _ _ (away n).1 x))) he
    · have hi1 : i = n1 := by omega
      refine wpAny_bind (D1.done ⟨a0, g, d, tk0, os⟩ _ _ (by rw [← hi1]; exact st10) fun q e hq he => ?_)
      replace hq : Heap.ExtBut i1 a0 q := hq
      exact hE q tk0 e (fun c o n x => hq _ _ (away n).2.2.1 (sb0.extBut _ _ (away n).1 x)) he
/-! .. as enumerate draws from it -/
theorem zs_nextOf {Q : Value → Shared → Prop} (S : ZipSep2 z TI TO i1 i2 fp1 fp2) (D1 : Draws prog w A.in1 i1 fp1 n1 P1 St1) (D2 : Draws prog w A.in1 i2 fp2 n2 P2 St2) (hz : ZS s.heap z TI TO f0 f1) (hf : F0 f0)
    (hTI : IsTupOf2 s.heap TI (.ref i1) (.ref i2)) (hTO : ∃ u v, IsTupOf2 s.heap TO u v) (st1 : St1 i s.heap) (st2 : St2 i s.heap) (l1 : i < n1) (l2 : i < n2)
    (hQ : ∀ x y h' tk, P1 i x → P2 i y → ZNew s.heap h' z TI TO i1 i2 St1 St2 (i + 1) x y → Q (.ref s.heap.objs.size) { s with heap := h', toks := tk }) : wpAny (model prog w) A (Builtin.SmallTypes.nextOf (.ref z)) Q E s := by
  have hT : s.TypeIs (.ref z) "zip" := ⟨_, hz, rfl⟩
  unfold Builtin.SmallTypes.nextOf
  exact wpAny_bind (wpAny_callSpecial?_slot (name := Str.ofString "__next__") hT F.slot_zip_next (wpAny_call_entry F.slot_zip_next hT F.entry_zip_next
    (zs_next S D1 D2 hz hf hTI hTO st1 st2 l1 l2 fun x y h' tk p1 p2 zn => wpAny_pure (hQ x y h' tk p1 p2 zn)) (F.args_zip_next_1 _)))
theorem zs_nextOf_end {Q : Value → Shared → Prop} (S : ZipSep2 z TI TO i1 i2 fp1 fp2) (D1 : Draws prog w A.in1 i1 fp1 n1 P1 St1) (D2 : Draws prog w A.in1 i2 fp2 n2 P2 St2) (hz : ZS s.heap z TI TO f0 f1) (hf : F0 f0)
    (hTI : IsTupOf2 s.heap TI (.ref i1) (.ref i2)) (hTO : ∃ u v, IsTupOf2 s.heap TO u v) (st1 : St1 i s.heap) (st2 : St2 i s.heap) (hi : i = min n1 n2)
    (hE : ∀ h' tk e, (∀ c o, c ∉ [z, TO, i1, i2] → s.heap.get? c = some o → h'.get? c = some o) → (∃ o, h'.get? e = some o ∧ o.cls = .type "StopIteration") → E (.ref e) { s with heap := h', toks := tk }) : wpAny (model prog w) A (Builtin.SmallTypes.nextOf (.ref z)) Q E s := by
  have hT : s.TypeIs (.ref z) "zip" := ⟨_, hz, rfl⟩
  unfold Builtin.SmallTypes.nextOf
  exact wpAny_bind (wpAny_callSpecial?_slot (name := Str.ofString "__next__") hT F.slot_zip_next (wpAny_call_entry F.slot_zip_next hT F.entry_zip_next
    (zs_end S D1 D2 hz hf hTI hTO st1 st2 hi hE) (F.args_zip_next_1 _)))
end
end HA

namespace HA
open PySem PySem.Spec PyProof.Rows L2 Builtin Builtin.Str

/-! ### short rules: enumerate, zip -/
section
variable {bk : BoxKind} {X : Cx} {W : WX} {fz : Bool} {k : Nat} {pos p tpos : Pos} {e e2 : Expr} {elts : List Expr} {kk : Nat} {tr : TDU}
theorem q_enumerate (hm : X.mg "enumerate" = none) (ha : PDV bk X W fz [e] tr) (hg : Gl X "enumerate" := by rfl) (hs : starEach [e] X.env = [(false, eval e X.env)] := by rfl) :
    PID bk X W fz (.Tuple elts kk tpos) (.Call (.Name "enumerate" p) [e] [] pos) (tEnumD tr) := pid_enum hg hm ha hs
theorem q_zip (hm : X.mg "zip" = none) (ha : PDV bk X W fz [e, e2] tr) (hg : Gl X "zip" := by rfl) (hs : starEach [e, e2] X.env = (false, eval e X.env) :: starEach [e2] X.env := by rfl) (hpl : (backTo pos (starEach [e2] X.env)).any (·.1) = false := by rfl) :
    PID bk X W fz (.Tuple elts kk tpos) (.Call (.Name "zip" p) [e, e2] [] pos) (tZipD tr) := pid_zip hg hm ha hs hpl
end

/-! ### readings, simplified -/
theorem en0 {r : RV} {env : En} {k : RV → Prop} : enGet (some r :: env) 0 k = k r := (rfl)
theorem enS {o : Option RV} {env : En} {n : Nat} {k : RV → Prop} : enGet (o :: env) (n + 1) k = enGet env n k := by
  unfold enGet
  rw [List.getElem?_cons_succ]
theorem eqOk_int {a b : Int} : eqOk (.int a) (.int b) = True := eq_true (.inr ⟨rfl, rfl⟩)
theorem eqOk_str {a b : Str} : eqOk (.str a) (.str b) = True := eq_true (.inl ⟨rfl, rfl⟩)
theorem eqv_int {a b : Int} : PyData.eqv (.int a) (.int b) = decide (a = b) := by
  show (a == b) = _
  rw [Bool.eq_iff_iff]; simp
theorem eqv_str {a b : Str} : PyData.eqv (.str a) (.str b) = decide (a = b) := by
  show (a == b) = _
  rw [Bool.eq_iff_iff]; simp
theorem atI0 {α : Type} {x : α} {xs : List α} : atI (x :: xs) 0 = some x := at0
theorem atI1 {α : Type} {x y : α} {xs : List α} : atI (x :: y :: xs) 1 = some y := by
  unfold atI ixN
  rw [if_pos (by omega), if_pos (by simp only [List.length_cons]; omega)]
  rfl
theorem atI2 {α : Type} {x y z : α} {xs : List α} : atI (x :: y :: z :: xs) 2 = some z := by
  unfold atI ixN
  rw [if_pos (by omega), if_pos (by simp only [List.length_cons]; omega)]
  rfl
theorem atI3 {α : Type} {x y z w : α} {xs : List α} : atI (x :: y :: z :: w :: xs) 3 = some w := by
  unfold atI ixN
  rw [if_pos (by omega), if_pos (by simp only [List.length_cons]; omega)]
  rfl
theorem ex_some {α : Type} {a : α} {p : α → Prop} : (∃ x, some a = some x ∧ p x) = p a := by
  refine propext ⟨fun ⟨x, e, h⟩ => ?_, fun h => ⟨a, rfl, h⟩⟩
  cases e
  exact h
theorem small2 {n : Nat} : ((n : Nat) ≤ sizeLine) = (n ≤ 16777216) := by rw [sizeLine_eq]
/-W-/
def onD (r : RV) (k : PyData → Prop) : Prop := match r with | .d x => k x | _ => False
def onI (x : PyData) (k : Int → Prop) : Prop := match x with | .int i => k i | _ => False
def onL (x : PyData) (k : List PyData → Prop) : Prop := match x with | .list xs => k xs | _ => False
def onOwn (r : RV) (k : List PyData → Prop) : Prop := match r with | .own (.lst xs) => k xs | _ => False
def on1 {α : Type} (rs : List α) (k : α → Prop) : Prop := match rs with | [a] => k a | _ => False
def on2 {α : Type} (rs : List α) (k : α → α → Prop) : Prop := match rs with | [a, b] => k a b | _ => False
def on3 {α : Type} (rs : List α) (k : α → α → α → Prop) : Prop := match rs with | [a, b, c] => k a b c | _ => False
/-W2-/
theorem Sz.mono {n m : Nat} {i : Int} (h : Sz n i) (l : n ≤ m) : Sz m i := Nat.lt_of_lt_of_le h (Nat.pow_le_pow_right (by decide) l)
theorem Sz.mul {n m : Nat} {i j : Int} (h : Sz n i) (g : Sz m j) : Sz (n + m) (i * j) := by
  unfold Sz at *
  rw [Int.natAbs_mul, Nat.pow_add]
  exact Nat.mul_lt_mul'' h g
theorem Sz.add {n : Nat} {i j : Int} (h : Sz n i) (g : Sz n j) : Sz (n + 1) (i + j) := by
  unfold Sz at *
  rw [Nat.pow_succ]
  have := Int.natAbs_add_le i j
  omega
theorem Sz.neg {n : Nat} {i : Int} (h : Sz n i) : Sz n (-i) := by unfold Sz at *; rw [Int.natAbs_neg]; exact h
theorem Sz.sub {n : Nat} {i j : Int} (h : Sz n i) (g : Sz n j) : Sz (n + 1) (i - j) := by rw [Int.sub_eq_add_neg]; exact h.add g.neg
theorem Sz.add' {n m : Nat} {i j : Int} (h : Sz n i) (g : Sz m j) : Sz (max n m + 1) (i + j) := (h.mono (Nat.le_max_left _ _)).add (g.mono (Nat.le_max_right _ _))
theorem Sz.lit {n : Nat} {i : Int} (h : i.natAbs < 2 ^ n := by decide) : Sz n i := h
theorem Sz.of_le {n : Nat} {i : Int} {k : Nat} (h : i.natAbs ≤ k) (hk : k < 2 ^ n := by decide) : Sz n i := Nat.lt_of_le_of_lt h hk
theorem Sz.sm {n : Nat} {i : Int} (h : Sz n i) (hn : n ≤ 8000 := by decide) : Sm i := Nat.lt_of_lt_of_le h (Nat.pow_le_pow_right (by decide) hn)
theorem Sz.mb {n m : Nat} {i j : Int} (h : Sz n i) (g : Sz m j) (hn : n + m ≤ 134217728 := by decide) : Mb i j := .inr (.inr ⟨n, m, h, g, hn⟩)
/-! literal texts -/
theorem char_lt2 (c : Char) : c.toNat < 0x110000 := by
  rcases c.valid with h | ⟨_, h⟩
  · exact Nat.lt_trans h (by decide)
  · exact h
theorem strOk_lit (s : String) : PyData.strOk (Str.ofString s) = true := by
  unfold PyData.strOk
  rw [Str.ofString_eq_toList, Array.all_eq_true']
  intro c hc
  have hc : c ∈ (s.toList.map Char.toNat) := by simpa using hc
  obtain ⟨d, _, rfl⟩ := List.mem_map.mp hc
  exact decide_eq_true (char_lt2 d)
theorem ofString_inj {a b : String} : (Str.ofString a = Str.ofString b) = (a = b) := by
  refine propext ⟨fun h => ?_, fun h => by rw [h]⟩
  rw [Str.ofString_eq_toList, Str.ofString_eq_toList] at h
  have h : (a.toList.map Char.toNat) = b.toList.map Char.toNat := by simpa using h
  have : a.toList = b.toList := by
    refine List.map_inj_right (fun x y e => ?_) |>.mp h
    exact Char.toNat_inj.mp e
  exact String.toList_inj.mp this
theorem shaped_lit (s : String) : SeqAt.shaped (.str (Str.ofString s)) = true := by
  show (PyData.strOk (Str.ofString s) && decide (0 ≤ 64)) = true
  rw [strOk_lit]; rfl
theorem shaped_int {i : Int} : SeqAt.shaped (.int i) = true := rfl
theorem shaped_bool {i : Bool} : SeqAt.shaped (.bool i) = true := rfl
theorem shaped_none : SeqAt.shaped .none = true := rfl
theorem shaped_leaf {x : PyData} {xs : List PyData} (h : x.canLay0 = true) (d : x.depth = 0) : SeqAt.shaped (.list (x :: xs)) = SeqAt.shaped (.list xs) := by
  show ((x.canLay0 && PyData.canLayAll0 xs) && decide (max x.depth (PyData.depthAll xs) + 1 ≤ 64)) = (PyData.canLayAll0 xs && decide (PyData.depthAll xs + 1 ≤ 64))
  rw [h, d, Nat.zero_max, Bool.true_and]
theorem shaped_c0 : SeqAt.shaped (.list []) = true := (rfl)
theorem shaped_c1 {s : String} {xs : List PyData} : SeqAt.shaped (.list (.str (Str.ofString s) :: xs)) = SeqAt.shaped (.list xs) := shaped_leaf (strOk_lit s) rfl
theorem shaped_c2 {i : Int} {xs : List PyData} : SeqAt.shaped (.list (.int i :: xs)) = SeqAt.shaped (.list xs) := shaped_leaf rfl rfl
theorem shaped_c3 {xs : List PyData} : SeqAt.shaped (.list (.none :: xs)) = SeqAt.shaped (.list xs) := shaped_leaf rfl rfl
theorem w_err {D : SE} {env : En} : D.err env = fun e => D.ex e env := (rfl)
/-- a list or tuple whose items are shaped and flat enough -/
def flat (n : Nat) (x : PyData) : Prop := x.canLay0 = true ∧ x.depth ≤ n
theorem flat.int {n : Nat} {i : Int} : flat n (.int i) := ⟨rfl, Nat.zero_le _⟩
theorem flat.non {n : Nat} : flat n .none := ⟨rfl, Nat.zero_le _⟩
theorem flat.bl {n : Nat} {b : Bool} : flat n (.bool b) := ⟨rfl, Nat.zero_le _⟩
theorem flat.lit {n : Nat} (s : String) : flat n (.str (Str.ofString s)) := ⟨strOk_lit s, Nat.zero_le _⟩
theorem flat.all {n : Nat} : ∀ {xs : List PyData}, (∀ x ∈ xs, flat n x) → PyData.canLayAll0 xs = true ∧ PyData.depthAll xs ≤ n
  | [], _ => ⟨rfl, Nat.zero_le _⟩
  | x :: xs, h => by
    obtain ⟨h1, h2⟩ := h x List.mem_cons_self
    obtain ⟨h3, h4⟩ := flat.all (xs := xs) fun y hy => h y (List.mem_cons_of_mem _ hy)
    refine ⟨?_, Nat.max_le.mpr ⟨h2, h4⟩⟩
    show (x.canLay0 && PyData.canLayAll0 xs) = true
    rw [h1, h3]; rfl
theorem flat.tup {n : Nat} {xs : List PyData} (h : ∀ x ∈ xs, flat n x) : flat (n + 1) (.tuple xs) := ⟨(flat.all h).1, Nat.succ_le_succ (flat.all h).2⟩
theorem flat.lst {n : Nat} {xs : List PyData} (h : ∀ x ∈ xs, flat n x) : flat (n + 1) (.list xs) := ⟨(flat.all h).1, Nat.succ_le_succ (flat.all h).2⟩
theorem flat.mono {n m : Nat} {x : PyData} (h : flat n x) (l : n ≤ m) : flat m x := ⟨h.1, Nat.le_trans h.2 l⟩
theorem flat.sh {n : Nat} {x : PyData} (h : flat n x) (hn : n ≤ 64 := by decide) : SeqAt.shaped x = true := by
  unfold SeqAt.shaped
  rw [h.1, decide_eq_true (Nat.le_trans h.2 hn)]; rfl
theorem flat_ints {n : Nat} {x : PyData} : flat n x → flat n x := id
theorem fal {p : PyData → Prop} {x : PyData} {xs : List PyData} (h : p x) (t : ∀ y ∈ xs, p y) : ∀ y ∈ x :: xs, p y := fun y hy => by
  rcases List.mem_cons.mp hy with rfl | hy
  · exact h
  · exact t y hy
theorem fan {p : PyData → Prop} : ∀ y ∈ ([] : List PyData), p y := fun y hy => by cases hy
theorem sm_lt {i : Int} (h : i.natAbs < 18446744073709551616) : Sm i = True := eq_true (Sm.of (by simpa using h))
theorem mb_lit_l {i j : Int} (h : i.natAbs < 18446744073709551616) : Mb i j = True := eq_true (.inl (by simpa using h))
theorem mb_lit_r {i j : Int} (h : j.natAbs < 18446744073709551616) : Mb i j = True := eq_true (.inr (.inl (by simpa using h)))
/-! one of some items -/
def spPick : SpD := fun rs Q _ => match rs with
  | [.box, .d (.list xs)] => 1 ≤ xs.length ∧ xs.length < 1000000 ∧ ∀ x ∈ xs, Q (.d x)
  | [.box, .d (.tuple xs)] => 1 ≤ xs.length ∧ xs.length < 1000000 ∧ ∀ x ∈ xs, Q (.d x)
  | _ => False
theorem w_pickT {xs : List PyData} {Q : RV → Prop} {Ex : Err → Prop} : spPick [.box, .d (.tuple xs)] Q Ex = (1 ≤ xs.length ∧ xs.length < 1000000 ∧ ∀ x ∈ xs, Q (.d x)) := (rfl)
theorem w_pick {xs : List PyData} {Q : RV → Prop} {Ex : Err → Prop} : spPick [.box, .d (.list xs)] Q Ex = (1 ≤ xs.length ∧ xs.length < 1000000 ∧ ∀ x ∈ xs, Q (.d x)) := (rfl)
theorem w_draw {m : Int} {Q : RV → Prop} {Ex : Err → Prop} : spDraw [.box, .d (.int m)] Q Ex = (1 ≤ m ∧ Sm m ∧ ∀ r : Int, 0 ≤ r → r < m → Q (.d (.int r))) := (rfl)
theorem atI_mem {xs : List PyData} {r : Int} (h0 : 0 ≤ r) (h1 : r < xs.length) : ∃ x, atI xs r = some x ∧ x ∈ xs := by
  unfold atI ixN
  rw [if_pos h0, if_pos h1]
  have h2 : r.toNat < xs.length := by omega
  exact ⟨xs[r.toNat], List.getElem?_eq_getElem h2, List.getElem_mem h2⟩
/-! loops -/
theorem for_ind {α : Type} {g : TGD} {tb : TSD} {D : SE} (f : α → PyData) (I : List α → En → Prop) (h0 : ∀ env, I [] env → D.nx env)
    (h1 : ∀ x xs env (K : En → Prop), (∀ env2, I xs env2 → K env2) → I (x :: xs) env → g (f x) env fun env1 => tb { D with nx := K, ct := K, bk := D.nx } env1) : ∀ xs env, I xs env → forD g tb D (xs.map f) env
  | [], env, h => h0 env h
  | x :: xs, env, h => h1 x xs env _ (fun env2 h2 => for_ind f I h0 h1 xs env2 h2) h
theorem for_ind1 {g : TGD} {tb : TSD} {D : SE} (I : List PyData → En → Prop) (h0 : ∀ env, I [] env → D.nx env)
    (h1 : ∀ x xs env (K : En → Prop), (∀ env2, I xs env2 → K env2) → I (x :: xs) env → g x env fun env1 => tb { D with nx := K, ct := K, bk := D.nx } env1) : ∀ xs env, I xs env → forD g tb D xs env
  | [], env, h => h0 env h
  | x :: xs, env, h => h1 x xs env _ (fun env2 h2 => for_ind1 I h0 h1 xs env2 h2) h
theorem w_wipe0 {env : En} : wipeD env [] = env := (rfl)
theorem w_wipe1 {env : En} {v : Nat} {vs : List Nat} : wipeD env (v :: vs) = (wipeD env vs).set v none := (rfl)
/-- one turn of a list comprehension -/
def lcStep (g : TGD) (tt : TDT) (te : TD) (vs : List Nat) (env : En) (x : PyData) (K : Option PyData → Prop) : Prop :=
  g x (wipeD env vs) fun env2 => tt env2 (fun b => if b = true then te env2 (fun r => r.arg fun r2 => onD r2 fun y => K (some y)) (fun _ => False) else K none) fun _ => False
theorem lc_eq {g : TGD} {tt : TDT} {te : TD} {vs : List Nat} {env : En} {Q : RV → Prop} {x : PyData} {xs acc : List PyData} (h : lcStep g tt te vs env x fun o => match o with
      | some y => acc.length < sizeLine ∧ lcD g tt te vs env Q xs (acc ++ [y])
      | none => lcD g tt te vs env Q xs acc) : lcD g tt te vs env Q (x :: xs) acc := h
theorem lc_det {α : Type} {g : TGD} {tt : TDT} {te : TD} {vs : List Nat} {env : En} {Q : RV → Prop} (f : α → PyData) (F : α → Option PyData) : ∀ (as : List α) (acc : List PyData), acc.length + as.length ≤ sizeLine → (∀ a ∈ as, ∀ K : Option PyData → Prop, K (F a) → lcStep g tt te vs env (f a) K) →
    Q (.own (.lst (acc ++ as.filterMap F))) → lcD g tt te vs env Q (as.map f) acc
  | [], acc, _, _, q => by
    rw [List.filterMap_nil, List.append_nil] at q
    exact q
  | a :: as, acc, hl, h, q => by
    rw [List.length_cons] at hl
    refine lc_eq (h a List.mem_cons_self _ ?_)
    cases e : F a with
    | some y =>
      refine ⟨by omega, lc_det f F as (acc ++ [y]) (by rw [List.length_append, List.length_singleton]; omega) (fun b hb => h b (List.mem_cons_of_mem _ hb)) ?_⟩
      rw [List.filterMap_cons_some e] at q
      rw [List.append_assoc]
      exact q
    | none =>
      refine lc_det f F as acc (by omega) (fun b hb => h b (List.mem_cons_of_mem _ hb)) ?_
      rw [List.filterMap_cons_none e] at q
      exact q
/-- what comes of each is among what R tells -/
theorem lc_rel {α : Type} {g : TGD} {tt : TDT} {te : TD} {vs : List Nat} {env : En} {Q : RV → Prop} (f : α → PyData) (R : α → PyData → Prop) : ∀ (as : List α) (acc : List PyData), acc.length + as.length ≤ sizeLine → (∀ a ∈ as, ∀ K : Option PyData → Prop, (∀ y, R a y → K (some y)) → lcStep g tt te vs env (f a) K) →
    (∀ ys, Paired R as ys → Q (.own (.lst (acc ++ ys)))) → lcD g tt te vs env Q (as.map f) acc
  | [], acc, _, _, q => by
    have := q [] .nil
    rw [List.append_nil] at this
    exact this
  | a :: as, acc, hl, h, q => by
    rw [List.length_cons] at hl
    refine lc_eq (h a List.mem_cons_self _ fun y hy => ?_)
    refine ⟨by omega, lc_rel f R as (acc ++ [y]) (by rw [List.length_append, List.length_singleton]; omega) (fun b hb => h b (List.mem_cons_of_mem _ hb)) fun ys hys => ?_⟩
    rw [List.append_assoc]
    exact q (y :: ys) (.cons hy hys)
theorem Paired.all {α β : Type} {p : β → Prop} : ∀ {as : List α} {ys : List β}, Paired (fun _ y => p y) as ys → ys.length = as.length ∧ ∀ y ∈ ys, p y
  | _, _, .nil => ⟨rfl, fun y hy => by cases hy⟩
  | _, _, .cons h t => by
    obtain ⟨h1, h2⟩ := Paired.all t
    refine ⟨by simp [h1], fun y hy => ?_⟩
    rcases List.mem_cons.mp hy with rfl | hy
    · exact h
    · exact h2 y hy
theorem rngL_map (n : Nat) : rngL 0 n = (List.range n).map fun i => PyData.int (i : Nat) := by
  unfold rngL
  refine List.map_congr_left fun i _ => ?_
  rw [Int.zero_add]
/-- all that come are so -/
theorem lc_all {α : Type} {g : TGD} {tt : TDT} {te : TD} {vs : List Nat} {env : En} {Q : RV → Prop} (f : α → PyData) (P : PyData → Prop) (as : List α) (hl : as.length ≤ sizeLine) (h : ∀ a ∈ as, ∀ K : Option PyData → Prop, (∀ y, P y → K (some y)) → lcStep g tt te vs env (f a) K)
    (q : ∀ ys : List PyData, ys.length = as.length → (∀ y ∈ ys, P y) → Q (.own (.lst ys))) : lcD g tt te vs env Q (as.map f) [] :=
  lc_rel f (fun _ y => P y) as [] (by rw [List.length_nil]; omega) h fun ys hy => q ys (Paired.all hy).1 (Paired.all hy).2
/-- while, by a measure -/
theorem while_ind {c : TD} {tb : TSD} {D : SE} {env : En} (Wd : Nat → En → Prop) (m : Nat) (h0 : Wd m env)
    (h1 : ∀ m env (K : En → Prop), (∀ m2 env2, m2 < m → Wd m2 env2 → K env2) → Wd m env → c env (fun r => r.bl fun b => if b = true then tb { D with nx := K, ct := K, bk := D.nx } env else D.nx env) (D.err env)) : tWhileD c tb D env :=
  ⟨Wd, ⟨m, h0⟩, fun m env h => h1 m env _ (fun m2 env2 l h2 => ⟨m2, l, h2⟩) h⟩
/-- some of them are left out -/
theorem lc_sub {α : Type} {g : TGD} {tt : TDT} {te : TD} {vs : List Nat} {env : En} {Q : RV → Prop} (f : α → PyData) (P : PyData → Prop) : ∀ (as : List α) (acc : List PyData), acc.length + as.length ≤ sizeLine → (∀ a ∈ as, ∀ K : Option PyData → Prop, (∀ y, P y → K (some y)) → K none → lcStep g tt te vs env (f a) K) →
    (∀ ys : List PyData, ys.length ≤ as.length → (∀ y ∈ ys, P y) → Q (.own (.lst (acc ++ ys)))) → lcD g tt te vs env Q (as.map f) acc
  | [], acc, _, _, q => by
    have := q [] (Nat.le_refl _) fan
    rw [List.append_nil] at this
    exact this
  | a :: as, acc, hl, h, q => by
    rw [List.length_cons] at hl
    refine lc_eq (h a List.mem_cons_self _ (fun y hy => ?_) ?_)
    · refine ⟨by omega, lc_sub f P as (acc ++ [y]) (by rw [List.length_append, List.length_singleton]; omega) (fun b hb => h b (List.mem_cons_of_mem _ hb)) fun ys hl hys => ?_⟩
      rw [List.append_assoc]
      exact q (y :: ys) (by rw [List.length_cons, List.length_cons]; omega) (fal hy hys)
    · exact lc_sub f P as acc (by omega) (fun b hb => h b (List.mem_cons_of_mem _ hb)) fun ys hl hys => q ys (by rw [List.length_cons]; omega) hys
theorem as_map {α : Type} {f : α → PyData} {P : α → Prop} : ∀ {ys : List PyData}, (∀ y ∈ ys, ∃ a, y = f a ∧ P a) → ∃ as : List α, ys = as.map f ∧ (∀ a ∈ as, P a) ∧ as.length = ys.length
  | [], _ => ⟨[], rfl, (fun a h => by cases h), rfl⟩
  | y :: ys, h => by
    obtain ⟨a, rfl, ha⟩ := h y List.mem_cons_self
    obtain ⟨as, rfl, h1, h2⟩ := as_map (ys := ys) fun z hz => h z (List.mem_cons_of_mem _ hz)
    refine ⟨a :: as, rfl, fun b hb => ?_, by rw [List.length_cons, List.length_cons, h2]⟩
    rcases List.mem_cons.mp hb with rfl | hb
    · exact ha
    · exact h1 b hb
theorem enumF_eq : ∀ (k : Nat) (xs : List PyData), enumF k xs = (xs.zipIdx k).map fun x => .tuple [.int (x.2 : Nat), x.1]
  | _, [] => rfl
  | k, x :: xs => by rw [enumF, enumF_eq (k + 1) xs, List.zipIdx_cons, List.map_cons]
theorem cut_len {α : Type} {xs : List α} {l h : Option Int} : (cutD xs l h).length ≤ xs.length := by
  unfold cutD
  rw [List.length_take, List.length_drop]
  omega
theorem mem_cut {α : Type} {xs : List α} {l h : Option Int} {x : α} (m : x ∈ cutD xs l h) : x ∈ xs := by
  unfold cutD at m
  exact List.mem_of_mem_drop (List.mem_of_mem_take m)
/-- one state, and each of the items -/
theorem for_mem {α : Type} {g : TGD} {tb : TSD} {D : SE} (f : α → PyData) (I : En → Prop) (as : List α) (h0 : ∀ env, I env → D.nx env)
    (h1 : ∀ x ∈ as, ∀ env (K : En → Prop), (∀ env2, I env2 → K env2) → I env → g (f x) env fun env1 => tb { D with nx := K, ct := K, bk := D.nx } env1) : ∀ env, I env → forD g tb D (as.map f) env := fun env h =>
  for_ind f (fun xs env => I env ∧ ∀ x ∈ xs, x ∈ as) (fun env h => h0 env h.1) (fun x xs env K hK h => h1 x (h.2 x List.mem_cons_self) env K (fun env2 h2 => hK env2 ⟨h2, fun y hy => h.2 y (List.mem_cons_of_mem _ hy)⟩) h.1) as env ⟨h, fun _ h => h⟩
theorem for_mem1 {g : TGD} {tb : TSD} {D : SE} (I : En → Prop) (as : List PyData) (h0 : ∀ env, I env → D.nx env)
    (h1 : ∀ x ∈ as, ∀ env (K : En → Prop), (∀ env2, I env2 → K env2) → I env → g x env fun env1 => tb { D with nx := K, ct := K, bk := D.nx } env1) : ∀ env, I env → forD g tb D as env := fun env h =>
  for_ind1 (fun xs env => I env ∧ ∀ x ∈ xs, x ∈ as) (fun env h => h0 env h.1) (fun x xs env K hK h => h1 x (h.2 x List.mem_cons_self) env K (fun env2 h2 => hK env2 ⟨h2, fun y hy => h.2 y (List.mem_cons_of_mem _ hy)⟩) h.1) as env ⟨h, fun _ h => h⟩
/-- the first place at which something is so -/
theorem for_find {g : TGD} {tb : TSD} {D : SE} (f : Nat → PyData) (n : Nat) (envs : En → Prop) (bad : Nat → Bool) (R : Nat → Prop)
    (step : ∀ i, i < n → ∀ env (K : En → Prop), envs env → (bad i = true → R i) → (bad i = false → ∀ env2, envs env2 → K env2) → g (f i) env fun env1 => tb { D with nx := K, ct := K, bk := D.nx } env1)
    (fin : (List.range n).find? bad = none → ∀ env, envs env → D.nx env) (ret : ∀ i, (List.range n).find? bad = some i → R i) : ∀ env, envs env → forD g tb D ((List.range n).map f) env := by
  intro env he
  refine for_ind f (fun ys env => envs env ∧ (List.range n).find? bad = ys.find? bad ∧ ∀ y ∈ ys, y < n) ?_ ?_ (List.range n) env ⟨he, rfl, fun y hy => List.mem_range.mp hy⟩
  · rintro env ⟨h1, h2, _⟩
    exact fin h2 env h1
  · rintro x xs env K hK ⟨h1, h2, h3⟩
    refine step x (h3 x List.mem_cons_self) env K h1 (fun hb => ret x ?_) fun hb env2 h4 => hK env2 ⟨h4, ?_, fun y hy => h3 y (List.mem_cons_of_mem _ hy)⟩
    · rw [h2, List.find?_cons, hb]
    · rw [h2, List.find?_cons, hb]
theorem w_for0 {g : TGD} {tb : TSD} {D : SE} {env : En} : forD g tb D [] env = D.nx env := (rfl)
theorem w_for1 {g : TGD} {tb : TSD} {D : SE} {env : En} {x : PyData} {xs : List PyData} : forD g tb D (x :: xs) env = g x env fun env1 => tb { D with nx := forD g tb D xs, ct := forD g tb D xs, bk := D.nx } env1 := (rfl)
theorem enumR (xs : List PyData) : enumF 0 xs = (List.range xs.length).map fun i => .tuple [.int (i : Nat), xs.getD i .none] := by
  rw [enumF_eq]
  apply List.ext_getElem?
  intro i
  rw [List.getElem?_map, List.getElem?_map, List.getElem?_zipIdx]
  by_cases h : i < xs.length
  · rw [List.getElem?_eq_getElem h, List.getElem?_range h]
    simp only [Option.map_some, Nat.zero_add, List.getD_eq_getElem?_getD, List.getElem?_eq_getElem h, Option.getD_some]
  · rw [List.getElem?_eq_none (by omega), List.getElem?_eq_none (by rw [List.length_range]; omega)]
    rfl
theorem rng1R (n : Nat) : rngL 1 n = (List.range n).map fun i => .int (1 + (i : Nat)) := rfl
theorem zipR (xs ys : List PyData) : zipL xs ys = (List.range (min xs.length ys.length)).map fun i => .tuple [xs.getD i .none, ys.getD i .none] := by
  apply List.ext_getElem?
  intro i
  rw [List.getElem?_map]
  by_cases h : i < min xs.length ys.length
  · have h1 : i < (zipL xs ys).length := by rw [zipL_len]; exact h
    obtain ⟨x, y, e1, e2, e3⟩ := zipL_get (List.getElem?_eq_getElem h1)
    rw [List.getElem?_eq_getElem h1, e3, List.getElem?_range h]
    simp only [Option.map_some, List.getD_eq_getElem?_getD, e1, e2, Option.getD_some]
  · rw [List.getElem?_eq_none (by rw [zipL_len]; omega), List.getElem?_eq_none (by rw [List.length_range]; omega)]
    rfl
theorem cut_tail {α : Type} (xs : List α) : cutD xs (some 1) none = xs.drop 1 := by
  unfold cutD
  have e1 : HT.sIx xs.length 0 (some 1) = min 1 xs.length := HT.sIx_nat xs.length 0 1
  have e2 : HT.sIx xs.length xs.length none = xs.length := rfl
  rw [e1, e2]
  cases xs with
  | nil => rfl
  | cons x r =>
    have e3 : min 1 (x :: r).length = 1 := by rw [List.length_cons]; omega
    rw [e3]
    exact List.take_of_length_le (by rw [List.length_drop]; exact Nat.le_refl _)
theorem cut_to {α : Type} (xs : List α) (i : Nat) : cutD xs none (some (i : Int)) = xs.take i := by
  unfold cutD
  have e1 : HT.sIx xs.length xs.length (some (i : Int)) = min i xs.length := HT.sIx_nat xs.length xs.length i
  have e2 : HT.sIx xs.length 0 none = 0 := rfl
  rw [e1, e2, List.drop_zero, Nat.sub_zero]
  rw [List.take_eq_take_iff]
  omega
theorem cut_from {α : Type} (xs : List α) (i : Nat) : cutD xs (some (i : Int)) none = xs.drop i := by
  unfold cutD
  have e1 : HT.sIx xs.length 0 (some (i : Int)) = min i xs.length := HT.sIx_nat xs.length 0 i
  have e2 : HT.sIx xs.length xs.length none = xs.length := rfl
  rw [e1, e2]
  by_cases h : i ≤ xs.length
  · rw [Nat.min_eq_left h]
    exact List.take_of_length_le (by rw [List.length_drop]; exact Nat.le_refl _)
  · rw [Nat.min_eq_right (by omega), List.drop_of_length_le (Nat.le_refl _), List.drop_of_length_le (by omega), List.take_nil]
theorem atI_nat {α : Type} {xs : List α} {i : Nat} (h : i < xs.length) : atI xs (i : Int) = some xs[i] := by
  unfold atI ixN
  rw [if_pos (by omega), if_pos (by omega)]
  exact List.getElem?_eq_getElem h
theorem Tm.len {n k : Nat} {xs : List PyData} (h : Tm n k (.tuple xs)) : xs.length ≤ n + 1 := by
  have joinLen : ∀ ts : List Str, ts.length ≤ (Str.join ", " ts).length + 1 := by
    intro ts
    induction ts with
    | nil => exact Nat.zero_le _
    | cons t r ih =>
      cases r with
      | nil => show 1 ≤ _ + 1; omega
      | cons u r =>
        show _ ≤ (t ++ ", " ++ Str.join ", " (u :: r)).length + 1
        rw [strLen_append, strLen_append]
        have e : (Str.ofString ", ").length = 2 := rfl
        rw [List.length_cons] at ih ⊢
        rw [List.length_cons]
        omega
  have e : (PyData.tuple xs).shown.length = (tupleText (PyData.shownAll xs)).length := rfl
  have h1 := h.n
  rw [e] at h1
  unfold tupleText at h1
  rw [strLen_append, strLen_append] at h1
  have h2 := joinLen (PyData.shownAll xs)
  have h3 : (PyData.shownAll xs).length = xs.length := by
    clear h h1 h2 e
    induction xs with
    | nil => rfl
    | cons x r ih => simp only [PyData.shownAll, List.length_cons, ih]
  omega
theorem cutT0 {α : Type} {xs : List α} : cutD xs none (some 0) = xs.take 0 := cut_to xs 0
theorem cutF0 {α : Type} {xs : List α} : cutD xs (some 0) none = xs.drop 0 := cut_from xs 0
theorem cutT1 {α : Type} {xs : List α} : cutD xs none (some 1) = xs.take 1 := cut_to xs 1
theorem cutF1 {α : Type} {xs : List α} : cutD xs (some 1) none = xs.drop 1 := cut_from xs 1
theorem cutT2 {α : Type} {xs : List α} : cutD xs none (some 2) = xs.take 2 := cut_to xs 2
theorem cutF2 {α : Type} {xs : List α} : cutD xs (some 2) none = xs.drop 2 := cut_from xs 2
theorem cutT3 {α : Type} {xs : List α} : cutD xs none (some 3) = xs.take 3 := cut_to xs 3
theorem cutF3 {α : Type} {xs : List α} : cutD xs (some 3) none = xs.drop 3 := cut_from xs 3
theorem cutT4 {α : Type} {xs : List α} : cutD xs none (some 4) = xs.take 4 := cut_to xs 4
theorem cutF4 {α : Type} {xs : List α} : cutD xs (some 4) none = xs.drop 4 := cut_from xs 4
end HA

namespace HA
open PySem PySem.Spec PyProof.Rows L2

/-! ### data without lists and dicts stand through a restart -/
mutual
def noL : PyData → Bool
  | .list _ => false
  | .dict _ => false
  | .tuple xs => noLs xs
  | _ => true
def noLs : List PyData → Bool
  | [] => true
  | x :: xs => noL x && noLs xs
end
def LD (o : HO) : Prop := (∃ xs, o = .lst xs) ∨ ∃ kvs, o = .dK kvs
section
variable {K : PySem.W.Frag} {F F' : Hp}
theorem sqT_keep (h : ∀ a o, F a = some o → ¬ LD o → F' a = some o) {a : Addr} {xs : List V} (q : SqT K F a xs) : SqT K F' a xs := by
  rcases q with (q | ⟨o, q⟩) | q
  · exact .inl (.inl (h _ _ q (by rintro (⟨ys, e⟩ | ⟨ys, e⟩) <;> cases e)))
  · exact .inl (.inr ⟨o, h _ _ q (by rintro (⟨ys, e⟩ | ⟨ys, e⟩) <;> cases e)⟩)
  · exact .inr q
mutual
theorem Rp.keep (h : ∀ a o, F a = some o → ¬ LD o → F' a = some o) : ∀ {d : PyData} {v : V}, noL d = true → Rp K F v d → Rp K F' v d
  | .none, _, _, r => by cases r; exact .non
  | .bool _, _, _, r => by cases r; exact .bl _
  | .int _, _, _, r => by cases r; exact .int _
  | .str _, _, _, r => by cases r; exact .str _
  | .list _, _, n, _ => by simp [noL] at n
  | .dict _, _, n, _ => by simp [noL] at n
  | .tuple xs, _, n, r => by
    cases r with
    | tup h1 h2 => exact .tup (sqT_keep h h1) (RpAll.keep h (by simpa [noL] using n) h2)
theorem RpAll.keep (h : ∀ a o, F a = some o → ¬ LD o → F' a = some o) : ∀ {ds : List PyData} {vs : List V}, noLs ds = true → RpAll K F vs ds → RpAll K F' vs ds
  | [], _, _, r => by cases r; exact .nil
  | d :: ds, _, n, r => by
    cases r with
    | cons h1 h2 =>
      have n' : noL d = true ∧ noLs ds = true := by simpa [noLs] using n
      exact .cons (Rp.keep h n'.1 h1) (RpAll.keep h n'.2 h2)
end
end
/-- the box, and a datum beside it -/
def lawEnv2 (m : Nat) (x : PyData) : En := none :: some .box :: some (.d x) :: List.replicate (m - 3) none
section
variable {P : Program} {w : World} {K : PySem.W.Frag} {mg : Str → Option Value} {base : Heap} {k : Nat} {f : Addr} {fd : FuncData} {bk : BoxKind}
theorem restart2 {X : Cx} {W : WX} {D : Ends} {t : TSD} {σ : Sg} {H F : Hp} {b : Addr} {l : List Addr} {Dd : SE} {env : En} (hb : bk.ok H b l) (hl : l ≠ []) (hkl : ∀ a ∈ l, ∃ o, H a = some o ∧ LD o) (hF : Same F H) (hlen : env.length = σ.length)
    (henv : ∀ (i : Nat) (r : RV), env[i]? = some (some r) → (r = .box ∧ σ[i]? = some (some (.ref b))) ∨ ∃ x v, r = .d x ∧ noL x = true ∧ σ[i]? = some (some v) ∧ Rp X.K F v x)
    (en : EndsOk bk X W ⟨fun a => if a ∈ l then none else H a, b, l⟩ H D Dd) (q : t Dd env) : liftS bk X W t D σ H := by
  have ok : AOk bk ⟨fun a => if a ∈ l then none else H a, b, l⟩ H := by
    refine ⟨fun a u h => ?_, fun a m => ?_, .inr hb⟩
    · have h' : (if a ∈ l then none else H a) = some u := h
      split at h'
      · cases h'
      · exact h'
    · show (if a ∈ l then none else H a) = none
      rw [if_pos m]
  have kp : ∀ a o, F a = some o → ¬ LD o → (fun a => if a ∈ l then none else H a) a = some o := fun a o e n => by
    show (if a ∈ l then none else H a) = some o
    rw [if_neg (fun m => ?_)]
    · exact hF a o e
    · obtain ⟨o', e1, e2⟩ := hkl a m
      rw [hF a o e] at e1
      cases e1
      exact n e2
  refine ⟨⟨fun a => if a ∈ l then none else H a, b, l⟩, H, ⟨fun a => if a ∈ l then none else H a, b, l⟩, env, Dd, ok.box, Ext.refl ok, ⟨hlen, fun i r h => ?_, fun i j o o' v _ h => ?_⟩, en, q⟩
  · rcases henv i r h with ⟨rfl, e⟩ | ⟨x, v, rfl, hn, e, rp⟩
    · exact ⟨_, e, hl, rfl⟩
    · exact ⟨v, e, Rp.keep kp hn rp⟩
  · rcases henv i _ h with ⟨e, _⟩ | ⟨x, v, e, _⟩ <;> cases e
theorem FnG.law2 {N : List Str} {st s0 : Stmt} {rest : List Stmt} {D : TSD} {spBox : SpD} {boxOk : Ow → Prop} {te : TD} {x : PyData} (F : Fun K "law" "law" st f fd) (S : FnScope N ["script"] (defScope st)) (hN : 3 ≤ N.length) (hbody : defBody st = s0 :: rest)
    (b0 : ∀ (cdv : Value) (A : Around) (outer : List Env) (s : Shared) (H : Hp) (E : XK), Room k (A.deeper (envOfC "law" (defScope st) s.heap.objs.size f cdv)) → A.guards = some [] →
      PSD bk (cxOf (L2.CX P w) P w K mg base N "law" (defScope st) f cdv A outer s H E) (WOf E) s0 (tParD 1 2 (tConsO (tFn 1 spBox (tConsD (tVarD 0) tNilD)) (tConsO te tNilD))) ∧
      PSsD bk (cxOf (L2.CX P w) P w K mg base N "law" (defScope st) f cdv A outer s H E) (WOf E) rest D)
    (hte : ∀ env Q Ex, Q (.d x) → te env Q Ex) (hx : noL x = true)
    (hbox : ∀ ns Q Ex, ns.length ≤ 63 → (∀ o, boxOk o → Q (.own o)) → spBox [.scr ns] Q Ex)
    (hk : ∀ (F H : Hp) (b : Addr) (o : Ow), boxOk o → OwR K F H b o → F b = none → Same F H → ∃ l, l ≠ [] ∧ bk.ok H b l)
    (hkl : ∀ (H : Hp) (b : Addr) (l : List Addr), bk.ok H b l → ∀ a ∈ l, ∃ o, H a = some o ∧ LD o)
    (hd : D lawEnds (lawEnv2 N.length x)) : FnG P w K mg base (k + 1) f fd ["script"] (spLaw K) :=
  FnG.body F S (fun vs H Q E h => by obtain ⟨a, ns, rfl, _⟩ := h; rfl) fun cdv A outer s H vs Q E hr hg hsp => by
    obtain ⟨a, ns, rfl, hS, hlen, q⟩ := hsp
    obtain ⟨h0, h1⟩ := b0 cdv A outer s H E hr hg
    rw [hbody]
    refine ⟨_, pss_cons h0 h1, ?_⟩
    have ok : AOk bk ⟨H, 0, []⟩ H := ⟨Same.refl _, fun a m => (nomatch m), .inl rfl⟩
    have ra : RArgs K ⟨H, 0, []⟩ [.ref a] [.scr ns] := .cons ⟨a, rfl, hS⟩ .nil
    refine ⟨⟨H, 0, []⟩, H, ⟨H, 0, []⟩, startD N.length [.scr ns], ⟨fun env => ∃ o, boxOk o ∧ env = ((startD N.length [.scr ns]).set 1 (some (.own o))).set 2 (some (.d x)), fun _ => False, fun _ => False, fun _ => False, fun _ _ => False⟩, ok.box, Ext.refl ok, abs_start ra, ⟨?_, ?_, ?_, ?_, ?_⟩, ?_⟩
    · rintro σ' H' S' env' e' ab' ⟨o, ho, rfl⟩
      have l0 : (startD N.length [RV.scr ns]).length = N.length := by simp [startD]; omega
      have at1 : (((startD N.length [RV.scr ns]).set 1 (some (.own o))).set 2 (some (.d x)))[1]? = some (some (.own o)) := by
        rw [List.getElem?_set_ne (by decide), List.getElem?_set_self (by omega)]
      have at2 : (((startD N.length [RV.scr ns]).set 1 (some (.own o))).set 2 (some (.d x)))[2]? = some (some (.d x)) := by
        rw [List.getElem?_set_self (by rw [List.length_set]; omega)]
      obtain ⟨v, hv, b, rfl, hz, hl, hf, ow⟩ := ab'.at_ 1 (.own o) at1
      obtain ⟨v2, hv2, rp⟩ := ab'.at_ 2 (.d x) at2
      obtain ⟨l, hl0, hb⟩ := hk S'.F H' b o ho ow hf e'.ok.sub
      have hlσ : σ'.length = N.length := by rw [← ab'.len]; simp [startD]; omega
      refine restart2 (env := lawEnv2 N.length x) (Dd := lawEnds) hb hl0 (hkl _ _ _ hb) e'.ok.sub (by rw [hlσ]; simp [lawEnv2]; omega) (fun i r hi => ?_) ⟨?_, ?_, ?_, ?_, ?_⟩ hd
      · match i with
        | 0 => simp [lawEnv2] at hi
        | 1 => simp [lawEnv2] at hi; exact .inl ⟨hi.symm, hv⟩
        | 2 => simp [lawEnv2] at hi; exact .inr ⟨x, v2, hi.symm, hx, hv2, rp⟩
        | i + 3 =>
          have : (List.replicate (N.length - 3) (none : Option RV))[i]? = some (some r) := by simpa [lawEnv2] using hi
          rw [List.getElem?_replicate] at this
          split at this <;> cases this
      · exact fun _ _ _ _ _ _ h => h.elim
      · rintro r v H2 S2 _ rr rfl
        cases rr
        exact q H2
      · exact fun _ _ _ _ _ _ h => h.elim
      · exact fun _ _ _ _ _ _ h => h.elim
      · exact fun _ _ _ _ _ _ _ _ _ _ h => h.elim
    · exact fun _ _ _ _ _ _ h => h.elim
    · exact fun _ _ _ _ _ _ h => h.elim
    · exact fun _ _ _ _ _ _ h => h.elim
    · exact fun _ _ _ _ _ _ _ _ _ _ h => h.elim
    · have e0 : enGet (startD N.length [.scr ns]) 0 = fun k => k (.scr ns) := rfl
      unfold tParD tConsO tFn tConsD tVarD tNilD
      rw [e0]
      exact ⟨rfl, hbox ns _ _ hlen fun o ho => hte _ _ _ ⟨o, ho, rfl⟩⟩
end
theorem box1_LD (H : Hp) (b : Addr) (l : List Addr) (h : bx1.ok H b l) : ∀ a ∈ l, ∃ o, H a = some o ∧ LD o := by
  obtain ⟨g, gs, st, ct, rfl, hn, h1, h2, h3⟩ := h
  intro a m
  have : a = b ∨ a = g := by simpa using m
  rcases this with rfl | rfl
  · exact ⟨_, h1, .inr ⟨_, rfl⟩⟩
  · exact ⟨_, h2, .inl ⟨_, rfl⟩⟩
end HA

namespace HA
open PySem PySem.Spec PyProof.Rows L2

/-! ### dicts whose keys are tuples: at the heap -/
section
variable {X : Cx} {pins : List (Addr × Obj)} {σ : Sg} {H F : Hp} {s : Shared}
theorem nk_none {x : PyData} {k : NestedKey} (h : nk x = some k) : ntf k = true ∧ True := by
  refine ⟨?_, trivial⟩
  revert k
  exact (nkT x).1
where
  nkT : ∀ x : PyData, (∀ {k : NestedKey}, nk x = some k → ntf k = true) ∧ True := fun x => ⟨fun {k} h => go x k h, trivial⟩
  go : ∀ (x : PyData) (k : NestedKey), nk x = some k → ntf k = true
    | .none, k, h => by simp [nk] at h; subst h; rfl
    | .int i, k, h => by simp [nk] at h; subst h; rfl
    | .bool _, k, h => by simp [nk] at h
    | .str _, k, h => by simp [nk] at h
    | .list _, k, h => by simp [nk] at h
    | .dict _, k, h => by simp [nk] at h
    | .tuple xs, k, h => by
      simp only [nk, Option.map_eq_some_iff] at h
      obtain ⟨ks, h1, rfl⟩ := h
      simp only [ntf]
      exact gos xs ks h1
  gos : ∀ (xs : List PyData) (ks : List NestedKey), nks xs = some ks → ntfs ks = true
    | [], ks, h => by simp [nks] at h; subst h; rfl
    | x :: xs, ks, h => by
      simp only [nks, Option.bind_eq_some_iff, Option.map_eq_some_iff] at h
      obtain ⟨k, h1, ks', h2, rfl⟩ := h
      simp only [ntfs, go x k h1, gos xs ks' h2, Bool.and_self]
theorem nk_tf {x : PyData} {k : NestedKey} (h : nk x = some k) : ntf k = true := (nk_none h).1
mutual
theorem nested_of (I : Inv X pins σ H s) : ∀ (d : PyData) (v : V) (u : Value) (k : NestedKey), nk d = some k → Rp X.K H v d → RelV v u → NestedIs s.heap k u
  | .none, _, _, k, e, h, r => by
    simp [nk] at e; subst e
    cases h; cases r
    exact .none
  | .int i, _, _, k, e, h, r => by
    simp [nk] at e; subst e
    cases h
    obtain ⟨t, rfl⟩ := r
    exact .int i t
  | .bool _, _, _, k, e, _, _ => by simp [nk] at e
  | .str _, _, _, k, e, _, _ => by simp [nk] at e
  | .list _, _, _, k, e, _, _ => by simp [nk] at e
  | .dict _, _, _, k, e, _, _ => by simp [nk] at e
  | .tuple ds, _, _, k, e, h, r => by
    simp only [nk, Option.map_eq_some_iff] at e
    obtain ⟨ks, e, rfl⟩ := e
    cases h with
    | tup hl ha =>
      cases r
      obtain ⟨its, rv, ⟨o, ho, hc, n, hd⟩, _⟩ := I.tuple hl
      exact .tup ho hc hd (nesteds_of I ds _ its ks e ha rv)
theorem nesteds_of (I : Inv X pins σ H s) : ∀ (ds : List PyData) (vs : List V) (us : List Value) (ks : List NestedKey), nks ds = some ks → RpAll X.K H vs ds → Vals vs us → NestedAll s.heap ks us
  | [], _, _, ks, e, h, r => by
    simp [nks] at e; subst e
    cases h; cases r
    exact .nil
  | d :: ds, _, _, ks, e, h, r => by
    simp only [nks, Option.bind_eq_some_iff, Option.map_eq_some_iff] at e
    obtain ⟨k, h1, ks', h2, rfl⟩ := e
    cases h with
    | cons a b =>
      cases r with
      | cons r1 r2 => exact .cons (nested_of I d _ _ k h1 a r1) (nesteds_of I ds _ _ ks' h2 b r2)
end
abbrev NK (X : Cx) := nestedKind X.prog X.w
theorem nkey_of (I : Inv X pins σ H s) {d : PyData} {a : Addr} {k : NestedKey} (e : nk d = some k) (hd : k.depth ≤ 8) (h : Rp X.K H (.ref a) d) : (NK X).is s.heap k a := ⟨nested_of I d _ _ k e h rfl, hd⟩
abbrev Ent := NestedKey × Addr × V
abbrev EntU := NestedKey × Addr × Value
def EntR (p : Ent) (q : EntU) : Prop := p.1 = q.1 ∧ p.2.1 = q.2.1 ∧ RelV p.2.2 q.2.2
theorem dt_ent (I : Inv X pins σ H s) (e : Same F H) : ∀ {vs : List Ent} {us : List EntU} {ds : List (PyData × PyData)}, Paired EntR vs us → RpDt X.K F vs ds →
    (∀ x ∈ us, (NK X).is s.heap x.1 x.2.1 ∧ ntf x.1 = true)
  | _, _, _, .nil, .nil => fun x hx => by cases hx
  | _, _, _, .cons r t, .cons h1 h2 h3 h4 t2 => fun x hx => by
    rcases List.mem_cons.mp hx with rfl | hx
    · obtain ⟨r1, r2, r3⟩ := r
      simp only at r1 r2
      rw [← r1, ← r2]
      exact ⟨nkey_of I h1 h2 (h3.mono e), nk_tf h1⟩
    · exact dt_ent I e t t2 x hx
/-- the dict's object is as the library says -/
theorem dt_of (I : Inv X pins σ H s) (e : Same F H) {a : Addr} {vs : List Ent} {ds : List (PyData × PyData)} (ha : H a = some (dtObj a vs)) (rp : RpDt X.K F vs ds) : (a == sysModules) = false ∧ ∃ us : List EntU, Paired EntR vs us ∧ s.heap.DictOfH (NK X) a us := by
  obtain ⟨⟨h0, us, p, o, es, ep, h1, h2, h3, h4, h5⟩, _⟩ := I.hok a _ ha
  have en := dt_ent I e p rp
  refine ⟨h0, us, p, o, es, ep, h1, h2, h3, ?_, fun x hx => (en x hx).1, h5⟩
  rw [h4]
  refine List.map_congr_left fun x hx => ?_
  show DictEntry.mk (nh x.1) (.ref x.2.1) x.2.2 = ⟨x.1.hash X.w, .ref x.2.1, x.2.2⟩
  rw [nh_eq X.w x.1 (en x hx).2]
/-- .. and the other way about -/
theorem dt_ok {P : Program} {w : World} {h : Heap} {a : Addr} {vs : List Ent} {us : List EntU} (h0 : (a == sysModules) = false) (p : Paired EntR vs us) (tf : ∀ x ∈ us, ntf x.1 = true) (hd : h.DictOfH (nestedKind P w) a us) : ObjOk P w H h a (dtObj a vs) := by
  obtain ⟨o, es, ep, h1, h2, h3, h4, _, h5⟩ := hd
  have raw : dtRaw a vs h := by
    refine ⟨h0, us, p, o, es, ep, h1, h2, h3, ?_, h5⟩
    rw [h4]
    refine List.map_congr_left fun x hx => ?_
    show DictEntry.mk (x.1.hash w) (.ref x.2.1) x.2.2 = ⟨nh x.1, .ref x.2.1, x.2.2⟩
    rw [nh_eq w x.1 (tf x hx)]
  refine ⟨raw, ⟨o, h1⟩, fun g1 g2 r k => ?_⟩
  obtain ⟨h0, us, p, o, es, ep, h1, r⟩ := r
  exact ⟨h0, us, p, o, es, ep, k o h1, r⟩
/-! the entries -/
def entAt (xs : List Ent) (k : NestedKey) : Option (Addr × V) := (xs.find? fun x => decide (x.1 = k)).map (·.2)
def entPut (xs : List Ent) (k : NestedKey) (a : Addr) (v : V) : List Ent := if (entAt xs k).isSome then xs.map (fun x => if x.1 = k then (x.1, x.2.1, v) else x) else xs ++ [(k, a, v)]
theorem ent_at {k : NestedKey} : ∀ {vs : List Ent} {us : List EntU}, Paired EntR vs us → (entAt vs k = none ∧ atKey us k = none) ∨ ∃ q v u, entAt vs k = some (q, v) ∧ atKey us k = some (q, u) ∧ RelV v u
  | _, _, .nil => .inl ⟨rfl, rfl⟩
  | _, _, @Paired.cons _ _ _ a b vs us r t => by
    obtain ⟨r1, r2, r3⟩ := r
    unfold entAt atKey
    rw [List.find?_cons, List.find?_cons]
    by_cases e : a.1 = k
    · have e2 : b.1 = k := r1.symm.trans e
      rw [decide_eq_true e, decide_eq_true e2]
      exact .inr ⟨a.2.1, a.2.2, b.2.2, rfl, by rw [r2]; rfl, r3⟩
    · have e2 : ¬ b.1 = k := fun z => e (r1.trans z)
      rw [decide_eq_false e, decide_eq_false e2]
      exact ent_at t
theorem ent_map {k : NestedKey} {v : V} {u : Value} (hv : RelV v u) : ∀ {vs : List Ent} {us : List EntU}, Paired EntR vs us → Paired EntR (vs.map (fun x => if x.1 = k then (x.1, x.2.1, v) else x)) (us.map (putAt k u))
  | _, _, .nil => .nil
  | _, _, @Paired.cons _ _ _ a b vs us r t => by
    refine .cons ?_ (ent_map hv t)
    obtain ⟨r1, r2, r3⟩ := r
    show EntR (if a.1 = k then (a.1, a.2.1, v) else a) (if b.1 = k then (b.1, b.2.1, u) else b)
    by_cases e : a.1 = k
    · have e2 : b.1 = k := r1.symm.trans e
      rw [if_pos e, if_pos e2]
      exact ⟨r1, r2, hv⟩
    · have e2 : ¬ b.1 = k := fun z => e (r1.trans z)
      rw [if_neg e, if_neg e2]
      exact ⟨r1, r2, r3⟩
theorem ent_app {k : NestedKey} {a : Addr} {v : V} {u : Value} (hv : RelV v u) : ∀ {vs : List Ent} {us : List EntU}, Paired EntR vs us → Paired EntR (vs ++ [(k, a, v)]) (us ++ [(k, a, u)])
  | _, _, .nil => .cons ⟨rfl, rfl, hv⟩ .nil
  | _, _, .cons r t => .cons r (ent_app hv t)
theorem ent_put {k : NestedKey} {a : Addr} {v : V} {u : Value} (hv : RelV v u) {vs : List Ent} {us : List EntU} (p : Paired EntR vs us) : Paired EntR (entPut vs k a v) (storedH us k a u) := by
  unfold entPut storedH
  rcases ent_at (k := k) p with ⟨e1, e2⟩ | ⟨q, w, x, e1, e2, _⟩
  · rw [e1, e2]
    exact ent_app hv p
  · rw [e1, e2]
    exact ent_map hv p
theorem stored_tf {us : List EntU} {k : NestedKey} {a : Addr} {u : Value} (h : ∀ x ∈ us, ntf x.1 = true) (hk : ntf k = true) : ∀ x ∈ storedH us k a u, ntf x.1 = true := by
  intro x hx
  unfold storedH at hx
  split at hx
  · obtain ⟨y, hy, rfl⟩ := List.mem_map.mp hx
    unfold putAt
    split
    · exact h y hy
    · exact h y hy
  · rcases List.mem_append.mp hx with hx | hx
    · exact h x hx
    · simp only [List.mem_singleton] at hx
      subst hx
      exact hk
/-! data -/
def hasT (kvs : List (PyData × PyData)) (k : PyData) : Bool := kvs.any fun e => decide (nk e.1 = nk k)
def getT (kvs : List (PyData × PyData)) (k : PyData) : Option PyData := (kvs.find? fun e => decide (nk e.1 = nk k)).map (·.2)
def putT (kvs : List (PyData × PyData)) (k v : PyData) : List (PyData × PyData) := if hasT kvs k = true then kvs.map (fun e => if nk e.1 = nk k then (e.1, v) else e) else kvs ++ [(k, v)]
/-- what can be a key -/
def isNK (x : PyData) : Prop := (∃ xs, x = .tuple xs) ∧ ∃ k, nk x = some k ∧ k.depth ≤ 8
section
variable {K : PySem.W.Frag}
theorem dt_at {kd : PyData} {k : NestedKey} (hk : nk kd = some k) : ∀ {vs : List Ent} {ds : List (PyData × PyData)}, RpDt K F vs ds → (entAt vs k = none ∧ getT ds kd = none ∧ hasT ds kd = false) ∨ ∃ q v d, entAt vs k = some (q, v) ∧ getT ds kd = some d ∧ hasT ds kd = true ∧ Rp K F v d
  | _, _, .nil => .inl ⟨rfl, rfl, rfl⟩
  | _, _, @RpDt.cons _ _ k1 q1 v1 vs kd1 d1 ds h1 h2 h3 h4 t => by
    unfold entAt getT hasT
    rw [List.find?_cons, List.find?_cons, List.any_cons]
    by_cases e : k1 = k
    · have e2 : nk kd1 = nk kd := by rw [h1, hk, e]
      simp only [decide_eq_true e, decide_eq_true e2]
      exact .inr ⟨q1, v1, d1, rfl, rfl, rfl, h4⟩
    · have e2 : ¬ nk kd1 = nk kd := by rw [h1, hk]; exact fun z => e (Option.some.inj z)
      simp only [decide_eq_false e, decide_eq_false e2, Bool.false_or]
      exact dt_at hk t
theorem dt_map {kd : PyData} {k : NestedKey} (hk : nk kd = some k) {v : V} {d : PyData} (hv : Rp K F v d) : ∀ {vs : List Ent} {ds : List (PyData × PyData)}, RpDt K F vs ds → RpDt K F (vs.map (fun x => if x.1 = k then (x.1, x.2.1, v) else x)) (ds.map (fun e => if nk e.1 = nk kd then (e.1, d) else e))
  | _, _, .nil => .nil
  | _, _, @RpDt.cons _ _ k1 q1 v1 vs kd1 d1 ds h1 h2 h3 h4 t => by
    have ih := dt_map hk hv t
    rw [List.map_cons, List.map_cons]
    by_cases e : k1 = k
    · have e2 : nk kd1 = nk kd := by rw [h1, hk, e]
      rw [if_pos e, if_pos e2]
      exact .cons h1 h2 h3 hv ih
    · have e2 : ¬ nk kd1 = nk kd := by rw [h1, hk]; exact fun z => e (Option.some.inj z)
      rw [if_neg e, if_neg e2]
      exact .cons h1 h2 h3 h4 ih
theorem dt_app {kd : PyData} {k : NestedKey} (hk : nk kd = some k) (h8 : k.depth ≤ 8) {q : Addr} (hq : Rp K F (.ref q) kd) {v : V} {d : PyData} (hv : Rp K F v d) : ∀ {vs : List Ent} {ds : List (PyData × PyData)}, RpDt K F vs ds → RpDt K F (vs ++ [(k, q, v)]) (ds ++ [(kd, d)])
  | _, _, .nil => .cons hk h8 hq hv .nil
  | _, _, .cons h1 h2 h3 h4 t => .cons h1 h2 h3 h4 (dt_app hk h8 hq hv t)
theorem dt_put {kd : PyData} {k : NestedKey} (hk : nk kd = some k) (h8 : k.depth ≤ 8) {q : Addr} (hq : Rp K F (.ref q) kd) {v : V} {d : PyData} (hv : Rp K F v d) {vs : List Ent} {ds : List (PyData × PyData)} (h : RpDt K F vs ds) : RpDt K F (entPut vs k q v) (putT ds kd d) := by
  unfold entPut putT
  rcases dt_at hk h with ⟨e1, _, e3⟩ | ⟨q', v', d', e1, _, e3, _⟩
  · rw [e1, e3]
    exact dt_app hk h8 hq hv h
  · rw [e1, e3]
    exact dt_map hk hv h
theorem dt_len : ∀ {vs : List Ent} {ds : List (PyData × PyData)}, RpDt K F vs ds → vs.length = ds.length
  | _, _, .nil => rfl
  | _, _, .cons _ _ _ _ t => by simp [dt_len t]
end
end
theorem Rp.isref {K : PySem.W.Frag} {F : Hp} {v : V} {xs : List PyData} (h : Rp K F v (.tuple xs)) : ∃ a, v = .ref a := by cases h; exact ⟨_, rfl⟩
theorem Paired.lenE {vs : List Ent} {us : List EntU} (h : Paired EntR vs us) : us.length = vs.length := (Paired.len h).symm
end HA

namespace HA
open PySem PySem.Spec PyProof.Rows L2

/-! ### dicts whose keys are tuples: by values -/
section
variable {X : Cx}
/-- y is the dict ds, x a key -/
def DtK (X : Cx) (x y : V) (H : Hp) (ds : List (PyData × PyData)) (kd : PyData) (k : NestedKey) (q a : Addr) (vs : List Ent) (F : Hp) : Prop :=
  x = .ref q ∧ y = .ref a ∧ Same F H ∧ H a = some (dtObj a vs) ∧ RpDt X.K F vs ds ∧ nk kd = some k ∧ k.depth ≤ 8 ∧ Rp X.K F (.ref q) kd
theorem nk_room {A : Around} (hu : A.units + 64 < cLine) {P : Program} {w : World} : (nestedKind P w).room A.in1 := by
  show A.in1.units + 8 < cLine
  have : A.in1.units = A.units + 1 := rfl
  omega
theorem has_at {pins : List (Addr × Obj)} {σ : Sg} {H F : Hp} {vs : List Ent} {us : List EntU} {ds : List (PyData × PyData)} {kd : PyData} {k : NestedKey} (p : Paired EntR vs us) (rp : RpDt X.K F vs ds) (hk : nk kd = some k) : (atKey us k).isSome = hasT ds kd := by
  rcases dt_at hk rp with ⟨e1, _, e3⟩ | ⟨q, v, d, e1, _, e3, _⟩
  · rcases ent_at (k := k) p with ⟨_, f2⟩ | ⟨_, _, _, f1, _⟩
    · rw [f2, e3]; rfl
    · rw [e1] at f1; cases f1
  · rcases ent_at (k := k) p with ⟨f1, _⟩ | ⟨_, _, _, _, f2, _⟩
    · rw [e1] at f1; cases f1
    · rw [f2, e3]; rfl
theorem op_inT (hu : X.A.units + 64 < cLine) : OpR X (compareOp .In) (fun x y H Q => ∃ ds kd k q a vs F, DtK X x y H ds kd k q a vs F ∧ Q (.bl (hasT ds kd)) H) := by
  intro pins s σ H x y v u Q I rx ry h
  obtain ⟨ds, kd, k, q, a, vs, F, ⟨rfl, rfl, e, ha, rp, hk, h8, hq⟩, h⟩ := h
  cases rx; cases ry
  obtain ⟨h0, us, p, hd⟩ := dt_of I e ha rp
  refine wpAny_in_heap (nk_room hu) (nkey_of I hk h8 (hq.mono e)) h0 hd ⟨.bl (hasT ds kd), H, I.tok _, ?_, h⟩
  rw [has_at (pins := pins) (σ := σ) (H := H) p rp hk]
  rfl
theorem op_notInT (hu : X.A.units + 64 < cLine) : OpR X (compareOp .NotIn) (fun x y H Q => ∃ ds kd k q a vs F, DtK X x y H ds kd k q a vs F ∧ Q (.bl (!hasT ds kd)) H) := by
  intro pins s σ H x y v u Q I rx ry h
  obtain ⟨ds, kd, k, q, a, vs, F, ⟨rfl, rfl, e, ha, rp, hk, h8, hq⟩, h⟩ := h
  cases rx; cases ry
  obtain ⟨h0, us, p, hd⟩ := dt_of I e ha rp
  show wpAny _ _ (do return Value.bool (!(← contains (.ref a) (.ref q)))) _ _ s
  refine wpAny_bind (wpAny_contains_heap (nk_room hu) (nkey_of I hk h8 (hq.mono e)) h0 hd (wpAny_pure ⟨.bl (!hasT ds kd), H, I.tok _, ?_, h⟩))
  rw [has_at (pins := pins) (σ := σ) (H := H) p rp hk]
  rfl
theorem ix_dT (hu : X.A.units + 64 < cLine) : IxR X (fun x y H Q => ∃ ds kd k q a vs F, DtK X y x H ds kd k q a vs F ∧ ∃ d v, getT ds kd = some d ∧ entAt vs k = some v ∧ Q v.2 H) := by
  intro value slice pins s σ H x y v u Q I rx ry h hs
  obtain ⟨ds, kd, k, q, a, vs, F, ⟨rfl, rfl, e, ha, rp, hk, h8, hq⟩, d, w, hg, hw, h⟩ := h
  cases rx; cases ry
  obtain ⟨h0, us, p, hd⟩ := dt_of I e ha rp
  rcases ent_at (k := k) p with ⟨f1, _⟩ | ⟨q2, v2, u2, f1, f2, r⟩
  · rw [hw] at f1; cases f1
  · rw [hw] at f1
    cases f1
    exact tail_any hd.typeIs PySem.F.slot_dict_getitem.lookup (wpAny_getItem_heap (nk_room hu) (nkey_of I hk h8 (hq.mono e)) hd f2 ⟨v2, H, I.tok _, r, h⟩) hs
def rSetT (X : Cx) : TSet := fun o i v H Q => ∃ ds kd k q a vs F, DtK X i o H ds kd k q a vs F ∧ vs.length < sizeLine ∧ Q (upd H a (dtObj a (entPut vs k q v)))
theorem set_dT (hu : X.A.units + 64 < cLine) : PSet X (rSetT X) := by
  intro pins s σ H o i v ov iv u Q I ro ri rv h
  obtain ⟨ds, kd, k, q, a, vs, F, ⟨rfl, rfl, e, ha, rp, hk, h8, hq⟩, hl, h⟩ := h
  cases ro; cases ri
  obtain ⟨h0, us, p, hd⟩ := dt_of I e ha rp
  have tf := dt_ent I e p rp
  refine wpAny_setItem_heap (hsz := by rw [HA.Paired.lenE p]; exact Nat.le_of_lt hl) (nk_room hu) (nkey_of I hk h8 (hq.mono e)) hd fun h' hd' sb => ?_
  have ok' := dt_ok (H := upd H a (dtObj a (entPut vs k q v))) (P := X.prog) (w := X.w) (vs := entPut vs k q v) h0 (ent_put rv p) (stored_tf (fun x hx => (tf x hx).2) (nk_tf hk)) hd'
  have he : ∃ z, h'.get? a = some z := by
    obtain ⟨o, _, _, ho, _⟩ := hd'
    exact ⟨o, ho⟩
  exact ⟨_, I.write (e := a) (t' := s.toks + (NK X).draws k) (by rw [ha]; trivial) (.inl rfl) (fun b z hb hz => (sb.2 b hb).trans hz) he ok', h⟩
theorem pe_dnewN {pos : Pos} : PE X (.Dict [] [] pos) (fun _ H Q => ∀ p, H p = none → Q (.ref p) (upd H p (dtObj p []))) := ⟨fun pins s σ H Q I h => by
  refine wpAny_Dict_empty ⟨.ref s.heap.objs.size, _, I.laid (a := s.heap.objs.size) (o := dtObj s.heap.objs.size []) (t' := s.toks) (fun _ _ q => Heap.get?_push_of_some _ q) (Nat.le_refl _) ?_, rfl, h _ (I.hok.fresh (Nat.le_refl _))⟩
  refine dt_ok (us := []) ?_ .nil (fun x hx => by cases hx) (Heap.DictOfH.new _)
  exact beq_eq_false_iff_ne.mpr (Ne.symm (Nat.ne_of_lt I.big))⟩
/-- d.get(k, x) -/
theorem call_getT (hu : X.A.units + 64 < cLine) {pins : List (Addr × Obj)} {σ : Sg} {H F : Hp} {s : Shared} (I : Inv X pins σ H s) {ds : List (PyData × PyData)} {kd : PyData} {k : NestedKey} {q a : Addr} {vs : List Ent} {x : V} {u : Value} {Q : VK}
    (hd : DtK X (.ref q) (.ref a) H ds kd k q a vs F) (rx : RelV x u) (h1 : ∀ p v, entAt vs k = some (p, v) → Q v H) (h2 : entAt vs k = none → Q x H) : wpAny (model X.prog X.w) X.A (call (.builtin "dict.get") [.ref a, .ref q, u]) (EP X pins σ Q) X.xe s := by
  obtain ⟨_, _, e, ha, rp, hk, h8, hq⟩ := hd
  obtain ⟨h0, us, p, hd⟩ := dt_of I e ha rp
  refine call_meetsIn PySem.F.slot_dict_get hd.typeIs PySem.F.entry_dict_get (PySem.F.args_dict_get_3 _ _ _) (meetsH_dict_get_default (NK X) a q h0 u) ⟨nk_room hu, k, us, nkey_of I hk h8 (hq.mono e), hd, ?_⟩
  rcases ent_at (k := k) p with ⟨f1, f2⟩ | ⟨q2, v2, u2, f1, f2, r⟩
  · rw [f2]
    exact ⟨x, H, I.tok _, rx, h2 f1⟩
  · rw [f2]
    exact ⟨v2, H, I.tok _, r, h1 _ _ f1⟩
theorem ent_refs : ∀ {vs : List Ent} {us : List EntU}, Paired EntR vs us → (vs.map fun x => V.ref x.2.1) = us.map (V.ref ∘ fun x => x.2.1)
  | _, _, .nil => rfl
  | _, _, .cons r t => by
    rw [List.map_cons, List.map_cons, ent_refs t, Function.comp_apply, r.2.1]
/-- list(d) -/
theorem call_listN (hc : X.calm = true) : CallR X (.type "list") (fun xs H Q => ∃ a vs F ds, xs = [V.ref a] ∧ Same F H ∧ H a = some (dtObj a vs) ∧ RpDt X.K F vs ds ∧ ds.length ≤ sizeLine ∧ ∀ p, H p = none → Q (.ref p) (upd H p (.lst (vs.map fun x => V.ref x.2.1)))) := by
  intro pins s σ H xs us Q I r h
  obtain ⟨a, vs, F, ds, rfl, e, ha, rp, hl, q⟩ := h
  obtain ⟨u, rfl, rx⟩ := r.one
  cases rx
  obtain ⟨hs, ks, pr, hd⟩ := dt_of I e ha rp
  obtain ⟨o, es, ep, ho, hx, hdt, he, _, hn⟩ := hd
  have l1 : es.size = ks.length := size_of_entries he
  have l2 : vs.length = ks.length := Paired.len pr
  have l3 := dt_len rp
  refine PySem.W.kdl_call (kdl_raw hs hx hdt) (I.ok.hd hc) ho (by omega) fun h' tk acc' c' kp e it => ?_
  have ea : acc'.toList = ks.map fun x => Value.ref x.2.1 := by
    have hl : acc'.toList.length = ks.length := by rw [Array.length_toList, it.1]; exact l1
    apply List.ext_getElem?
    intro j
    rw [List.getElem?_map]
    cases hj : acc'.toList[j]? with
    | none =>
      have h1 := List.getElem?_eq_none_iff.mp hj
      rw [List.getElem?_eq_none (by omega)]
      all_goals rfl
    | some v =>
      obtain ⟨en, hen, hv⟩ := it.2 j v (by rw [← Array.getElem?_toList]; exact hj)
      have qe := entry_at he j
      rw [hen] at qe
      cases hb : ks[j]? with
      | none =>
        rw [hb] at qe
        exact nomatch (show some en = none from qe)
      | some b =>
        rw [hb] at qe
        have e2 : en = entryOfKey (NK X) b := Option.some.inj qe
        rw [hv, e2]
        all_goals rfl
  have ev : (vs.map fun x => V.ref x.2.1) = (ks.map fun x => x.2.1).map V.ref := by
    rw [List.map_map]
    exact ent_refs pr
  have eb : acc'.toList = (ks.map fun x => x.2.1).map Value.ref := by rw [ea, List.map_map]; all_goals rfl
  have rv : Vals (vs.map fun x => V.ref x.2.1) acc'.toList := by rw [ev, eb]; exact L2.vals_refs _
  have hz : (vs.map fun x => V.ref x.2.1).length ≤ sizeLine := by rw [List.length_map]; omega
  refine ⟨.ref s.heap.objs.size, _, I.laid (t' := tk) (o := .lst (vs.map fun x => V.ref x.2.1)) kp (Nat.le_refl _) ?_, rfl, q _ (I.hok.fresh (Nat.le_refl _))⟩
  exact ⟨hz, acc'.toList, c', rv, by rw [Array.toArray_toList]; exact e⟩
end
end HA

namespace HA
open PySem PySem.Spec PyProof.Rows L2

/-! ### dicts whose keys are tuples: readings -/
def onDt (r : RV) (k : List (PyData × PyData) → Prop) : Prop := match r with | .own (.dtn kvs) => k kvs | _ => False
def enDt (env : En) (i : Nat) (k : List (PyData × PyData) → Prop) : Prop := enGet env i fun r => onDt r k
def tDicT : TD := fun _ Q _ => Q (.own (.dtn []))
def tInT (neg : Bool) (i : Nat) (te : TD) : TD := fun env Q Ex => te env (fun r => r.arg fun r2 => onD r2 fun kd => enDt env i fun kvs => isNK kd ∧ Q (.d (.bool (xor neg (hasT kvs kd))))) Ex
def tIxT (i : Nat) (te : TD) : TD := fun env Q Ex => enDt env i fun kvs => te env (fun r => r.arg fun r2 => onD r2 fun kd => isNK kd ∧ ∃ v, getT kvs kd = some v ∧ Q (.d v)) Ex
def tListT (i : Nat) : TD := fun env Q _ => enDt env i fun kvs => kvs.length ≤ sizeLine ∧ Q (.own (.lst (kvs.map (·.1))))
def tStoT (i : Nat) (tv tk : TD) : TSD := fun D env => tv env (fun r => r.arg fun r2 => onD r2 fun v => enDt env i fun kvs => tk env (fun r3 => r3.arg fun r4 => onD r4 fun kd => isNK kd ∧ kvs.length < sizeLine ∧ D.nx (env.set i (some (.own (.dtn (putT kvs kd v)))))) (D.err env)) (D.err env)
section
variable {bk : BoxKind} {X : Cx} {W : WX} {S S' S0 : AS} {σ : Sg} {H Hz : Hp} {env : En} {pos p px : Pos} {e ev ek : Expr} {t tv tk : TD} {k : Nat}
theorem onD_is {r : RV} {q : PyData → Prop} (h : onD r q) : ∃ x, r = .d x ∧ q x := by
  cases r with
  | d x => exact ⟨x, rfl, h⟩
  | own o => exact h.elim
  | bor o => exact h.elim
  | box => exact h.elim
  | scr ns => exact h.elim
theorem enDt_at {i : Nat} {q : List (PyData × PyData) → Prop} (h : enDt env i q) (ab : Abs X.K S Hz H σ env) : ∃ kvs a vs, env[i]? = some (some (.own (.dtn kvs))) ∧ σ[i]? = some (some (.ref a)) ∧ Hz a = none ∧ a ∉ S.l ∧ S.F a = none ∧ H a = some (dtObj a vs) ∧ RpDt X.K S.F vs kvs ∧ q kvs := by
  obtain ⟨r, e, q⟩ := enGet_some h
  cases r with
  | own o =>
    cases o with
    | dtn kvs =>
      obtain ⟨v, e2, a, rfl, h1, h2, h3, vs, h4, h5⟩ := ab.at_ i _ e
      exact ⟨kvs, a, vs, e, e2, h1, h2, h3, h4, h5, q⟩
    | lst xs => exact q.elim
    | dic xs => exact q.elim
  | d x => exact q.elim
  | bor o => exact q.elim
  | box => exact q.elim
  | scr ns => exact q.elim
theorem pd_dicT : PD bk X W (.Dict [] [] pos) tDicT := PE.imp pe_dnewN fun σ H Q q => by
  obtain ⟨S, env, Hz, Qd, Ex, ok, ab, ex, con, t⟩ := q
  exact fun p hp => con _ _ _ _ t (Ext.laid ok hp) ⟨p, rfl, hp, fun m => ok.there m hp, ok.free hp, [], upd_same, .nil⟩
theorem dtk {kd : PyData} {v : V} {i : Nat} {a : Addr} {vs : List Ent} {kvs : List (PyData × PyData)} (ok : AOk bk S H) (hn : isNK kd) (rv : Rp X.K S.F v kd) (ha : H a = some (dtObj a vs)) (rp : RpDt X.K S.F vs kvs) : ∃ k q, DtK X v (.ref a) H kvs kd k q a vs S.F := by
  obtain ⟨⟨xs, rfl⟩, k, hk, h8⟩ := hn
  obtain ⟨q, rfl⟩ := Rp.isref rv
  exact ⟨k, q, rfl, rfl, ok.sub, ha, rp, hk, h8, rv⟩
/-- k in d -/
theorem inT_lift (neg : Bool) {i : Nat} {r : R2} (hr : ∀ x y H Q ds kd k q a vs F, DtK X x y H ds kd k q a vs F → Q (.bl (xor neg (hasT ds kd))) H → r x y H Q) {Q : VK} (q : liftE bk X W (tInT neg i t) σ H Q) : tOp r (liftE bk X W t) (tVar i) σ H Q := by
  obtain ⟨S, env, Hz, Qd, Ex, ok, ab, ex, con, t⟩ := q
  refine ⟨S, env, Hz, _, Ex, ok, ab, ex, fun r v H1 S1 q1 e1 r1 => ?_, t⟩
  obtain ⟨S2, r2, e2, ra, q2, _⟩ := r1.arg ok e1 q1
  obtain ⟨kd, rfl, q3⟩ := onD_is q2
  obtain ⟨kvs, a, vs, h1, h2, h3, h4, h5, h6, h7, hn, q4⟩ := enDt_at q3 (ab.ext e2)
  obtain ⟨k, q, d⟩ := dtk (i := i) e2.ok hn ra h6 h7
  exact ⟨.ref a, h2, hr _ _ _ _ _ _ _ _ _ _ _ d (con (.d (.bool _)) _ _ S2 q4 e2 (Rp.bl _))⟩
theorem inT_f : ∀ (x y : V) (H : Hp) (Q : VK) ds kd k q a vs F, DtK X x y H ds kd k q a vs F → Q (.bl (xor false (hasT ds kd))) H → ∃ ds kd k q a vs F, DtK X x y H ds kd k q a vs F ∧ Q (.bl (hasT ds kd)) H := fun x y H Q ds kd k q a vs F d q' => ⟨ds, kd, k, q, a, vs, F, d, by rw [Bool.false_xor] at q'; exact q'⟩
theorem inT_t : ∀ (x y : V) (H : Hp) (Q : VK) ds kd k q a vs F, DtK X x y H ds kd k q a vs F → Q (.bl (xor true (hasT ds kd))) H → ∃ ds kd k q a vs F, DtK X x y H ds kd k q a vs F ∧ Q (.bl (!hasT ds kd)) H := fun x y H Q ds kd k q a vs F d q' => ⟨ds, kd, k, q, a, vs, F, d, by rw [Bool.true_xor] at q'; exact q'⟩
theorem pd_inT (neg : Bool) {op : CmpOp} {i : Nat} {b : Expr} (hop : op = if neg then .NotIn else .In) (xb : XB X W k) (he : PD bk X W e t) (hb : PE X b (tVar i)) (hm : behindInMarks op b = false) : PD bk X W (.Compare e [op] [b] pos) (tInT neg i t) := by
  cases neg with
  | false => subst hop; exact PE.imp (pe_cmpR (op_inT xb.u64) he hb hm) fun _ _ _ q => inT_lift false inT_f q
  | true => subst hop; exact PE.imp (pe_cmpR (op_notInT xb.u64) he hb hm) fun _ _ _ q => inT_lift true inT_t q
theorem pdt_inT (neg : Bool) {op : CmpOp} {i : Nat} {b : Expr} (hop : op = if neg then .NotIn else .In) (xb : XB X W k) (he : PD bk X W e t) (hb : PE X b (tVar i)) (hm : behindInMarks op b = false) : PDT bk X W (.Compare e [op] [b] pos) (tTst (tInT neg i t)) := by
  cases neg with
  | false => subst hop; exact PT.imp (pt_cmpR (op_inT xb.u64) he hb hm) fun _ _ _ q => inT_lift false inT_f (lift_tst q)
  | true => subst hop; exact PT.imp (pt_cmpR (op_notInT xb.u64) he hb hm) fun _ _ _ q => inT_lift true inT_t (lift_tst q)
/-- d[k]; the dict is read first, but nothing changes -/
theorem pd_ixT {i : Nat} {a : Expr} (xb : XB X W k) (ha : PE X a (tVar i)) (he : PD bk X W e t) (hs : PlainIx e) : PD bk X W (.Subscript a e pos) (tIxT i t) := PE.imp (pe_ix (ix_dT xb.u64) ha he hs) fun σ H Q q => by
  obtain ⟨S, env, Hz, Qd, Ex, ok, ab, ex, con, t⟩ := q
  obtain ⟨kvs, a, vs0, hi, hv, z1, z2, z3, z4, z5, t⟩ := enDt_at t ab
  refine ⟨.ref a, hv, S, env, Hz, _, Ex, ok, ab, ex, fun r v H1 S1 q1 e1 r1 => ?_, t⟩
  obtain ⟨S2, r2, e2, ra, q2, _⟩ := r1.arg ok e1 q1
  obtain ⟨kd, rfl, hn, w, hw, q4⟩ := onD_is q2
  have ha := e2.kp _ _ z4 z2
  have rp := z5.mono e2.fz
  obtain ⟨k, q, d⟩ := dtk (i := i) e2.ok hn ra ha rp
  obtain ⟨_, _, _, _, _, hk, _⟩ := id d
  rcases dt_at hk rp with ⟨_, f, _⟩ | ⟨p, u, y, f1, f2, _, f4⟩
  · rw [hw] at f; cases f
  · rw [hw] at f2
    cases f2
    exact ⟨kvs, kd, k, q, a, vs0, S2.F, d, w, (p, u), hw, f1, con (.d w) _ _ S2 q4 e2 f4⟩
/-- d[k] = v -/
theorem sd_stoT {i : Nat} {o : Expr} {sp : Pos} (xb : XB X W k) (hv : PD bk X W ev tv) (ho : PE X o (tVar i)) (hk : PD bk X W ek tk)
    (ha : ∀ v, assign (.Subscript o ek sp) X.env v = (do
      let ov ← holding [v] (eval o X.env)
      let iv ← holding [v, ov] (eval ek X.env)
      standAt sp
      holding [v, ov, iv] (setItem ov iv v)
      release [v, ov, iv] []) := by intro _; rfl)
    (hs : swapsWithSole [.Subscript o ek sp] ev pos.line X.env = pure false := by rfl) (hw : swappedStores [.Subscript o ek sp] ev X.env = pure none := by rfl)
    (h1 : (assignEach [.Subscript o ek sp] X.env).map (·.2) = [assign (.Subscript o ek sp) X.env] := by rfl) :
    PSD bk X W (.Assign [.Subscript o ek sp] ev pos) (tStoT i tv tk) := PS.imp (ps_asg hv (pg_sub ho hk (set_dT xb.u64) ha) hs hw h1) fun D σ H q => by
  obtain ⟨S0, Hz, S, env, Dd, ok0, e0, ab, en, t⟩ := q
  refine ⟨S, env, Hz, _, _, e0.ok, ab, en.exOk ok0 e0 ab, fun r v H1 S1 q1 e1 r1 => ?_, t⟩
  obtain ⟨S2, r2, e2, ra, q2, _⟩ := r1.arg e0.ok e1 q1
  obtain ⟨x, rfl, q3⟩ := onD_is q2
  obtain ⟨kvs, a, vs0, hi, hv, z1, z2, z3, z4, z5, t⟩ := enDt_at q3 (ab.ext e2)
  refine ⟨.ref a, hv, S2, env, Hz, _, _, e2.ok, ab.ext e2, (en.exOk ok0 e0 ab).ext e0.ok e2, fun r3 v3 H3 S3 q4 e3 r3' => ?_, t⟩
  obtain ⟨S4, r4, e4, rk, q5, _⟩ := r3'.arg e2.ok e3 q4
  obtain ⟨kd, rfl, hn, hl, q6⟩ := onD_is q5
  have l4 : a ∉ S4.l := by rw [e4.el]; exact z2
  have ha := e4.kp _ _ z4 z2
  have rp := z5.mono e4.fz
  have f4 : S4.F a = none := by
    cases z : S4.F a with
    | none => rfl
    | some w =>
      have z2 := e4.nw a z3 (by rw [z]; exact nofun)
      rw [z4] at z2; cases z2
  obtain ⟨k, q, d⟩ := dtk (i := i) e4.ok hn rk ha rp
  obtain ⟨rfl, _, _, _, _, hk, h8, hq⟩ := id d
  refine ⟨kvs, kd, k, q, a, vs0, S4.F, d, by rw [dt_len rp]; exact hl, ?_⟩
  have ab4 := (ab.ext e2).ext e4
  exact en.nx _ _ S4 _ ((Ext.tr ok0 (Ext.tr ok0 e0 e2) e4).write z1 f4 l4) (ab4.write hi hv z1 l4 f4 (show OwR X.K S4.F _ a (.dtn _) from ⟨_, upd_same, dt_put hk h8 hq (Rp.mono e4.fz ra) rp⟩)) q6
/-- list(d) -/
theorem dt_keys {K : PySem.W.Frag} {F : Hp} : ∀ {vs : List Ent} {ds : List (PyData × PyData)}, RpDt K F vs ds → RpAll K F (vs.map fun x => V.ref x.2.1) (ds.map (·.1))
  | _, _, .nil => .nil
  | _, _, .cons _ _ h3 _ t => .cons h3 (dt_keys t)
theorem pd_listT {i : Nat} {a : Expr} (xb : XB X W k) (hm : X.mg "list" = none) (ha : PE X a (tVar i)) (hg : Gl X "list" := by rfl) (he : St1 X a [] := by rfl) : PD bk X W (.Call (.Name "list" p) [a] [] pos) (tListT i) :=
  PE.imp (pe_callTy (call_listN xb.calm) hg hm (by decide +kernel) (pa_cons ha pa_nil he) (by decide) (by decide) he rfl) fun σ H Q q => by
    obtain ⟨S, env, Hz, Qd, Ex, ok, ab, ex, con, t⟩ := q
    obtain ⟨kvs, a, vs0, hi, hv, z1, z2, z3, z4, z5, hl, t⟩ := enDt_at t ab
    exact ⟨.ref a, hv, a, vs0, S.F, kvs, rfl, ok.sub, z4, z5, hl, fun p hp => con.lst ok t (dt_keys z5) p hp⟩
end
end HA

namespace HA
open PySem PySem.Spec PyProof.Rows L2

/-! ### min, max, sum, all, any -/
def bestOk (xs : List PyData) : Prop := PySem.W.AlikeAll xs ∧ ∀ y ∈ xs, y.depth ≤ 60
def gMin : GB
  | [.int i, .int j], Q => Q (.d (.int (min i j)))
  | [.list (x :: xs)], Q => bestOk (x :: xs) ∧ Q (.d (PySem.W.minD x xs))
  | [.tuple (x :: xs)], Q => bestOk (x :: xs) ∧ Q (.d (PySem.W.minD x xs))
  | _, _ => False
def gMax : GB
  | [.int i, .int j], Q => Q (.d (.int (max i j)))
  | [.list (x :: xs)], Q => bestOk (x :: xs) ∧ Q (.d (PySem.W.maxD x xs))
  | [.tuple (x :: xs)], Q => bestOk (x :: xs) ∧ Q (.d (PySem.W.maxD x xs))
  | _, _ => False
def gSum : GB
  | [.list xs], Q => ∃ ns : List Int, xs = ns.map PyData.int ∧ Q (.d (.int ns.sum))
  | _, _ => False
def gAll : GB
  | [.list xs], Q => ∃ bs : List Bool, xs = bs.map PyData.bool ∧ Q (.d (.bool (bs.all id)))
  | _, _ => False
def gAny : GB
  | [.list xs], Q => ∃ bs : List Bool, xs = bs.map PyData.bool ∧ Q (.d (.bool (bs.any id)))
  | _, _ => False
theorem best_mem (f : PyData → PyData → Bool) : ∀ (xs : List PyData) (x : PyData), xs.foldl (fun a y => if f y a = true then y else a) x ∈ x :: xs
  | [], x => List.mem_cons_self
  | y :: ys, x => by
    rw [List.foldl_cons]
    have := best_mem f ys (if f y x = true then y else x)
    rcases List.mem_cons.mp this with h | h
    · rw [h]
      split
      · exact List.mem_cons_of_mem _ List.mem_cons_self
      · exact List.mem_cons_self
    · exact List.mem_cons_of_mem _ (List.mem_cons_of_mem _ h)
theorem depthAll_le {n : Nat} : ∀ {xs : List PyData}, (∀ x ∈ xs, x.depth ≤ n) → PyData.depthAll xs ≤ n
  | [], _ => Nat.zero_le _
  | x :: xs, h => Nat.max_le.mpr ⟨h x List.mem_cons_self, depthAll_le fun y hy => h y (List.mem_cons_of_mem _ hy)⟩
theorem RpAll.intsV2 {K : PySem.W.Frag} {F : Hp} {ns : List Int} {vs : List V} (h : RpAll K F vs (ns.map PyData.int)) : vs = ns.map V.int := RpAll.intsV h
theorem RpAll.blsV {K : PySem.W.Frag} {F : Hp} : ∀ {bs : List Bool} {vs : List V}, RpAll K F vs (bs.map PyData.bool) → vs = bs.map V.bl
  | [], _, h => by cases h; rfl
  | z :: bs, _, h => by
    cases h with
    | cons h1 h2 => cases h1; rw [RpAll.blsV h2]; rfl
section
variable {bk : BoxKind} {X : Cx} {W : WX} {k : Nat} {pos p : Pos} {e e2 : Expr} {t t2 : TD}
/-- the value that is told is the datum -/
theorem best_is {pins : List (Addr × Obj)} {σ : Sg} {H F : Hp} {s : Shared} (I : Inv X pins σ H s) (e : Same F H) {ds : List PyData} {ws : List V} {us : List Value} {m : PyData} (ra : RpAll X.K F ws ds) (rv : Vals ws us) (al : PySem.W.AlikeAll ds) (hm : m ∈ ds) {i : Nat} {v : Value} {h' : Heap} {bs : List Addr}
    (hv : us[i]? = some v) (r : Reads h' v m bs) (hk : ∀ b o, s.heap.get? b = some o → h'.get? b = some o) : ∃ w, RelV w v ∧ Rp X.K F w m := by
  obtain ⟨w, hw, rw'⟩ := paired_at2 rv hv
  obtain ⟨d, hd, rp⟩ := ra.get hw
  obtain ⟨as, rd⟩ := Rp.reads I d w v (rp.mono e) rw'
  have := PySem.W.alike_unique d m v as bs (al.1 d (List.mem_of_getElem? hd) m hm) (Reads.keeps hk rd) r
  subst this
  exact ⟨w, rw', rp⟩
where
  paired_at2 {ws : List V} {us : List Value} (h : Vals ws us) : ∀ {i : Nat} {v : Value}, us[i]? = some v → ∃ w, ws[i]? = some w ∧ RelV w v := fun {i v} e => paired_at h e
theorem best_call {f : String} {l : Addr} {ds : List PyData} {x : PyData} {xs : List PyData} {pins : List (Addr × Obj)} {σ : Sg} {H : Hp} {s : Shared} {S : AS} {Q : VK} {Qd : RV → Prop} {m : PyData} (I : Inv X pins σ H s) (ok : AOk bk S H) (con : Con bk X S H Q Qd) (hx : ds = x :: xs) (hm : m ∈ ds) (bo : bestOk ds) (q : Qd (.d m))
    {ws : List V} (ra : RpAll X.K S.F ws ds) {its : List Value} (rv : Vals ws its)
    (call : ∀ as, ReadsAll s.heap its (x :: xs) as → (∀ (i : Nat) v h' tk bs, its.toArray[i]? = some v → Reads h' v m bs → (∀ b o, s.heap.get? b = some o → h'.get? b = some o) → EP X pins σ Q v { s with heap := h', toks := tk }) → wpAny (model X.prog X.w) X.A (PySem.call (.builtin f) [.ref l]) (EP X pins σ Q) X.xe s) :
    wpAny (model X.prog X.w) X.A (PySem.call (.builtin f) [.ref l]) (EP X pins σ Q) X.xe s := by
  obtain ⟨as, rd⟩ := RpAll.reads I ds ws its (ra.mono ok.sub) rv
  rw [hx] at rd
  refine call as rd fun i v h' tk bs hv r hk => ?_
  obtain ⟨w, r1, r2⟩ := best_is I ok.sub ra rv bo.1 hm (by simpa using hv) r hk
  exact ⟨w, H, I.kept (t' := tk) hk, r1, con.data ok q r2⟩
theorem cd_min (hc : X.calm = true) (hr : Room k X.A) : CallD bk X (.builtin "min") gMin := by
  intro pins s σ H vs us Q I r h
  obtain ⟨S, xs, Qd, ok, rx, con, g⟩ := h
  have hu := hr.un
  unfold gMin at g
  split at g
  · obtain ⟨v, w, rfl, h1, h2⟩ := paired2 rx
    rename_i i j
    refine call_min2 hc pins s σ H _ us Q I r ⟨i, j, by rw [h1.int, h2.int], ?_⟩
    have e : (if j < i then j else i) = min i j := by omega
    rw [e]
    exact con.data ok g (.int _)
  · rename_i x xs
    obtain ⟨bo, g⟩ := g
    obtain ⟨v, rfl, h1⟩ := paired1 rx
    obtain ⟨a, ws, rfl, hl, ra⟩ := h1.list ok
    obtain ⟨u, rfl, ru⟩ := r.one
    cases ru
    obtain ⟨its, rv, pl, hz⟩ := I.list hl
    refine best_call I ok con rfl (best_mem _ xs x) bo g ra rv fun as rd cont => ?_
    have := depthAll_le bo.2
    exact PySem.W.min_list_data (I.ok.hd hc) pl.isList (by simpa using rd) bo.1 (by omega) cont
  · rename_i x xs
    obtain ⟨bo, g⟩ := g
    obtain ⟨v, rfl, h1⟩ := paired1 rx
    obtain ⟨a, ws, rfl, hl, ra⟩ := h1.tuple
    obtain ⟨u, rfl, ru⟩ := r.one
    cases ru
    obtain ⟨its, rv, pl, hz⟩ := I.tuple (sqT_mono ok.sub hl)
    refine best_call I ok con rfl (best_mem _ xs x) bo g ra rv fun as rd cont => ?_
    have := depthAll_le bo.2
    exact PySem.W.min_tuple_data (I.ok.hd hc) pl (by simpa using rd) bo.1 (by omega) cont
  · exact g.elim
theorem cd_max (hc : X.calm = true) (hr : Room k X.A) : CallD bk X (.builtin "max") gMax := by
  intro pins s σ H vs us Q I r h
  obtain ⟨S, xs, Qd, ok, rx, con, g⟩ := h
  have hu := hr.un
  unfold gMax at g
  split at g
  · obtain ⟨v, w, rfl, h1, h2⟩ := paired2 rx
    rename_i i j
    refine call_max2 hc pins s σ H _ us Q I r ⟨i, j, by rw [h1.int, h2.int], ?_⟩
    have e : (if j > i then j else i) = max i j := by omega
    rw [e]
    exact con.data ok g (.int _)
  · rename_i x xs
    obtain ⟨bo, g⟩ := g
    obtain ⟨v, rfl, h1⟩ := paired1 rx
    obtain ⟨a, ws, rfl, hl, ra⟩ := h1.list ok
    obtain ⟨u, rfl, ru⟩ := r.one
    cases ru
    obtain ⟨its, rv, pl, hz⟩ := I.list hl
    refine best_call I ok con rfl (best_mem (fun a b => PySem.W.dataLt b a) xs x) bo g ra rv fun as rd cont => ?_
    have := depthAll_le bo.2
    exact PySem.W.max_list_data (I.ok.hd hc) pl.isList (by simpa using rd) bo.1 (by omega) cont
  · rename_i x xs
    obtain ⟨bo, g⟩ := g
    obtain ⟨v, rfl, h1⟩ := paired1 rx
    obtain ⟨a, ws, rfl, hl, ra⟩ := h1.tuple
    obtain ⟨u, rfl, ru⟩ := r.one
    cases ru
    obtain ⟨its, rv, pl, hz⟩ := I.tuple (sqT_mono ok.sub hl)
    refine best_call I ok con rfl (best_mem (fun a b => PySem.W.dataLt b a) xs x) bo g ra rv fun as rd cont => ?_
    have := depthAll_le bo.2
    exact PySem.W.max_tuple_data (I.ok.hd hc) pl (by simpa using rd) bo.1 (by omega) cont
  · exact g.elim
theorem cd_sum (hc : X.calm = true) : CallD bk X (.builtin "sum") gSum := by
  intro pins s σ H vs us Q I r h
  obtain ⟨S, xs, Qd, ok, rx, con, g⟩ := h
  unfold gSum at g
  split at g
  · obtain ⟨ns, rfl, g⟩ := g
    obtain ⟨v, rfl, h1⟩ := paired1 rx
    obtain ⟨a, ws, rfl, hl, ra⟩ := h1.list ok
    rw [ra.intsV] at hl
    exact cr_sum hc pins s σ H _ us Q I r ⟨a, ns, rfl, hl, con.data ok g (.int _)⟩
  · exact g.elim
theorem cd_all (hc : X.calm = true) : CallD bk X (.builtin "all") gAll := by
  intro pins s σ H vs us Q I r h
  obtain ⟨S, xs, Qd, ok, rx, con, g⟩ := h
  unfold gAll at g
  split at g
  · obtain ⟨bs, rfl, g⟩ := g
    obtain ⟨v, rfl, h1⟩ := paired1 rx
    obtain ⟨a, ws, rfl, hl, ra⟩ := h1.list ok
    rw [RpAll.blsV ra] at hl
    exact cr_all hc pins s σ H _ us Q I r ⟨a, bs, rfl, hl, con.data ok g (.bl _)⟩
  · exact g.elim
theorem cd_any (hc : X.calm = true) : CallD bk X (.builtin "any") gAny := by
  intro pins s σ H vs us Q I r h
  obtain ⟨S, xs, Qd, ok, rx, con, g⟩ := h
  unfold gAny at g
  split at g
  · obtain ⟨bs, rfl, g⟩ := g
    obtain ⟨v, rfl, h1⟩ := paired1 rx
    obtain ⟨a, ws, rfl, hl, ra⟩ := h1.list ok
    rw [RpAll.blsV ra] at hl
    exact cr_any hc pins s σ H _ us Q I r ⟨a, bs, rfl, hl, con.data ok g (.bl _)⟩
  · exact g.elim
theorem q_min (xb : XB X W k) (hm : X.mg "min" = none) (h : PD bk X W e t) (hg : Gl X "min" := by rfl) (he : St1 X e [] := by rfl) : PD bk X W (.Call (.Name "min" p) [e] [] pos) (HA.tCallB gMin (tConsU t tNilU)) :=
  pd_callB (cd_min xb.calm xb.room) hg hm (by decide +kernel) (pdu_cons h pdu_nil he) (by decide) (by decide) he rfl
theorem q_min2 (xb : XB X W k) (hm : X.mg "min" = none) (h : PD bk X W e t) (h2 : PD bk X W e2 t2) (hg : Gl X "min" := by rfl) (he : St1 X e [e2] := by rfl) (he2 : St1 X e2 [] := by rfl) (hpl : (backTo pos (starEach [e2] X.env)).any (·.1) = false := by rfl) : PD bk X W (.Call (.Name "min" p) [e, e2] [] pos) (HA.tCallB gMin (tConsU t (tConsU t2 tNilU))) :=
  pd_callB (cd_min xb.calm xb.room) hg hm (by decide +kernel) (pdu_cons h (pdu_cons h2 pdu_nil he2) he) (by decide) (by decide) he hpl
theorem q_max (xb : XB X W k) (hm : X.mg "max" = none) (h : PD bk X W e t) (hg : Gl X "max" := by rfl) (he : St1 X e [] := by rfl) : PD bk X W (.Call (.Name "max" p) [e] [] pos) (HA.tCallB gMax (tConsU t tNilU)) :=
  pd_callB (cd_max xb.calm xb.room) hg hm (by decide +kernel) (pdu_cons h pdu_nil he) (by decide) (by decide) he rfl
theorem q_max2 (xb : XB X W k) (hm : X.mg "max" = none) (h : PD bk X W e t) (h2 : PD bk X W e2 t2) (hg : Gl X "max" := by rfl) (he : St1 X e [e2] := by rfl) (he2 : St1 X e2 [] := by rfl) (hpl : (backTo pos (starEach [e2] X.env)).any (·.1) = false := by rfl) : PD bk X W (.Call (.Name "max" p) [e, e2] [] pos) (HA.tCallB gMax (tConsU t (tConsU t2 tNilU))) :=
  pd_callB (cd_max xb.calm xb.room) hg hm (by decide +kernel) (pdu_cons h (pdu_cons h2 pdu_nil he2) he) (by decide) (by decide) he hpl
theorem q_sum (xb : XB X W k) (hm : X.mg "sum" = none) (h : PD bk X W e t) (hg : Gl X "sum" := by rfl) (he : St1 X e [] := by rfl) : PD bk X W (.Call (.Name "sum" p) [e] [] pos) (HA.tCallB gSum (tConsU t tNilU)) :=
  pd_callB (cd_sum xb.calm) hg hm (by decide +kernel) (pdu_cons h pdu_nil he) (by decide) (by decide) he rfl
theorem q_all (xb : XB X W k) (hm : X.mg "all" = none) (h : PD bk X W e t) (hg : Gl X "all" := by rfl) (he : St1 X e [] := by rfl) : PD bk X W (.Call (.Name "all" p) [e] [] pos) (HA.tCallB gAll (tConsU t tNilU)) :=
  pd_callB (cd_all xb.calm) hg hm (by decide +kernel) (pdu_cons h pdu_nil he) (by decide) (by decide) he rfl
theorem q_any (xb : XB X W k) (hm : X.mg "any" = none) (h : PD bk X W e t) (hg : Gl X "any" := by rfl) (he : St1 X e [] := by rfl) : PD bk X W (.Call (.Name "any" p) [e] [] pos) (HA.tCallB gAny (tConsU t tNilU)) :=
  pd_callB (cd_any xb.calm) hg hm (by decide +kernel) (pdu_cons h pdu_nil he) (by decide) (by decide) he rfl
/-! short rules for dicts whose keys are tuples -/
theorem q_inT (neg : Bool) {op : CmpOp} {i : Nat} {x : Str} {px : Pos} (xb : XB X W k) (he : PD bk X W e t) (hop : op = (if neg then .NotIn else .In) := by rfl) (hN : X.N[i]? = some x := by rfl) (hv : Vis X.env.scope x := by first | exact Or.inl rfl | exact Or.inr (Or.inl rfl) | exact Or.inr (Or.inr rfl)) (hd : (x == ("__debug__" : Str)) = false := by decide)
    (hcd : (x == ("__classdict__" : Str)) = false := by decide) (hm : behindInMarks op (.Name x px) = false := by first | exact nomark _ | with_unfolding_all rfl) : PD bk X W (.Compare e [op] [.Name x px] pos) (tInT neg i t) := pd_inT neg hop xb he (pe_var hN hv hd hcd) hm
theorem q_tinT (neg : Bool) {op : CmpOp} {i : Nat} {x : Str} {px : Pos} (xb : XB X W k) (he : PD bk X W e t) (hop : op = (if neg then .NotIn else .In) := by rfl) (hN : X.N[i]? = some x := by rfl) (hv : Vis X.env.scope x := by first | exact Or.inl rfl | exact Or.inr (Or.inl rfl) | exact Or.inr (Or.inr rfl)) (hd : (x == ("__debug__" : Str)) = false := by decide)
    (hcd : (x == ("__classdict__" : Str)) = false := by decide) (hm : behindInMarks op (.Name x px) = false := by first | exact nomark _ | with_unfolding_all rfl) : PDT bk X W (.Compare e [op] [.Name x px] pos) (tTst (tInT neg i t)) := pdt_inT neg hop xb he (pe_var hN hv hd hcd) hm
theorem q_ixT {i : Nat} {x : Str} {px : Pos} (xb : XB X W k) (he : PD bk X W e t) (hN : X.N[i]? = some x := by rfl) (hv : Vis X.env.scope x := by first | exact Or.inl rfl | exact Or.inr (Or.inl rfl) | exact Or.inr (Or.inr rfl)) (hd : (x == ("__debug__" : Str)) = false := by decide)
    (hcd : (x == ("__classdict__" : Str)) = false := by decide) (hs : PlainIx e := by first | exact (fun _ _ => rfl)) : PD bk X W (.Subscript (.Name x px) e pos) (tIxT i t) := pd_ixT xb (pe_var hN hv hd hcd) he hs
theorem q_listT {i : Nat} {x : Str} {px : Pos} (xb : XB X W k) (hm : X.mg "list" = none) (hN : X.N[i]? = some x := by rfl) (hv : Vis X.env.scope x := by first | exact Or.inl rfl | exact Or.inr (Or.inl rfl) | exact Or.inr (Or.inr rfl)) (hd : (x == ("__debug__" : Str)) = false := by decide)
    (hcd : (x == ("__classdict__" : Str)) = false := by decide) (hg : Gl X "list" := by rfl) (he : St1 X (.Name x px) [] := by rfl) : PD bk X W (.Call (.Name "list" p) [.Name x px] [] pos) (tListT i) := pd_listT xb hm (pe_var hN hv hd hcd) hg he
theorem q_stoT {i : Nat} {x : Str} {px sp : Pos} {ek : Expr} {tv tk : TD} (xb : XB X W k) (hvl : PD bk X W e tv) (hk : PD bk X W ek tk) (hN : X.N[i]? = some x := by rfl) (hv : Vis X.env.scope x := by first | exact Or.inl rfl | exact Or.inr (Or.inl rfl) | exact Or.inr (Or.inr rfl)) (hd : (x == ("__debug__" : Str)) = false := by decide)
    (hcd : (x == ("__classdict__" : Str)) = false := by decide)
    (ha : ∀ v, assign (.Subscript (.Name x px) ek sp) X.env v = (do
      let ov ← holding [v] (eval (.Name x px) X.env)
      let iv ← holding [v, ov] (eval ek X.env)
      standAt sp
      holding [v, ov, iv] (setItem ov iv v)
      release [v, ov, iv] []) := by intro _; rfl)
    (hs : swapsWithSole [.Subscript (.Name x px) ek sp] e pos.line X.env = pure false := by rfl) (hw : swappedStores [.Subscript (.Name x px) ek sp] e X.env = pure none := by rfl)
    (h1 : (assignEach [.Subscript (.Name x px) ek sp] X.env).map (·.2) = [assign (.Subscript (.Name x px) ek sp) X.env] := by rfl) : PSD bk X W (.Assign [.Subscript (.Name x px) ek sp] e pos) (tStoT i tv tk) := sd_stoT xb hvl (pe_var hN hv hd hcd) hk ha hs hw h1
end
end HA

namespace HA
open PySem PySem.Spec PyProof.Rows L2

/-! ### enumerate(zip(.., ..)) -/
section
variable {prog : Program} {w : World} {A : Around} {E : Value → Shared → Prop} {s : Shared} {e z TI TO i1 i2 : Addr} {fp1 fp2 : List Addr} {n1 n2 i : Nat} {P1 P2 : Nat → Value → Prop} {St1 St2 : Nat → Heap → Prop} {f0 f1 : Value} {c : Int} {old : Value}
theorem enumz_next {Q : Value → Shared → Prop} (S : ZipSep2 z TI TO i1 i2 fp1 fp2) (D1 : Draws prog w A.in1 i1 fp1 n1 P1 St1) (D2 : Draws prog w A.in1 i2 fp2 n2 P2 St2) (he : IsEnum s.heap e z c old) (hz : ZS s.heap z TI TO f0 f1) (hf : F0 f0)
    (hTI : IsTupOf2 s.heap TI (.ref i1) (.ref i2)) (hTO : ∃ u v, IsTupOf2 s.heap TO u v) (st1 : St1 i s.heap) (st2 : St2 i s.heap) (l1 : i < n1) (l2 : i < n2) (en : e ∉ [z, TO, i1, i2])
    (hQ : ∀ x y h1 h' tk tk2, P1 i x → P2 i y → ZNew s.heap h1 z TI TO i1 i2 St1 St2 (i + 1) x y → IsEnumOut h' e z (c + 1) (.ref s.heap.objs.size) h1.objs.size →
      h'.get? h1.objs.size = some { cls := .type "tuple", data := .seq #[.int c tk, .ref s.heap.objs.size] } → (∀ b o, b ≠ e → h1.get? b = some o → h'.get? b = some o) → Q (.ref h1.objs.size) { s with heap := h', toks := tk2 }) :
    wpAny (model prog w) A (Builtin.«enumerate.__next__» ⟨[.ref e], []⟩) (fun fin s' => ∃ v, fin = .done (.ret v) ∧ Q v s') E s := by
  obtain ⟨hp, g, d, tk₀, os⟩ := s
  show wpAny _ _ (field (.ref e) 2 >>= _) _ _ _
  refine wpAny_bind (wpAny_field he rfl (x := .ref z) rfl ?_)
  refine wpAny_bind (zs_nextOf (s := ⟨hp, g, d, tk₀, os⟩) S D1 D2 hz hf hTI hTO st1 st2 l1 l2 fun x y h₁ tk p1 p2 zn => ?_)
  have he₁ : IsEnum h₁ e z c old := zn.kp e _ en he
  have hel : e < h₁.objs.size := Heap.lt_size he₁
  show wpAny _ _ (field (.ref e) 3 >>= _) _ _ ⟨h₁, g, d, tk, os⟩
  refine wpAny_bind (wpAny_field he₁ rfl (x := rawInt c) rfl ?_)
  show wpAny _ _ (field (.ref e) 4 >>= _) _ _ ⟨h₁, g, d, tk, os⟩
  refine wpAny_bind (wpAny_field he₁ rfl (x := .none) rfl ?_)
  show wpAny _ _ (mkInt c >>= _) _ _ ⟨h₁, g, d, tk, os⟩
  refine wpAny_bind (wpAny_mkInt ?_)
  show wpAny _ _ (setField (.ref e) 3 (rawInt (c + 1)) >>= _) _ _ ⟨h₁, g, d, tk + 1, os⟩
  refine wpAny_bind (wpAny_setField_rec he₁ (by simp) fun h₂ he₂ hs₂ => ?_)
  replace hs₂ : Heap.SameBut e h₁ h₂ := hs₂
  replace he₂ : IsEnum h₂ e z (c + 1) old := he₂
  show wpAny _ _ (setField (.ref e) 4 .none >>= _) _ _ ⟨h₂, g, d, tk + 1, os⟩
  refine wpAny_bind (wpAny_setField_rec he₂ (by simp) fun h₃ he₃ hs₃ => ?_)
  replace hs₃ : Heap.SameBut e h₂ h₃ := hs₃
  replace he₃ : IsEnum h₃ e z (c + 1) old := he₃
  show wpAny _ _ (newTuple [.int c tk, .ref hp.objs.size] >>= _) _ _ ⟨h₃, g, d, tk + 1, os⟩
  refine wpAny_bind (wpAny_newTuple ?_)
  have he₄ : IsEnum (h₃.push { cls := .type "tuple", data := .seq #[.int c tk, .ref hp.objs.size] }) e z (c + 1) old := Heap.get?_push_of_some _ he₃
  generalize hh₄ : h₃.push { cls := .type "tuple", data := .seq #[.int c tk, .ref hp.objs.size] } = h₄ at he₄
  have hsz : h₃.objs.size = h₁.objs.size := by rw [hs₃.1, hs₂.1]
  have ht₄ : h₄.get? h₁.objs.size = some { cls := .type "tuple", data := .seq #[.int c tk, .ref hp.objs.size] } := by rw [← hh₄, ← hsz]; exact Heap.get?_push_size _ rfl
  have hk₄ : ∀ b o, b ≠ e → h₁.get? b = some o → h₄.get? b = some o := fun b o hbe hb => by
    rw [← hh₄]; exact Heap.get?_push_of_some _ (hs₃.extBut b o hbe (hs₂.extBut b o hbe hb))
  show wpAny _ _ (Builtin.SmallTypes.ownedTupleIsFree (.ref e) >>= _) _ _ ⟨h₄, g, d, tk + 1, os⟩
  rw [hsz]
  clear hh₄ he₃ hs₃ he₂ hs₂ hsz h₃ h₂
  refine wpAny_bind ?_
  · unfold Builtin.SmallTypes.ownedTupleIsFree
    refine wpAny_bind (wpAny_field he₄ rfl (x := .none) rfl (wpAny_pure ?_))
    simp only [if_true]
    refine wpAny_bind (wpAny_rule ?_)
    refine wpAny_bind (wpAny_field he₄ rfl (x := old) rfl ?_)
    refine wpAny_bind (wpAny_setField_rec he₄ (by simp) fun h₅ he₅ hs₅ => ?_)
    replace hs₅ : Heap.SameBut e h₄ h₅ := hs₅
    replace he₅ : IsEnum h₅ e z (c + 1) (.ref hp.objs.size) := he₅
    show wpAny _ _ (Builtin.SmallTypes.ownedTupleHandOut (.ref e) (.ref h₁.objs.size) >>= _) _ _ ⟨h₅, g, d, tk + 1, os⟩
    refine wpAny_bind ?_
    · unfold Builtin.SmallTypes.ownedTupleHandOut
      refine wpAny_bind (wpAny_setField_rec he₅ (by simp) fun h₆ he₆ hs₆ => ?_)
      replace hs₆ : Heap.SameBut e h₅ h₆ := hs₆
      replace he₆ : IsEnumOut h₆ e z (c + 1) (.ref hp.objs.size) h₁.objs.size := he₆
      refine wpAny_setField_rec he₆ (by simp) fun h₇ he₇ hs₇ => ?_
      replace hs₇ : Heap.SameBut e h₆ h₇ := hs₇
      replace he₇ : IsEnumOut h₇ e z (c + 1) (.ref hp.objs.size) h₁.objs.size := he₇
      refine wpAny_bind (wpAny_letGo (wpAny_pure ⟨_, rfl, hQ x y h₁ h₇ tk _ p1 p2 zn he₇ ?_ ?_⟩))
      · exact hs₇.extBut _ _ (Nat.ne_of_gt hel) (hs₆.extBut _ _ (Nat.ne_of_gt hel) (hs₅.extBut _ _ (Nat.ne_of_gt hel) ht₄))
      · exact fun b o hbe hb => hs₇.extBut b o hbe (hs₆.extBut b o hbe (hs₅.extBut b o hbe (hk₄ b o hbe hb)))
theorem enumz_pyNext {Q : Option Value → Shared → Prop} (S : ZipSep2 z TI TO i1 i2 fp1 fp2) (D1 : Draws prog w A.in1.in1 i1 fp1 n1 P1 St1) (D2 : Draws prog w A.in1.in1 i2 fp2 n2 P2 St2) (he : IsEnum s.heap e z c old) (hz : ZS s.heap z TI TO f0 f1) (hf : F0 f0)
    (hTI : IsTupOf2 s.heap TI (.ref i1) (.ref i2)) (hTO : ∃ u v, IsTupOf2 s.heap TO u v) (st1 : St1 i s.heap) (st2 : St2 i s.heap) (l1 : i < n1) (l2 : i < n2) (en : e ∉ [z, TO, i1, i2])
    (hQ : ∀ x y h1 h' tk tk2, P1 i x → P2 i y → ZNew s.heap h1 z TI TO i1 i2 St1 St2 (i + 1) x y → IsEnumOut h' e z (c + 1) (.ref s.heap.objs.size) h1.objs.size →
      h'.get? h1.objs.size = some { cls := .type "tuple", data := .seq #[.int c tk, .ref s.heap.objs.size] } → (∀ b o, b ≠ e → h1.get? b = some o → h'.get? b = some o) → Q (some (.ref h1.objs.size)) { s with heap := h', toks := tk2 }) :
    wpAny (model prog w) A (pyNext (.ref e)) Q E s := by
  have hT : s.TypeIs (.ref e) "enumerate" := ⟨_, he, rfl⟩
  unfold pyNext
  exact wpAny_bind (wpAny_attempt (wpAny_callSpecial?_slot (name := Str.ofString "__next__") hT F.slot_enumerate_next
    (wpAny_call_entry F.slot_enumerate_next hT F.entry_enumerate_next
      (enumz_next S D1 D2 he hz hf hTI hTO st1 st2 l1 l2 en fun x y h1 h' tk tk2 a b c d k q => wpAny_pure (hQ x y h1 h' tk tk2 a b c d k q)) (F.args_enumerate_next_1 _))))
theorem enumz_end {Q : Option Value → Shared → Prop} (S : ZipSep2 z TI TO i1 i2 fp1 fp2) (D1 : Draws prog w A.in1.in1 i1 fp1 n1 P1 St1) (D2 : Draws prog w A.in1.in1 i2 fp2 n2 P2 St2) (he : IsEnum s.heap e z c old) (hz : ZS s.heap z TI TO f0 f1) (hf : F0 f0)
    (hTI : IsTupOf2 s.heap TI (.ref i1) (.ref i2)) (hTO : ∃ u v, IsTupOf2 s.heap TO u v) (st1 : St1 i s.heap) (st2 : St2 i s.heap) (hi : i = min n1 n2)
    (hQ : ∀ h' tk, (∀ b o, b ∉ [z, TO, i1, i2] → s.heap.get? b = some o → h'.get? b = some o) → Q none { s with heap := h', toks := tk }) : wpAny (model prog w) A (pyNext (.ref e)) Q E s := by
  have hT : s.TypeIs (.ref e) "enumerate" := ⟨_, he, rfl⟩
  unfold pyNext
  refine wpAny_bind (wpAny_attempt (wpAny_callSpecial?_slot (name := Str.ofString "__next__") hT F.slot_enumerate_next
    (wpAny_call_entry F.slot_enumerate_next hT F.entry_enumerate_next ?_ (F.args_enumerate_next_1 _))))
  show wpAny _ _ (field (.ref e) 2 >>= _) _ _ _
  refine wpAny_bind (wpAny_field he rfl (x := .ref z) rfl ?_)
  refine wpAny_bind (zs_nextOf_end S D1 D2 hz hf hTI hTO st1 st2 hi fun h' tk x he' hx' => ?_)
  obtain ⟨o, ho, hc⟩ := hx'
  refine wpAny_bind (wpAny_isInstance (T := "StopIteration") (b := true) ⟨o, ho, hc⟩ isSubtype_stop ?_)
  exact wpAny_pure (hQ _ _ he')
end
end HA

namespace HA
open PySem PySem.Spec PyProof.Rows L2

/-! ### enumerate(zip(.., ..)): the turns -/
def IteZ (K : PySem.W.Frag) (b c : Bool) (a d : Addr) : It :=
  ⟨fun i H => ∃ (xs ys : List V) (x y : V), SqB K b H a xs ∧ SqB K c H d ys ∧ xs[i]? = some x ∧ ys[i]? = some y,
    fun i H v H' => ∃ Tz T x y, v = .ref T ∧ H Tz = none ∧ H T = none ∧ T ≠ Tz ∧ H' = upd (upd H Tz (.tup [x, y])) T (.tup [.int (i : Nat), .ref Tz]) ∧ (∀ xs, SqB K b H a xs → xs[i]? = some x) ∧ ∀ ys, SqB K c H d ys → ys[i]? = some y,
    fun i H => ∃ xs ys : List V, SqB K b H a xs ∧ SqB K c H d ys ∧ i = min xs.length ys.length⟩
theorem turn_enumZ {P : Program} {w : World} {K : PySem.W.Frag} {elts : List Expr} {kk : Nat} {tpos : Pos} (b c : Bool) {a d e z TI TO i1 i2 : Addr} (D : ZipSep2 z TI TO i1 i2 [i1, a] [i2, d]) (en : e ∉ [z, TI, TO, i1, i2]) :
    Turn P w K (.Tuple elts kk tpos) (IteZ K b c a d) [e, z, TI, TO, i1, i2] e (fun i h => (∃ old, IsEnum h e z ((i : Nat) : Int) old) ∧ (∃ f0 f1, F0 f0 ∧ ZS h z TI TO f0 f1) ∧ IsTupOf2 h TI (.ref i1) (.ref i2) ∧ (∃ x y, IsTupOf2 h TO x y) ∧ ItB b h i1 a i ∧ ItB c h i2 d i) where
  mem := by simp
  obj := fun i h st q hq => by
    obtain ⟨⟨old, he⟩, ⟨f0, f1, _, hz⟩, hTI, ⟨x, y, hTO⟩, h1, h2⟩ := st
    have e' : q = e ∨ q = z ∨ q = TI ∨ q = TO ∨ q = i1 ∨ q = i2 := by simpa using hq
    rcases e' with q | q | q | q | q | q
    · rw [q]; exact ⟨_, he, fun v q => nomatch q⟩
    · rw [q]; exact ⟨_, hz, fun v q => nomatch q⟩
    · rw [q]; exact ⟨_, hTI, fun v q => nomatch q⟩
    · rw [q]; exact ⟨_, hTO, fun v q => nomatch q⟩
    · rw [q]; exact h1.obj
    · rw [q]; exact h2.obj
  keep := fun i h h' st k => by
    obtain ⟨⟨old, he⟩, ⟨f0, f1, f2, hz⟩, hTI, ⟨x, y, hTO⟩, h1, h2⟩ := st
    exact ⟨⟨old, k e (by simp) _ he⟩, ⟨f0, f1, f2, k z (by simp) _ hz⟩, k TI (by simp) _ hTI, ⟨x, y, k TO (by simp) _ hTO⟩, h1.at_ fun o q => k i1 (by simp) o q, h2.at_ fun o q => k i2 (by simp) o q⟩
  item := by
    intro X hP hw hK hc i pins s σ H E I hf st hg
    subst hP hw hK
    obtain ⟨⟨old, he⟩, ⟨f0, f1, f2, hz⟩, hTI, hTO, h1, h2⟩ := st
    obtain ⟨xs, ys, x, y, hqx, hqy, hx, hy⟩ := hg
    obtain ⟨its, rv, p⟩ := seqB I hqx
    obtain ⟨its2, rv2, p2⟩ := seqB I hqy
    obtain ⟨u, hu, ru⟩ := paired_get rv hx
    obtain ⟨u2, hu2, ru2⟩ := paired_get rv2 hy
    have l1 : i < its.toArray.size := by
      have := (List.getElem?_eq_some_iff.mp hu).1
      simpa using this
    have l2 : i < its2.toArray.size := by
      have := (List.getElem?_eq_some_iff.mp hu2).1
      simpa using this
    have ne : e ≠ z ∧ e ≠ TI ∧ e ≠ TO ∧ e ≠ i1 ∧ e ≠ i2 := by simpa only [List.mem_cons, List.not_mem_nil, or_false, not_or] using en
    have D1 := drawsB b (prog := X.prog) (w := X.w) (A := X.A.in1.in1) (I.ok.hd hc) i1 a (p.neIt h1) its.toArray
    have D2 := drawsB c (prog := X.prog) (w := X.w) (A := X.A.in1.in1) (I.ok.hd hc) i2 d (p2.neIt h2) its2.toArray
    have old2 : ∀ q, q ∈ [e, z, TI, TO, i1, i2] → q < s.heap.objs.size := fun q hq => by
      have e' : q = e ∨ q = z ∨ q = TI ∨ q = TO ∨ q = i1 ∨ q = i2 := by simpa using hq
      rcases e' with q | q | q | q | q | q
      · rw [q]; exact Heap.lt_size he
      · rw [q]; exact Heap.lt_size hz
      · rw [q]; exact Heap.lt_size hTI
      · rw [q]; obtain ⟨_, _, q⟩ := hTO; exact Heap.lt_size q
      · rw [q]; obtain ⟨_, q, _⟩ := h1.obj; exact Heap.lt_size q
      · rw [q]; obtain ⟨_, q, _⟩ := h2.obj; exact Heap.lt_size q
    refine enumz_pyNext D D1 D2 he hz f2 hTI hTO ⟨h1, p⟩ ⟨h2, p2⟩ l1 l2 (by simp [ne.1, ne.2.2.1, ne.2.2.2.1, ne.2.2.2.2]) fun v v2 g1 g2 tk tk2 hv hv2 zn ho ht hk => ?_
    have ev : v = u := by
      have : its[i]? = some v := by simpa using hv
      rw [hu] at this; cases this; rfl
    have ev2 : v2 = u2 := by
      have : its2[i]? = some v2 := by simpa using hv2
      rw [hu2] at this; cases this; rfl
    subst ev ev2
    refine ⟨_, rfl, wpAny_letOwnedTupleGo_enum ho fun g3 he3 hs3 => ?_⟩
    have k3 : ∀ q o, q ≠ e → g1.get? q = some o → g3.get? q = some o := fun q o hq z => hs3.extBut q o hq (hk q o hq z)
    have hTz : H s.heap.objs.size = none := I.hok.fresh (Nat.le_refl _)
    have hf1 : ∀ b ∈ [z, TO, i1, i2], FpOk X pins H b := fun q hq => hf q (by
      have e' : q = z ∨ q = TO ∨ q = i1 ∨ q = i2 := by simpa using hq
      rcases e' with q | q | q | q <;> simp [q])
    have new1 : ObjOk X.prog X.w (upd H s.heap.objs.size (.tup [x, y])) g1 s.heap.objs.size (.tup [x, y]) := ⟨by show 2 ≤ sizeLine; decide, [v, v2], .cons ru (.cons ru2 .nil), ⟨_, zn.new, rfl, _, rfl⟩⟩
    have I1 : Inv X pins σ (upd H s.heap.objs.size (.tup [x, y])) { s with heap := g1, toks := tk2 } := I.turnedNew (ch := [z, TO, i1, i2]) (fun q o hq z => zn.kp q o hq z) hf1 (Nat.le_refl _) new1
    have hT1 : H g1.objs.size = none := I.hok.fresh (by rw [zn.sz]; exact Nat.le_succ _)
    have hT2 : (upd H s.heap.objs.size (HO.tup [x, y])) g1.objs.size = none := by rw [upd_ne (by rw [zn.sz]; exact Nat.succ_ne_self _)]; exact hT1
    have ez : e ≠ s.heap.objs.size := Nat.ne_of_lt (old2 e (by simp))
    have hf2 : ∀ b ∈ [e], FpOk X pins (upd H s.heap.objs.size (.tup [x, y])) b := fun q hq => by
      have : q = e := by simpa using hq
      subst this
      have := hf q (by simp)
      exact ⟨by rw [upd_ne ez]; exact this.1, this.2⟩
    have tT : g3.get? g1.objs.size = some { cls := .type "tuple", data := .seq #[.int ((i : Nat) : Int) tk, .ref s.heap.objs.size] } := hs3.extBut _ _ (Nat.ne_of_gt (by rw [zn.sz]; exact Nat.lt_succ_of_lt (old2 e (by simp)))) ht
    have new2 : ObjOk X.prog X.w (upd (upd H s.heap.objs.size (.tup [x, y])) g1.objs.size (.tup [.int (i : Nat), .ref s.heap.objs.size])) g3 g1.objs.size (.tup [.int (i : Nat), .ref s.heap.objs.size]) :=
      ⟨by show 2 ≤ sizeLine; decide, [.int ((i : Nat) : Int) tk, .ref s.heap.objs.size], .cons ⟨_, rfl⟩ (.cons rfl .nil), ⟨_, tT, rfl, _, rfl⟩⟩
    have I2 : Inv X pins σ (upd (upd H s.heap.objs.size (.tup [x, y])) g1.objs.size (.tup [.int (i : Nat), .ref s.heap.objs.size])) { s with heap := g3, toks := tk2 } :=
      I1.turnedNew (t' := tk2) (ch := [e]) (fun q o hq z => k3 q o (fun e => hq (by simp [e])) z) hf2 (Nat.le_refl _) new2
    obtain ⟨k0, k1, kf, zs⟩ := zn.zs
    obtain ⟨w1, w2, to⟩ := zn.to
    refine ⟨.ref g1.objs.size, _, I2, rfl, ⟨s.heap.objs.size, g1.objs.size, x, y, rfl, hTz, hT1, by rw [zn.sz]; exact Nat.succ_ne_self _, rfl, fun l hl => by rw [injB I hl hqx]; exact hx, fun l hl => by rw [injB I hl hqy]; exact hy⟩, ⟨⟨.ref s.heap.objs.size, ?_⟩, ⟨k0, k1, kf, k3 _ _ (Ne.symm ne.1) zs⟩, k3 _ _ (Ne.symm ne.2.1) zn.ti, ⟨w1, w2, k3 _ _ (Ne.symm ne.2.2.1) to⟩, zn.s1.1.at_ fun o q => k3 _ o (Ne.symm ne.2.2.2.1) q, zn.s2.1.at_ fun o q => k3 _ o (Ne.symm ne.2.2.2.2) q⟩, fun q hq => ?_⟩
    · have e1 : (((i + 1 : Nat)) : Int) = ((i : Nat) : Int) + 1 := by omega
      rw [e1]
      exact he3
    · have lt := old2 q hq
      rw [upd_ne (by rw [zn.sz]; exact Nat.ne_of_lt (Nat.lt_succ_of_lt lt)), upd_ne (Nat.ne_of_lt lt)]
      exact (hf q hq).1
  done := by
    intro X hP hw hK hc i pins s σ H E I hf st hg
    subst hP hw hK
    obtain ⟨⟨old, he⟩, ⟨f0, f1, f2, hz⟩, hTI, hTO, h1, h2⟩ := st
    obtain ⟨xs, ys, hqx, hqy, hx⟩ := hg
    obtain ⟨its, rv, p⟩ := seqB I hqx
    obtain ⟨its2, rv2, p2⟩ := seqB I hqy
    have D1 := drawsB b (prog := X.prog) (w := X.w) (A := X.A.in1.in1) (I.ok.hd hc) i1 a (p.neIt h1) its.toArray
    have D2 := drawsB c (prog := X.prog) (w := X.w) (A := X.A.in1.in1) (I.ok.hd hc) i2 d (p2.neIt h2) its2.toArray
    have hi : i = min its.toArray.size its2.toArray.size := by rw [hx, rv.length, rv2.length]; simp
    have hf' : ∀ b ∈ [z, TO, i1, i2], FpOk X pins H b := fun e he => hf e (by
      have e' : e = z ∨ e = TO ∨ e = i1 ∨ e = i2 := by simpa using he
      rcases e' with q | q | q | q <;> simp [q])
    exact enumz_end D D1 D2 he hz f2 hTI hTO ⟨h1, p⟩ ⟨h2, p2⟩ hi fun h' tk hk => ⟨rfl, I.turnedL (t' := tk) (ch := [z, TO, i1, i2]) hk hf'⟩
  self := fun A i s Q E st h => let ⟨⟨_, he⟩, _⟩ := st; wpAny_pyIter_enum he h
def iEnumZ (K : PySem.W.Frag) (ta : TA) : TI := fun σ H R => ta σ H fun vs H1 => ∃ a d b c xs ys, vs = [.ref a, .ref d] ∧ SqB K b H1 a xs ∧ SqB K c H1 d ys ∧ R (IteZ K b c a d) H1
theorem begZ (z TI TO : Addr) (f0 : Value) : BeginsG (.ref z) id (fun _ => z) (fun h => IsZip h z TI TO f0) := ⟨fun prog w A E s Q h q => wpAny_pyIter_zip h q⟩
theorem pi_enumZ {X : Cx} {e e2 : Expr} {ta : TA} {p pos p2 pos2 tpos : Pos} {elts : List Expr} {kk : Nat} (hg : Gl X "enumerate") (hm : X.mg "enumerate" = none) (hg2 : Gl X "zip") (hm2 : X.mg "zip" = none) (ha : PA X [e, e2] ta)
    (hs : starEach [e, e2] X.env = (false, eval e X.env) :: starEach [e2] X.env := by rfl) (hpl : (backTo pos2 (starEach [e2] X.env)).any (·.1) = false := by rfl)
    (hs2 : starEach [.Call (.Name "zip" p2) [e, e2] [] pos2] X.env = [(false, eval (.Call (.Name "zip" p2) [e, e2] [] pos2) X.env)] := by rfl) :
    PI X (.Tuple elts kk tpos) (.Call (.Name "enumerate" p) [.Call (.Name "zip" p2) [e, e2] [] pos2] [] pos) (iEnumZ X.K ta) := by
  refine ⟨fun pins s σ H R I h => ?_⟩
  refine Call_ (ld_blt I hg hm boot_enumerate (PyProof.Rows.callWith_type1 ?_ hs2 rfl))
  rw [hs2]
  show wpAny _ _ (spliced ((false, eval (.Call (.Name "zip" p2) [e, e2] [] pos2) X.env) :: [])) _ _ s
  refine Calls.spliced_cons ?_
  refine wpAny_Call_Name_kw (ld_blt I hg2 hm2 PyProof.Rows.boot_zip ?_)
  refine PyProof.Rows.callWith_type1 (thn (ha.run pos2 pins s σ H _ I h) fun us s1 ⟨vs, H1, I1, r1, q1⟩ => ?_) hs hpl
  obtain ⟨a, d, b, c, xs, ys, ex, hqx, hqy, q⟩ := q1
  subst ex
  obtain ⟨v1, v2, rfl, r, r'⟩ := vals2 r1
  cases r
  cases r'
  obtain ⟨its, rv, p1⟩ := seqB I1 hqx
  obtain ⟨its2, rv2, p2⟩ := seqB I1 hqy
  have la : a < s1.heap.objs.size := by
    cases b with
    | false => obtain ⟨o, e, _⟩ := p1; exact Heap.lt_size e
    | true => obtain ⟨o, e, _⟩ := p1; exact Heap.lt_size e
  have ld : d < s1.heap.objs.size := by
    cases c with
    | false => obtain ⟨o, e, _⟩ := p2; exact Heap.lt_size e
    | true => obtain ⟨o, e, _⟩ := p2; exact Heap.lt_size e
  refine zip_begins2 (beginsB b a its.toArray) (beginsB c d its2.toArray) p1 p2 fun h' hz hTI hTO e1 e2 hsz hk => ?_
  refine Calls.spliced_nil ?_
  refine call_enumG (s := { s1 with heap := h' }) (begZ (s1.heap.objs.size + 4) (s1.heap.objs.size + 2) (s1.heap.objs.size + 3) .none) hz (wpAny_pyIter_enum (Heap.get?_push_size _ rfl) ?_)
  have k2 : ∀ q o, h'.get? q = some o → (h'.push (enO (s1.heap.objs.size + 4))).get? q = some o := fun q o z => Heap.get?_push_of_some _ z
  have I2 : Inv X pins σ H1 { s1 with heap := h'.push (enO (s1.heap.objs.size + 4)) } := I1.kept (t' := s1.toks) fun q o z => k2 q o (hk q o z)
  show PIE X pins σ _ R (.ref h'.objs.size) { s1 with heap := h'.push (enO (s1.heap.objs.size + 4)) }
  rw [hsz]
  refine ⟨s1.heap.objs.size + 5, [s1.heap.objs.size + 5, s1.heap.objs.size + 4, s1.heap.objs.size + 2, s1.heap.objs.size + 3, s1.heap.objs.size, s1.heap.objs.size + 1], _, _, H1, rfl, I2,
    turn_enumZ b c (zip_sep2 (N := s1.heap.objs.size) (fp1 := [a]) (fp2 := [d]) (fun x hx => by rw [List.mem_singleton.mp hx]; exact la) (fun x hx => by rw [List.mem_singleton.mp hx]; exact ld)) ?_, ⟨⟨.none, ?_⟩, ⟨.none, .bool false, .inl rfl, k2 _ _ hz⟩, k2 _ _ hTI, ⟨_, _, k2 _ _ hTO⟩, ItB.at0 (k2 _ _ e1), ItB.at0 (k2 _ _ e2)⟩, fun x hx => ?_, q⟩
  · simp
  · have := Heap.get?_push_size h' (o := enO (s1.heap.objs.size + 4)) rfl
    rw [hsz] at this
    exact this
  · have e' : x = s1.heap.objs.size + 5 ∨ x = s1.heap.objs.size + 4 ∨ x = s1.heap.objs.size + 2 ∨ x = s1.heap.objs.size + 3 ∨ x = s1.heap.objs.size ∨ x = s1.heap.objs.size + 1 := by simpa using hx
    have hle : s1.heap.objs.size ≤ x := by
      rcases e' with z | z | z | z | z | z
      · rw [z]; exact Nat.le_add_right _ _
      · rw [z]; exact Nat.le_add_right _ _
      · rw [z]; exact Nat.le_add_right _ _
      · rw [z]; exact Nat.le_add_right _ _
      · rw [z]; exact Nat.le_refl _
      · rw [z]; exact Nat.le_add_right _ _
    exact I1.fpOk hle (I1.hok.fresh hle)
/-! the reading -/
theorem it_enumZ {bk : BoxKind} {X : Cx} {P : AS → Hp → Prop} {b c : Bool} {a d : Addr} {xs ys : List PyData} (h : SrcB bk X.K P b a xs) (g : SrcB bk X.K P c d ys) : ItD bk X.K P (IteZ X.K b c a d) (enumF 0 (zipL xs ys)) := by
  refine ⟨fun i S H p hi => ?_, fun i S H x v H' p hx y => ?_, fun i S H p hi => ?_⟩
  · obtain ⟨vs, h1, h2, ok⟩ := h S H p
    obtain ⟨ws, h3, h4, _⟩ := g S H p
    rw [enumF_len, zipL_len] at hi
    have l1 : i < vs.length := by rw [h2.length]; omega
    have l2 : i < ws.length := by rw [h4.length]; omega
    exact ⟨vs, ws, vs[i], ws[i], h1, h3, List.getElem?_eq_getElem l1, List.getElem?_eq_getElem l2⟩
  · obtain ⟨vs, h1, h2, ok⟩ := h S H p
    obtain ⟨ws, h3, h4, _⟩ := g S H p
    obtain ⟨Tz, T, u, u2, rfl, hn, hn2, hne, rfl, y1, y2⟩ := y
    obtain ⟨x0, hx0, rfl⟩ := enumF_get hx
    obtain ⟨x', y', hx', hy', rfl⟩ := zipL_get hx0
    obtain ⟨v', hv, rv⟩ := h2.getD hx'
    obtain ⟨w', hw, rw'⟩ := h4.getD hy'
    have e1 := y1 vs h1
    have e2 := y2 ws h3
    rw [hv] at e1
    rw [hw] at e2
    cases e1
    cases e2
    obtain ⟨S1, x1, r1⟩ := Ext.tup2 (X := X) ok hn (.cons rv (.cons rw' .nil))
    obtain ⟨S2, x2, r2⟩ := Ext.tup2 (X := X) (vs := [.int (i : Nat), .ref Tz]) (xs := [.int ((0 + i : Nat) : Int), .tuple [x', y']]) x1.ok (T := T) (by rw [upd_ne hne]; exact hn2) (.cons (by rw [Nat.zero_add]; exact .int _) (.cons r1 .nil))
    exact ⟨S2, Ext.trans ok x1 x2, r2⟩
  · obtain ⟨vs, h1, h2, ok⟩ := h S H p
    obtain ⟨ws, h3, h4, _⟩ := g S H p
    exact ⟨vs, ws, h1, h3, by rw [hi, h2.length, h4.length, enumF_len, zipL_len]⟩
def tEnZD (t : TDU) : TDI := fun env Q Ex => t env (fun xs => on2 xs fun x y => asSeq x fun xs => asSeq y fun ys => Q (enumF 0 (zipL xs ys))) Ex
theorem on2_is {α : Type} {rs : List α} {k : α → α → Prop} (h : on2 rs k) : ∃ a b, rs = [a, b] ∧ k a b := by
  rcases rs with _ | ⟨a, _ | ⟨b, _ | ⟨c, r⟩⟩⟩
  · exact h.elim
  · exact h.elim
  · exact ⟨a, b, rfl, h⟩
  · exact h.elim
section
variable {bk : BoxKind} {X : Cx} {W : WX} {fz : Bool} {tr : TDU} {e e2 : Expr} {p pos p2 pos2 tpos : Pos} {elts : List Expr} {kk : Nat}
theorem q_enumzip (hm : X.mg "enumerate" = none) (hm2 : X.mg "zip" = none) (ha : PDV bk X W fz [e, e2] tr) (hg : Gl X "enumerate" := by rfl) (hg2 : Gl X "zip" := by rfl)
    (hs : starEach [e, e2] X.env = (false, eval e X.env) :: starEach [e2] X.env := by rfl) (hpl : (backTo pos2 (starEach [e2] X.env)).any (·.1) = false := by rfl)
    (hs2 : starEach [.Call (.Name "zip" p2) [e, e2] [] pos2] X.env = [(false, eval (.Call (.Name "zip" p2) [e, e2] [] pos2) X.env)] := by rfl) :
    PID bk X W fz (.Tuple elts kk tpos) (.Call (.Name "enumerate" p) [.Call (.Name "zip" p2) [e, e2] [] pos2] [] pos) (tEnZD tr) :=
  PI.imp (pi_enumZ hg hm hg2 hm2 ha hs hpl hs2) fun σ H R q => by
    obtain ⟨S, env, Hz, Qd, Ex, ok, ab, ex, con, t⟩ := q
    refine ⟨S, env, Hz, _, Ex, ok, ab, ex, fun xs vs H1 S1 q1 e1 r1 => ?_, t⟩
    obtain ⟨x, y, rfl, q1⟩ := on2_is q1
    obtain ⟨v, w, rfl, h1, h2⟩ := paired2 r1
    obtain ⟨a, b, ys, rfl, q2, sb⟩ := h1.srcB e1.ok q1
    obtain ⟨d, c, zs, rfl, q3, sc⟩ := h2.srcB e1.ok q2
    obtain ⟨ws, h3, _⟩ := sb S1 H1 (PFX.self e1.ok)
    obtain ⟨us, h4, _⟩ := sc S1 H1 (PFX.self e1.ok)
    exact ⟨a, d, b, c, ws, us, rfl, h3, h4, con _ _ _ _ q3 e1 (it_enumZ sb sc)⟩
end
end HA

namespace HA
open PySem PySem.Spec PyProof.Rows L2

/-! ### x[k] = v, where x is a list or a dict with numbers and texts as keys -/
def stoU (o : Ow) (kd v : PyData) (k : Ow → Prop) : Prop := match o, kd with
  | .lst xs, .int i => ∃ j, ixN xs.length i = some j ∧ k (.lst (xs.set j v))
  | .dic kvs, kd => isKey kd = true ∧ kvs.length < sizeLine ∧ k (.dic (putD kvs kd v))
  | _, _ => False
def enOw (env : En) (i : Nat) (k : Ow → Prop) : Prop := enGet env i fun r => match r with
  | .own o => k o
  | _ => False
def tStoU (i : Nat) (tv tk : TD) : TSD := fun D env => tv env (fun r => r.arg fun r2 => onD r2 fun v => enOw env i fun o => tk env (fun r3 => r3.use fun kd => stoU o kd v fun o2 => D.nx (env.set i (some (.own o2)))) (D.err env)) (D.err env)
section
variable {bk : BoxKind} {X : Cx} {W : WX} {S S' S0 : AS} {σ : Sg} {H Hz : Hp} {env : En} {pos p px : Pos} {e ev ek : Expr} {t tv tk : TD} {k : Nat}
theorem set_uni (hu : X.A.units + 1 < cLine) : PSet X (fun o i v H Q => rSetL o i v H Q ∨ rSetD o i v H Q) := fun pins s σ H o i v ov iv u Q I ro ri rv h => by
  rcases h with h | h
  · exact set_list pins s σ H o i v ov iv u Q I ro ri rv h
  · exact set_dict hu pins s σ H o i v ov iv u Q I ro ri rv h
theorem enOw_at {i : Nat} {q : Ow → Prop} (h : enOw env i q) (ab : Abs X.K S Hz H σ env) : ∃ o a, env[i]? = some (some (.own o)) ∧ σ[i]? = some (some (.ref a)) ∧ Hz a = none ∧ a ∉ S.l ∧ S.F a = none ∧ OwR X.K S.F H a o ∧ q o := by
  obtain ⟨r, e, q⟩ := enGet_some h
  cases r with
  | own o =>
    obtain ⟨v, e2, a, rfl, h1, h2, h3, h4⟩ := ab.at_ i _ e
    exact ⟨o, a, e, e2, h1, h2, h3, h4, q⟩
  | d x => exact q.elim
  | bor o => exact q.elim
  | box => exact q.elim
  | scr ns => exact q.elim
theorem sd_stoU {i : Nat} {o : Expr} {sp : Pos} (xb : XB X W k) (hv : PD bk X W ev tv) (ho : PE X o (tVar i)) (hk : PD bk X W ek tk)
    (ha : ∀ v, assign (.Subscript o ek sp) X.env v = (do
      let ov ← holding [v] (eval o X.env)
      let iv ← holding [v, ov] (eval ek X.env)
      standAt sp
      holding [v, ov, iv] (setItem ov iv v)
      release [v, ov, iv] []) := by intro _; rfl)
    (hs : swapsWithSole [.Subscript o ek sp] ev pos.line X.env = pure false := by rfl) (hw : swappedStores [.Subscript o ek sp] ev X.env = pure none := by rfl)
    (h1 : (assignEach [.Subscript o ek sp] X.env).map (·.2) = [assign (.Subscript o ek sp) X.env] := by rfl) :
    PSD bk X W (.Assign [.Subscript o ek sp] ev pos) (tStoU i tv tk) := PS.imp (ps_asg hv (pg_sub ho hk (set_uni xb.u1) ha) hs hw h1) fun D σ H q => by
  obtain ⟨S0, Hz, S, env, Dd, ok0, e0, ab, en, t⟩ := q
  refine ⟨S, env, Hz, _, _, e0.ok, ab, en.exOk ok0 e0 ab, fun r v H1 S1 q1 e1 r1 => ?_, t⟩
  obtain ⟨S2, r2, e2, ra, q2, _⟩ := r1.arg e0.ok e1 q1
  obtain ⟨x, rfl, q3⟩ := onD_is q2
  obtain ⟨o, a, hi, hv, z1, z2, z3, z4, t⟩ := enOw_at q3 (ab.ext e2)
  refine ⟨.ref a, hv, S2, env, Hz, _, _, e2.ok, ab.ext e2, (en.exOk ok0 e0 ab).ext e0.ok e2, fun r3 v3 H3 S4 q4 e4 r3' => ?_, t⟩
  obtain ⟨kd, rk, q5⟩ := r3'.rq q4
  have l4 : a ∉ S4.l := by rw [e4.el]; exact z2
  have w4 : OwR X.K S4.F H3 a o := z4.mono e4.fz fun u h => e4.kp a u h z2
  have f4 : S4.F a = none := by
    cases z : S4.F a with
    | none => rfl
    | some w =>
      obtain ⟨u, hu⟩ := z4.there
      have z2 := e4.nw a z3 (by rw [z]; exact nofun)
      rw [hu] at z2; cases z2
  have ab4 := (ab.ext e2).ext e4
  have ex4 := Ext.tr ok0 (Ext.tr ok0 e0 e2) e4
  have rx : Rp X.K S4.F v x := Rp.mono e4.fz ra
  cases o with
  | lst xs =>
    cases kd with
    | int ii =>
      obtain ⟨j, hj, q6⟩ := q5
      obtain ⟨vs, h1, h2⟩ := w4
      have ev := rk.int
      subst ev
      refine .inl ⟨a, vs, ii, j, rfl, rfl, h1, by rw [h2.length]; exact hj, ?_⟩
      exact en.nx _ _ S4 _ (ex4.write z1 f4 l4) (ab4.write hi hv z1 l4 f4 (show OwR X.K S4.F _ a (.lst _) from ⟨_, upd_same, h2.set rx j⟩)) q6
    | _ => exact q5.elim
  | dic kvs =>
    obtain ⟨hk, hl, q6⟩ := q5
    obtain ⟨key, rfl⟩ := key_of hk
    obtain ⟨vs, h1, h2⟩ := w4
    have ev := Rq.keyV rk
    subst ev
    refine .inr ⟨a, _, rfl, DPut.k h1 (by rw [h2.length]; exact hl), ?_⟩
    exact en.nx _ _ S4 _ (ex4.write z1 f4 l4) (ab4.write hi hv z1 l4 f4 (show OwR X.K S4.F _ a (.dic _) from ⟨_, upd_same, RpKv.put h2 rx⟩)) q6
  | dtn kvs => cases kd <;> exact q5.elim
theorem q_stoU {i : Nat} {x : Str} {px sp : Pos} {ek : Expr} {tv tk : TD} (xb : XB X W k) (hvl : PD bk X W e tv) (hk : PD bk X W ek tk) (hN : X.N[i]? = some x := by rfl) (hv : Vis X.env.scope x := by first | exact Or.inl rfl | exact Or.inr (Or.inl rfl) | exact Or.inr (Or.inr rfl)) (hd : (x == ("__debug__" : Str)) = false := by decide)
    (hcd : (x == ("__classdict__" : Str)) = false := by decide)
    (ha : ∀ v, assign (.Subscript (.Name x px) ek sp) X.env v = (do
      let ov ← holding [v] (eval (.Name x px) X.env)
      let iv ← holding [v, ov] (eval ek X.env)
      standAt sp
      holding [v, ov, iv] (setItem ov iv v)
      release [v, ov, iv] []) := by intro _; rfl)
    (hs : swapsWithSole [.Subscript (.Name x px) ek sp] e pos.line X.env = pure false := by rfl) (hw : swappedStores [.Subscript (.Name x px) ek sp] e X.env = pure none := by rfl)
    (h1 : (assignEach [.Subscript (.Name x px) ek sp] X.env).map (·.2) = [assign (.Subscript (.Name x px) ek sp) X.env] := by rfl) : PSD bk X W (.Assign [.Subscript (.Name x px) ek sp] e pos) (tStoU i tv tk) := sd_stoU xb hvl (pe_var hN hv hd hcd) hk ha hs hw h1
end
/-! ### a, b = x, y where a name is caught by a comprehension: the pair is built and taken apart -/
section
variable {X : Cx} {pos : Pos}
theorem ps_parC {i j : Nat} {x y : Str} {a b : Expr} {ta : TA} {px py pt : Pos} {kt k2 pt2} (hc : X.calm = true) (hN : X.N.Nodup) (hi : X.N[i]? = some x) (hj : X.N[j]? = some y)
    (hx : Loc X.env.scope x) (hy : Loc X.env.scope y) (fx : X.fn x = true ∨ X.env.scope.names.lookup x = some .local) (fy : X.fn y = true ∨ X.env.scope.names.lookup y = some .local) (ha : PA X [a, b] ta)
    (hw : swappedStores [.Tuple [.Name x px, .Name y py] kt pt] (.Tuple [a, b] k2 pt2) X.env = pure none)
    (hs : swapsWithSole [.Tuple [.Name x px, .Name y py] kt pt] (.Tuple [a, b] k2 pt2) pos.line X.env = pure false)
    (h1 : (assignEach [.Tuple [.Name x px, .Name y py] kt pt] X.env).map (·.2) = [assign (.Tuple [.Name x px, .Name y py] kt pt) X.env])
    (hn : (assignEach [.Name x px, .Name y py] X.env).length = 2) (hst : (assignEach [.Name x px, .Name y py] X.env).findIdx? (·.1) = none)
    (h2 : (assignEach [.Name x px, .Name y py] X.env).map (·.2) = assign (.Name x px) X.env :: (assignEach [.Name y py] X.env).map (·.2))
    (h3 : (assignEach [.Name y py] X.env).map (·.2) = assign (.Name y py) X.env :: (assignEach [] X.env).map (·.2)) :
    PS X (.Assign [.Tuple [.Name x px, .Name y py] kt pt] (.Tuple [a, b] k2 pt2) pos) (tPar i j ta) := by
  refine ⟨fun pins s σ H D I h => ?_⟩
  refine wpAny_Assign_stores ?_ hs hw
  refine Tuple_ (thn (ha.run _ pins s σ H _ I h) fun us s1 ⟨vs, H1, I1, r1, q1⟩ => ?_)
  obtain ⟨v, w, e1, q1⟩ := q1
  subst e1
  obtain ⟨u1, u2, rfl, rv, rw'⟩ : ∃ u1 u2, us = [u1, u2] ∧ RelV v u1 ∧ RelV w u2 := by
    cases r1 with
    | cons p q =>
      cases q with
      | cons p' q' =>
        cases q'
        exact ⟨_, _, rfl, p, p'⟩
  refine wpAny_newObj_type ?_ (by show 2 ≤ sizeLine; decide)
  have I2 : Inv X pins σ H1 { s1 with heap := s1.heap.push { cls := .type "tuple", data := .seq [u1, u2].toArray } } := I1.kept (t' := s1.toks) fun b o e => Heap.get?_push_of_some _ e
  rw [h1]
  refine thn (Q := fun _ s2 => SP X pins D .next s2) ?_ fun _ s2 q => q
  refine assign_Tuple_tuple (items := #[u1, u2]) (I.ok.hd hc) (IsTup.new s1.heap _) (by rw [hn]; rfl) hst fun h' hx' => ?_
  have I3 : Inv X pins σ H1 { s1 with heap := h' } := I2.kept (h' := h') (t' := s1.toks) fun b o e => hx' b o (Nat.ne_of_lt (Heap.lt_size e)) e
  exact (pgs_cons (pg_name hN hi hx fx) (pgs_cons (pg_name hN hj hy fy) pgs_nil h3) h2).run pins _ σ H1 [v, w] [u1, u2] _ I3 (.cons rv (.cons rw' .nil)) ⟨_, _, rfl, _, _, rfl, rfl, q1⟩
end
section
variable {bk : BoxKind} {X : Cx} {W : WX} {a b : Expr} {pos : Pos} {k : Nat}
theorem q_parC (i j : Nat) {x y : Str} {ta : TDA} {px py pt : Pos} {kt k2 : Nat} {pt2 : Pos} (xb : XB X W k) (ha : PDS bk X W [a, b] ta) (hi : X.N[i]? = some x := by rfl) (hj : X.N[j]? = some y := by rfl) (hij : i ≠ j := by decide)
    (hx : Loc X.env.scope x := by first | exact .inl rfl | exact .inr rfl) (hy : Loc X.env.scope y := by first | exact .inl rfl | exact .inr rfl) (fx : X.fn x = true ∨ X.env.scope.names.lookup x = some .local := by first | exact .inl rfl | exact .inr rfl) (fy : X.fn y = true ∨ X.env.scope.names.lookup y = some .local := by first | exact .inl rfl | exact .inr rfl)
    (hw : swappedStores [.Tuple [.Name x px, .Name y py] kt pt] (.Tuple [a, b] k2 pt2) X.env = pure none := by rfl)
    (hs : swapsWithSole [.Tuple [.Name x px, .Name y py] kt pt] (.Tuple [a, b] k2 pt2) pos.line X.env = pure false := by rfl)
    (h1 : (assignEach [.Tuple [.Name x px, .Name y py] kt pt] X.env).map (·.2) = [assign (.Tuple [.Name x px, .Name y py] kt pt) X.env] := by rfl)
    (hn : (assignEach [.Name x px, .Name y py] X.env).length = 2 := by rfl) (hst : (assignEach [.Name x px, .Name y py] X.env).findIdx? (·.1) = none := by rfl)
    (h2 : (assignEach [.Name x px, .Name y py] X.env).map (·.2) = assign (.Name x px) X.env :: (assignEach [.Name y py] X.env).map (·.2) := by rfl)
    (h3 : (assignEach [.Name y py] X.env).map (·.2) = assign (.Name y py) X.env :: (assignEach [] X.env).map (·.2) := by rfl) :
    PSD bk X W (.Assign [.Tuple [.Name x px, .Name y py] kt pt] (.Tuple [a, b] k2 pt2) pos) (tParD i j ta) := PS.imp (ps_parC xb.calm xb.nd hi hj hx hy fx fy ha hw hs h1 hn hst h2 h3) fun D σ H q => by
  obtain ⟨S0, Hz, S, env, Dd, ok0, e0, ab, en, t⟩ := q
  refine ⟨S, env, Hz, _, _, e0.ok, ab, en.exOk ok0 e0 ab, fun rs vs H1 S1 q1 e1 r1 => ?_, t⟩
  split at q1
  · obtain ⟨v, w, rfl⟩ : ∃ v w, vs = [v, w] := by
      cases r1 with
      | cons _ _ _ t => cases t with
        | cons _ _ _ t => cases t; exact ⟨_, _, rfl⟩
    exact ⟨v, w, rfl, en.nx _ _ S1 _ (Ext.tr ok0 e0 e1) (r1.slots2 e1 (Ext.freeZ ok0 e0) ab) q1⟩
  · exact q1.elim
end
end HA

namespace HA
open PySem PySem.Spec PyProof.Rows L2

/-! ### sorted(set(xs)), xs a short list of tuples of numbers -/
def encI (k : List Int) : PyData := .tuple (k.map .int)
theorem perm_map_inv {α β : Type} {f : α → β} {ys zs : List β} (h : ys.Perm zs) : ∀ {L : List α}, zs = L.map f → ∃ L1 : List α, L1.Perm L ∧ ys = L1.map f := by
  induction h with
  | nil => intro L e; exact ⟨[], by rw [List.map_eq_nil_iff.mp e.symm], rfl⟩
  | cons x _ ih =>
    intro L e
    cases L with
    | nil => cases e
    | cons a L =>
      rw [List.map_cons] at e
      injection e with e1 e2
      obtain ⟨L1, p, e3⟩ := ih e2
      exact ⟨a :: L1, p.cons a, by rw [e1, e3]; rfl⟩
  | swap x y l =>
    intro L e
    match L, e with
    | a :: b :: L, e =>
      rw [List.map_cons, List.map_cons] at e
      injection e with e1 e2
      injection e2 with e2 e3
      exact ⟨b :: a :: L, .swap _ _ _, by rw [e1, e2, e3]; rfl⟩
  | trans _ _ ih1 ih2 =>
    intro L e
    obtain ⟨L2, p2, e2⟩ := ih2 e
    obtain ⟨L1, p1, e1⟩ := ih1 e2
    exact ⟨L1, p1.trans p2, e1⟩
abbrev RowT := Addr × List Int
def encR (q : RowT) : PyData := encI q.2
def rSortT (K : PySem.W.Frag) (P : Program) (w : World) : List V → Hp → VK → Prop := fun vs H Q => ∃ (a : Addr) (L : List RowT) (d : Nat), vs = [V.ref a] ∧ H a = some (SetTO P w a L) ∧ (∀ p ∈ L, SqT K H p.1 (p.2.map V.int)) ∧ (∀ p ∈ L, p.2.length = d + 1) ∧
  ∀ (L1 : List RowT) (p : Addr), L1.Perm L → (L1.map (·.2)).Nodup → H p = none → Q (.ref p) (upd H p (.lst ((L1.mergeSort (PySem.W.dataLe false encR)).map fun q => V.ref q.1)))
theorem alike_row {k l : List Int} (h : k.length = l.length) : PySem.W.alike (encI k) (encI l) = true := by
  unfold encI
  have : ∀ (k l : List Int), k.length = l.length → PySem.W.alikeAll (k.map .int) (l.map .int) = true := fun k l _ => PySem.W.alike_ints k l
  exact this k l h
theorem depth_row (k : List Int) : (encI k).depth ≤ 1 := by
  unfold encI
  have := PySem.W.depth_ints k
  show PyData.depthAll (k.map .int) + 1 ≤ 1
  omega
theorem reads_row {h : Heap} {P : Program} {w : World} {k : List Int} {b : Addr} (x : IsT P w h k b) : Reads h (.ref b) (encI k) [] := by
  obtain ⟨o, items, n, ho, hc, hd, hi⟩ := x
  have all : ∀ {vs : List Value} {ks : List Int}, ItemsAre (intKind P w) ks vs → ReadsAll h vs (ks.map .int) [] := by
    intro vs ks hi
    induction hi with
    | nil => exact .nil
    | @cons k0 v ks vs h1 _ ih =>
      obtain ⟨t, rfl⟩ := Value.isInt_shape h1
      exact ReadsAll.cons (as := []) (bs := []) (.int k0 t) ih
  exact .tuple ho hc hd (all hi)
section
variable {X : Cx}
theorem cr_sortT (hc : X.calm = true) (hu : X.A.units + 64 < cLine) : CallR X (.builtin "sorted") (rSortT X.K X.prog X.w) := by
  intro pins s σ H vs us Q I r h
  obtain ⟨a, L, d, rfl, ha, hk, hd, q⟩ := h
  have R0 : SetT0 X.prog X.w s.heap a L := (I.hok a _ ha).1
  obtain ⟨es, ep, t, R⟩ := R0.full fun p hp => I.isT (hk p hp)
  obtain ⟨o, ho, hex, hdat⟩ := R.ob
  have hsz := R.size
  have hfew := R.few
  rw [Vals.ref1 r]
  refine Calls.call_function_entry kind_sorted plain_sorted entry_sorted (args_sorted1 _) ?_
  unfold Builtin.«sorted»
  refine wpAny_bind (m := checkCount "sorted" 1 1 _) (wpAny_pure ?_)
  refine wpAny_bind (collect_set (A := X.A.in1) (I.ok.hd hc) ⟨o, ho, hex.1, hdat⟩ R.fits (by unfold scanBound; omega) R.tab.ris R.led fun s1 vs k1 hz g1 o1 pm => ?_)
  have hes : es.toList.map (·.2) = L.map fun q : RowT => Value.ref q.1 := by
    rw [R.rows]
    unfold rowsOf
    rw [List.map_map]
    rfl
  rw [hes] at pm
  obtain ⟨L1, p1, rfl⟩ := perm_map_inv pm rfl
  have hl1 : L1.length < 64 := by rw [p1.length_eq]; exact hfew
  refine wpAny_bind (wpAny_newList ?_ (by rw [sizeLine_eq, List.length_map]; omega))
  have hoL : (s1.heap.push (seqObj "list" (L1.map fun q : RowT => Value.ref q.1).toArray 0)).get? s1.heap.objs.size = some (seqObj "list" (L1.map fun q : RowT => Value.ref q.1).toArray 0) := Heap.get?_push_size _ rfl
  have rd : ∀ q ∈ L1, Reads (s1.heap.push (seqObj "list" (L1.map fun q : RowT => Value.ref q.1).toArray 0)) (.ref q.1) (encR q) [] := fun q hq =>
    reads_row (isT_keep (R.tup q (p1.mem_iff.mp hq)) fun b u e => Heap.get?_push_of_some _ (k1 b u e))
  have each : ∀ (l : List RowT) {T : Value → RowT → Prop}, (∀ q ∈ l, T (.ref q.1) q) → PySem.W.EachIs T (l.map fun q : RowT => Value.ref q.1) l := by
    intro l
    induction l with
    | nil => intro T _; exact .nil
    | cons q l ih => intro T h; exact .cons (h q List.mem_cons_self) (ih fun r hr => h r (List.mem_cons_of_mem _ hr))
  have hlen : ∀ q ∈ L1, q.2.length = d + 1 := fun q hq => hd q (p1.mem_iff.mp hq)
  refine wpAny_bind (wpAny_holding (PySem.W.list_sort_data (s := { s1 with heap := s1.heap.push (seqObj "list" (L1.map fun q : RowT => Value.ref q.1).toArray 0) }) (enc := encR) (R := fun u (q : RowT) => u = Value.ref q.1) hoL (each L1 fun _ _ => rfl) (each L1 fun q hq => ⟨[], rd q hq, by simp⟩) ?_ ?_ (by rw [sizeLine_eq]; omega) ?_ fun out ol oe => ?_))
  · intro x hx y hy
    obtain ⟨q, hq, rfl⟩ := List.mem_map.mp hx
    obtain ⟨r, hr, rfl⟩ := List.mem_map.mp hy
    exact alike_row (by rw [hlen q hq, hlen r hr])
  · refine .inl fun x hx => ?_
    obtain ⟨q, hq, rfl⟩ := List.mem_map.mp hx
    have := hlen q hq
    unfold encR encI
    match q.2, this with
    | z :: zs, _ => exact ⟨_, _, rfl⟩
  · intro q _
    have := depth_row q.2
    have hdd : (encR q).depth ≤ 1 := this
    show X.A.in1.units + 1 + (encR q).depth < cLine
    have e1 : X.A.in1.units ≤ X.A.units + 1 := Nat.le_refl _
    omega
  · have eo : ∀ {l : List RowT} {out : List Value}, PySem.W.EachIs (fun u (q : RowT) => u = Value.ref q.1) out l → out = l.map fun q : RowT => Value.ref q.1 := by
      intro l out h
      induction h with
      | nil => rfl
      | cons h1 _ ih => rw [h1, ih]; rfl
    have e2 := eo oe
    obtain ⟨c, hcc⟩ := sortedHeap_at (vs := L1.map fun q : RowT => Value.ref q.1) (out := out.toArray) hoL
    have p2 : (L1.mergeSort (PySem.W.dataLe false encR)).Perm L := (List.mergeSort_perm _ _).trans p1
    have kept : ∀ b u, s.heap.get? b = some u → (sortedHeap (s1.heap.push (seqObj "list" (L1.map fun q : RowT => Value.ref q.1).toArray 0)) s1.heap.objs.size (L1.map fun q : RowT => Value.ref q.1) out.toArray).get? b = some u := fun b u e => by
      have q := k1 b u e
      have hlt := Heap.lt_size q
      rw [sortedHeap_old (Nat.ne_of_lt hlt) (by rw [Heap.size_push]; exact Nat.lt_succ_of_lt hlt)]
      exact Heap.get?_push_of_some _ q
    have hn : H s1.heap.objs.size = none := I.hok.fresh hz
    have hv : Vals ((L1.mergeSort (PySem.W.dataLe false encR)).map fun q : RowT => V.ref q.1) out := by rw [e2]; exact vals_of_refs _
    have hls : ((L1.mergeSort (PySem.W.dataLe false encR)).map fun q : RowT => V.ref q.1).length ≤ sizeLine := by rw [List.length_map, List.length_mergeSort, sizeLine_eq]; omega
    have J : Inv X pins σ (upd H s1.heap.objs.size (.lst ((L1.mergeSort (PySem.W.dataLe false encR)).map fun q : RowT => V.ref q.1)))
        { s with heap := sortedHeap (s1.heap.push (seqObj "list" (L1.map fun q : RowT => Value.ref q.1).toArray 0)) s1.heap.objs.size (L1.map fun q : RowT => Value.ref q.1) out.toArray, gens := s1.gens, drawn := s1.drawn, toks := s1.toks } :=
      I.call (ch := []) (Un.laid kept hz hn) (I.hok.laid kept hz ⟨hls, out, c, hv, hcc⟩) (by rw [g1]; exact I.bare) (fun _ z => nomatch z)
    refine wpAny_pure ⟨_, rfl, .ref _, _, ?_, rfl, q L1 s1.heap.objs.size p1 ((p1.map (·.2)).nodup_iff.mpr R.nd) hn⟩
    rw [← o1] at J
    exact J
end

def gSortSet (x : PyData) (Q : RV → Prop) : Prop := match x with
  | .list xs => ∃ (ks : List (List Int)) (d : Nat), xs = ks.map encI ∧ ks.length < 64 ∧ (∀ k ∈ ks, k.length = d + 1) ∧ ∀ zs : List (List Int), zs.Nodup → (∀ k, k ∈ zs ↔ k ∈ ks) → Q (.own (.lst ((zs.map encI).mergeSort (PySem.W.dataLe false id))))
  | _ => False
theorem row_of {K : PySem.W.Frag} {H : Hp} {v : V} {k : List Int} (h : Rp K H v (encI k)) : ∃ b, v = .ref b ∧ SqT K H b (k.map V.int) := by
  cases h with
  | @tup b xs _ hq ha =>
    have : ∀ {k : List Int} {xs : List V}, RpAll K H xs (k.map .int) → xs = k.map V.int := by
      intro k
      induction k with
      | nil => intro xs h; cases h; rfl
      | cons i k ih =>
        intro xs h
        cases h with
        | cons h1 h2 =>
          cases h1
          rw [ih h2]; rfl
    rw [this ha] at hq
    exact ⟨b, rfl, hq⟩
theorem rows_of {K : PySem.W.Frag} {H : Hp} : ∀ {ks : List (List Int)} {vs : List V}, RpAll K H vs (ks.map encI) → ∃ rows : List RowT, vs = rows.map (fun q => V.ref q.1) ∧ rows.map (·.2) = ks ∧ ∀ q ∈ rows, Rp K H (.ref q.1) (encI q.2)
  | [], _, h => by cases h; exact ⟨[], rfl, rfl, fun q h => by cases h⟩
  | k :: ks, _, h => by
    cases h with
    | cons h1 h2 =>
      obtain ⟨b, rfl, _⟩ := row_of h1
      obtain ⟨rows, rfl, e, h3⟩ := rows_of h2
      refine ⟨(b, k) :: rows, rfl, by rw [List.map_cons, e], fun q hq => ?_⟩
      rcases List.mem_cons.mp hq with rfl | hq
      · exact h1
      · exact h3 q hq
theorem all_rows {K : PySem.W.Frag} {H : Hp} : ∀ {rows : List RowT}, (∀ q ∈ rows, Rp K H (.ref q.1) (encI q.2)) → RpAll K H (rows.map fun q => V.ref q.1) (rows.map encR)
  | [], _ => .nil
  | q :: rows, h => .cons (h q List.mem_cons_self) (all_rows fun r hr => h r (List.mem_cons_of_mem _ hr))
end HA

namespace HA
open PySem PySem.Spec PyProof.Rows L2

/-! ### sorted(set(xs)), xs a list of numbers -/
section
variable {P : Program} {w : World} {A : Around} {E : Value → Shared → Prop} {s : Shared}
def bare (w : World) : Obj := { cls := .type "set", dict := none, data := .set #[] 0 (.fresh 0 0 (!w.params.followText "set-order")) }
/-- set(x): what begins empty and goes through set.__init__ -/
theorem set_made {x : Value} {Q : Value → Shared → Prop}
    (h : wpAny (model P w) A.in1.in1 (Builtin.«set.__init__» ⟨[.ref s.heap.objs.size, x], []⟩)
        (fun fin s' => match fin with | .done f => wants (fun r s₂ => r = .none ∧ Q (.ref s.heap.objs.size) s₂) E (.ok f) s' | .again c' => c'.quiet = true ∧ codeAny (model P w) A.in1 c' (wants (fun r s₂ => r = .none ∧ Q (.ref s.heap.objs.size) s₂) E) s')
        (fun e s' => wants (fun r s₂ => r = .none ∧ Q (.ref s.heap.objs.size) s₂) E (.error e) s') { s with heap := s.heap.push (bare w) }) :
    wpAny (model P w) A (call (.type "set") [x]) Q E s := by
  have kd := F.called_set
  have ⟨_, _, hmro⟩ := kd.mro
  have m1 := kd.made
  have m2 := kd.sub
  have m3 := kd.notType
  have m4 := kd.canCreate
  have m5 := F.typeCall_set_1 x
  refine wpAny_call (codeAny_of_tree ?_)
  show wpAny _ _ (callAny (.type "set") _) _ _ _
  refine wpAny_pure ⟨Code.quiet_builtin _ (by decide +kernel), codeAny_builtin F.entry_type_call ?_⟩
  rw [Around.under_plain (weight_type_call_type "set" [x] []) rfl]
  repeat (any_goals (first | assumption | wp_step))
  refine codeAny_mono (code_set_led1 x (E := E) (Q₁ := fun obj s1 => obj = .ref s.heap.objs.size ∧ s1 = { s with heap := s.heap.push (bare w) }) ⟨rfl, rfl⟩) fun res s1 hres => ?_
  match res, hres with
  | .error _, hres => exact hres
  | .ok (.ret obj), hres =>
    obtain ⟨rfl, rfl⟩ := hres
    have hT : Shared.TypeIs { s with heap := s.heap.push (bare w) } (.ref s.heap.objs.size) "set" := ⟨_, Heap.get?_push_size _ rfl, rfl⟩
    have i1 := kd.init.lookup
    have i2 := kd.init.bind (.ref s.heap.objs.size)
    repeat (any_goals (first | assumption | wp_step))
    refine codeAny_mono (codeAny_call_builtin kd.init.plain F.entry_set_init (check_set_init_1 hT h)) fun res2 s2 hres2 => ?_
    match res2, hres2 with
    | .error _, hres2 => exact hres2
    | .ok (.ret r), hres2 =>
      obtain ⟨rfl, hq⟩ := hres2
      repeat (any_goals (first | assumption | wp_step))
theorem set_ints {l : Addr} {items : Array Value} (ns : List Int) {Q : Value → Shared → Prop} (hh : A.handled = none) (hl : s.heap.IsList l items) (hit : IntsAre items.toList ns) (hb : ns.length + 1 < scanBound)
    (h : ∀ (h' : Heap) (tk c : Nat), SetR w h' s.heap.objs.size (fun j => decide (j ∈ ns)) c → c ≤ ns.length → (∀ b o, s.heap.get? b = some o → h'.get? b = some o) → Q (.ref s.heap.objs.size) { s with heap := h', toks := tk }) :
    wpAny (model P w) A (call (.type "set") [.ref l]) Q E s := by
  have fresh : (s.heap.push (bare w)).get? s.heap.objs.size = some (bare w) := Heap.get?_push_size _ rfl
  refine set_made ?_
  have hl1 : (s.heap.push (bare w)).IsList l items := hl.push _
  obtain ⟨ob, h1, h2, nn, h3⟩ := id hl1
  obtain ⟨oc, od, oda, osl⟩ := ob
  cases h2
  cases h3
  have q1 := F.sub_list_set
  have q2 := F.sub_list_frozenset
  have q3 : (Value.type "list" == Value.type "dict") = false := by decide
  unfold Builtin.«set.__init__» noKeywords Builtin.Frozenset.updateFrom
  generalize hPI : pyIter = PI
  wp_walk
  subst hPI
  refine wpAny_pyIter_list hl1 ?_
  refine wpAny_bind (wpAny_runValue ?_)
  have lS : l < s.heap.objs.size := let ⟨_, z, _⟩ := hl; Heap.lt_size z
  have zS : (s.heap.push (bare w)).objs.size = s.heap.objs.size + 1 := Heap.size_push ..
  have hI : l ≠ (s.heap.push (bare w)).objs.size := by rw [zS]; exact Nat.ne_of_lt (Nat.lt_succ_of_lt lS)
  have hS : s.heap.objs.size ∉ [(s.heap.push (bare w)).objs.size, l] := by
    simp only [List.mem_cons, List.not_mem_nil, or_false, not_or]
    exact ⟨by rw [zS]; exact Nat.ne_of_lt (Nat.lt_succ_self _), Nat.ne_of_gt lS⟩
  have hn : items.size = ns.length := by rw [← Array.length_toList]; exact hit.length
  have at_ : ∀ (vs : List Value) (ns : List Int), IntsAre vs ns → ∀ (i : Nat) (v : Value), vs[i]? = some v → ∃ k t, ns[i]? = some k ∧ v = Value.int k t := by
    intro vs ns h
    induction h with
    | nil => intro i v e; cases e
    | cons k t _ ih =>
      intro i v e
      cases i with
      | zero => cases e; exact ⟨k, t, rfl, rfl⟩
      | succ i => exact ih i v e
  refine set_update_ints ((Walks.list (by simp [hh]) _ l hI items).toS) s.heap.objs.size hS ns hn hb (fun i v e => at_ _ _ hit i v (by rw [Array.getElem?_toList]; exact e)) (items.size - 0) 0 _ (by omega) (Nat.zero_le _) ⟨⟨_, Heap.get?_push_size _ rfl, rfl, rfl⟩, hl1.push _⟩
    ⟨0, Nat.le_refl _, setR_new_at (Heap.get?_push_of_some _ fresh)⟩ fun s2 c hm hc hR => ?_
  obtain ⟨h2, g2, d2, t2, o2⟩ := s2
  have z1 : g2 = s.gens := hm.gens
  have z2 : d2 = s.drawn := hm.drawn
  have z3 : o2 = s.os := hm.os
  subst z1 z2 z3
  refine wpAny_pure (wpAny_pure ⟨rfl, h h2 t2 c hR (by omega) fun b o e => ?_⟩)
  have lb := Heap.lt_size e
  refine hm.heap b o ?_ (Heap.get?_push_of_some _ (Heap.get?_push_of_some _ e))
  simp only [List.mem_cons, List.not_mem_nil, or_false, not_or]
  exact ⟨Nat.ne_of_lt lb, by show b ≠ (s.heap.push (bare w)).objs.size; rw [zS]; exact Nat.ne_of_lt (Nat.lt_succ_of_lt lb)⟩
end
def rSetOfI (K : PySem.W.Frag) (w : World) : List V → Hp → VK → Prop := fun xs H Q => ∃ (l : Addr) (ns : List Int), xs = [V.ref l] ∧ SqL K H l (ns.map V.int) ∧ ns.length < 64 ∧
  ∀ a c, H a = none → c ≤ ns.length → Q (.ref a) (upd H a (SetO w a (fun j => decide (j ∈ ns)) c))
section
variable {X : Cx}
theorem cr_setOfI (hc : X.calm = true) : CallR X (.type "set") (rSetOfI X.K X.w) := by
  intro pins s σ H xs us Q I r h
  obtain ⟨l, ns, rfl, hl, hf, q⟩ := h
  rw [Vals.ref1 r]
  obtain ⟨its, rv, pl, hz⟩ := I.list hl
  have hn : H s.heap.objs.size = none := I.hok.fresh (Nat.le_refl _)
  refine set_ints (P := X.prog) (w := X.w) ns (I.ok.hd hc) pl.isList (by simpa using rv.ints) (by unfold scanBound; omega) fun h' tk c R hcn k => ?_
  exact ⟨.ref s.heap.objs.size, upd H s.heap.objs.size (SetO X.w s.heap.objs.size (fun j => decide (j ∈ ns)) c), I.laid (t' := tk) k (Nat.le_refl _) (setO_new R), rfl, q _ c hn hcn⟩
end
def gSortSetI (x : PyData) (Q : RV → Prop) : Prop := match x with
  | .list xs => ∃ ns : List Int, xs = ns.map .int ∧ ns.length < 64 ∧ ∀ zs : List Int, zs.Pairwise (· < ·) → (∀ k, k ∈ zs ↔ k ∈ ns) → Q (.own (.lst (zs.map .int)))
  | _ => False
theorem ints_rp {K : PySem.W.Frag} {H : Hp} : ∀ {ns : List Int} {vs : List V}, RpAll K H vs (ns.map .int) → vs = ns.map V.int
  | [], _, h => by cases h; rfl
  | i :: ns, _, h => by
    cases h with
    | cons h1 h2 =>
      cases h1
      rw [ints_rp h2]; rfl
theorem rp_ints {K : PySem.W.Frag} {H : Hp} : ∀ (ns : List Int), RpAll K H (ns.map V.int) (ns.map .int)
  | [] => .nil
  | i :: ns => .cons (.int i) (rp_ints ns)
/-- of tuples of numbers, or of numbers -/
def gSSet (x : PyData) (Q : RV → Prop) : Prop := gSortSet x Q ∨ gSortSetI x Q
def tSSet (t : TD) : TD := fun env Q Ex => t env (fun r => r.use fun x => gSSet x Q) Ex
section
variable {bk : BoxKind} {X : Cx} {W : WX} {k : Nat} {pos p p2 pos2 : Pos} {e : Expr} {t : TD}
theorem CallR.or {f : Value} {r1 r2 : List V → Hp → VK → Prop} (h1 : CallR X f r1) (h2 : CallR X f r2) : CallR X f fun xs H Q => r1 xs H Q ∨ r2 xs H Q := fun pins s σ H xs us Q I r h => by
  rcases h with h | h
  · exact h1 pins s σ H xs us Q I r h
  · exact h2 pins s σ H xs us Q I r h
theorem q_sset (xb : XB X W k) (hm : X.mg "sorted" = none) (hm2 : X.mg "set" = none) (h : PD bk X W e t) (hg : Gl X "sorted" := by rfl) (hg2 : Gl X "set" := by rfl) (he : St1 X e [] := by rfl) (he2 : St1 X (.Call (.Name "set" p2) [e] [] pos2) [] := by rfl) :
    PD bk X W (.Call (.Name "sorted" p) [.Call (.Name "set" p2) [e] [] pos2] [] pos) (tSSet t) := by
  have hu := xb.u64
  have hin : PE X (.Call (.Name "set" p2) [e] [] pos2) (tCB (fun xs H Q => rSetOfT X.K X.prog X.w xs H Q ∨ rSetOfI X.K X.w xs H Q) (tCons (liftE bk X W t) tNil)) :=
    pe_callTy (CallR.or (cr_setOfT xb.calm hu) (cr_setOfI xb.calm)) hg2 hm2 (by decide +kernel) (pa_cons h pa_nil he) (by decide) (by decide) he rfl
  refine PE.imp (pe_callB (CallR.or (cr_sortT xb.calm hu) (cr_sortedSet xb.calm)) hg hm (by decide +kernel) (pa_cons hin pa_nil he2) (by decide) (by decide) he2 rfl) fun σ H Q q => ?_
  obtain ⟨S, env, Hz, Qd, Ex, ok, ab, ex, con, tt⟩ := q
  refine ⟨S, env, Hz, _, Ex, ok, ab, ex, fun r v H1 S1 q1 e1 r1 => ?_, tt⟩
  obtain ⟨x, rx, q2⟩ := r1.rq q1
  rcases q2 with q2 | q2
  · unfold gSortSet at q2
    split at q2
    · rename_i xs
      obtain ⟨ks, d, rfl, hl, hd, q2⟩ := q2
      obtain ⟨a, vs, rfl, hs, ha⟩ := rx.list e1.ok
      obtain ⟨rows, rfl, rfl, hr⟩ := rows_of ha
      rw [List.length_map] at hl
      have c1 := con.ext ok e1
      refine .inl ⟨a, rows, rfl, hs, fun q hq => ?_, hl, fun b L hb sub all => ?_⟩
      · obtain ⟨b, e, h⟩ := row_of ((hr q hq).mono e1.ok.sub)
        cases e
        exact h
      · have e2 : Ext bk S1 S1 H1 (upd H1 b (SetTO X.prog X.w b L)) := Ext.laid e1.ok hb
        have c2 := c1.ext e1.ok e2
        refine .inl ⟨b, L, d, rfl, upd_same, fun q hq => ?_, fun q hq => hd _ (List.mem_map.mpr ⟨q, sub q hq, rfl⟩), fun L1 p hp hnd hn => ?_⟩
        · obtain ⟨b2, e, h⟩ := row_of ((hr q (sub q hq)).mono e2.ok.sub)
          cases e
          exact h
        · have hq := q2 (L1.map (·.2)) hnd fun k => ?_
          · rw [List.map_map] at hq
            have em : (L1.map encR).mergeSort (PySem.W.dataLe false id) = (L1.mergeSort (PySem.W.dataLe false encR)).map encR := (List.map_mergeSort (f := encR) (r := PySem.W.dataLe false encR) (s := PySem.W.dataLe false id) (l := L1) fun _ _ _ _ => rfl).symm
            have hq : Qd (.own (.lst ((L1.map encR).mergeSort (PySem.W.dataLe false id)))) := hq
            rw [em] at hq
            exact c2.lst e2.ok hq (all_rows fun q hq => hr q (sub q (hp.mem_iff.mp ((List.mergeSort_perm _ _).mem_iff.mp hq)))) p hn
          · constructor
            · intro hk
              obtain ⟨q, hq, rfl⟩ := List.mem_map.mp hk
              exact List.mem_map.mpr ⟨q, sub q (hp.mem_iff.mp hq), rfl⟩
            · intro hk
              obtain ⟨q, hq, rfl⟩ := List.mem_map.mp hk
              obtain ⟨q2, hq2, e⟩ := List.mem_map.mp (all q hq)
              exact List.mem_map.mpr ⟨q2, hp.mem_iff.mpr hq2, e⟩
    · exact q2.elim
  · unfold gSortSetI at q2
    split at q2
    · rename_i xs
      obtain ⟨ns, rfl, hl, q2⟩ := q2
      obtain ⟨a, vs, rfl, hs, ha⟩ := rx.list e1.ok
      rw [ints_rp ha] at hs
      have c1 := con.ext ok e1
      refine .inr ⟨a, ns, rfl, hs, hl, fun b c hb hc => ?_⟩
      have e2 : Ext bk S1 S1 H1 (upd H1 b (SetO X.w b (fun j => decide (j ∈ ns)) c)) := Ext.laid e1.ok hb
      have c2 := c1.ext e1.ok e2
      refine .inr ⟨b, _, c, rfl, upd_same, by omega, fun zs p hp hm _ hn => ?_⟩
      exact c2.lst e2.ok (q2 zs hp fun k => by rw [hm k, decide_eq_true_iff]) (rp_ints zs) p hn
    · exact q2.elim
end
end HA

namespace HA
open PySem PySem.Spec PyProof.Rows L2

/-! ### readings where they meet their places, one rewrite each -/
def onOw (r : RV) (k : Ow → Prop) : Prop := match r with | .own o => k o | _ => False
theorem sizeBig : sizeLine = 16777216 := sizeLine_eq
theorem w_seq {D : SE} {env : En} {t u : TSD} : tSeqD t u D env = t { D with nx := u D } env := (rfl)
theorem w_set {D : SE} {env : En} {i : Nat} {t : TD} : tSetD i t D env = t env (fun r => r.sto fun r2 => D.nx (env.set i (some r2))) (D.err env) := (rfl)
theorem w_ret {D : SE} {env : En} {t : TD} : tRetD t D env = t env (fun r => r.sto D.rt) (D.err env) := (rfl)
theorem w_retN {D : SE} {env : En} : HA.tRetN D env = D.rt (.d .none) := (rfl)
theorem w_retV {D : SE} {env : En} {i : Nat} : tRetV i D env = enGet env i D.rt := (rfl)
theorem w_if {D : SE} {env : En} {c : TD} {t u : TSD} : tIfD c t u D env = c env (fun r => r.bl fun b => if b = true then t D env else u D env) (D.err env) := (rfl)
theorem w_drop {D : SE} {env : En} {t : TD} : tDropD t D env = t env (fun _ => D.nx env) (D.err env) := (rfl)
theorem w_asg {D : SE} {env : En} {t : TD} {g : TGD} : tAsgD t g D env = t env (fun r => r.arg fun r2 => onD r2 fun x => g x env D.nx) (D.err env) := (rfl)
theorem w_par {D : SE} {env : En} {i j : Nat} {t : TDA} : tParD i j t D env = t env (fun rs => on2 rs fun r r2 => D.nx ((env.set i (some r)).set j (some r2))) (D.err env) := by refine congrArg (fun k => t env k (D.err env)) (funext fun rs => ?_); rcases rs with _ | ⟨a, _ | ⟨b, _ | ⟨c, _ | ⟨d, r⟩⟩⟩⟩ <;> rfl
theorem w_par3 {D : SE} {env : En} {i j l : Nat} {t : TDA} : tPar3D i j l t D env = t env (fun rs => on3 rs fun r r2 r3 => D.nx (((env.set i (some r)).set j (some r2)).set l (some r3))) (D.err env) := by refine congrArg (fun k => t env k (D.err env)) (funext fun rs => ?_); rcases rs with _ | ⟨a, _ | ⟨b, _ | ⟨c, _ | ⟨d, r⟩⟩⟩⟩ <;> rfl
theorem w_nx {D : SE} {env : En} : tNxD D env = D.nx env := (rfl)
theorem w_bk {D : SE} {env : En} : tBkD D env = D.bk env := (rfl)
theorem w_ct {D : SE} {env : En} : tCtD D env = D.ct env := (rfl)
theorem w_frz {D : SE} {env : En} {i : Nat} {t : TSD} : tFrzD i t D env = enGet env i fun r => t D (env.set i (some r.frz)) := (rfl)
theorem w_for {D : SE} {env : En} {ti : TDI} {g : TGD} {tb : TSD} : tForD ti g tb D env = ti env (fun xs => forD g tb D xs env) (D.err env) := (rfl)
theorem w_app {D : SE} {env : En} {i : Nat} {t : TD} : tAppD i t D env = enLst env i fun xs => t env (fun r => r.arg fun r2 => onD r2 fun y => xs.length < sizeLine ∧ D.nx (env.set i (some (.own (.lst (xs ++ [y])))))) (D.err env) := (rfl)
theorem w_ext {D : SE} {env : En} {i : Nat} {t : TD} : tExtD i t D env = enLst env i fun xs => t env (fun r => r.use fun y => onL y fun ys => xs.length + ys.length ≤ sizeLine ∧ D.nx (env.set i (some (.own (.lst (xs ++ ys)))))) (D.err env) := (rfl)
theorem w_bin {env : En} {Q : RV → Prop} {Ex : Err → Prop} {g : GD} {a b : TD} : tBinD g a b env Q Ex = a env (fun r => r.use fun x => b env (fun r2 => r2.use fun y => g x y Q) Ex) Ex := (rfl)
theorem w_un {env : En} {Q : RV → Prop} {Ex : Err → Prop} {g : PyData → (RV → Prop) → Prop} {a : TD} : tUnD g a env Q Ex = a env (fun r => r.use fun x => g x Q) Ex := (rfl)
theorem w_var {env : En} {Q : RV → Prop} {Ex : Err → Prop} {i : Nat} : tVarD i env Q Ex = enGet env i fun r => Q r.rd := (rfl)
theorem w_con {env : En} {Q : RV → Prop} {Ex : Err → Prop} {d : PyData} : tConD d env Q Ex = Q (.d d) := (rfl)
theorem w_callB {env : En} {Q : RV → Prop} {Ex : Err → Prop} {g : GB} {a : TDU} : HA.tCallB g a env Q Ex = a env (fun xs => g xs Q) Ex := (rfl)
theorem w_nilU {env : En} {Q : List PyData → Prop} {Ex : Err → Prop} : tNilU env Q Ex = Q [] := (rfl)
theorem w_consU {env : En} {Q : List PyData → Prop} {Ex : Err → Prop} {a : TD} {b : TDU} : tConsU a b env Q Ex = a env (fun r => r.use fun x => b env (fun xs => Q (x :: xs)) Ex) Ex := (rfl)
theorem w_consS {env : En} {Q : List PyData → Prop} {Ex : Err → Prop} {fz : Bool} {a : TD} {b : TDU} : tConsS fz a b env Q Ex = a env (fun r => r.src fz fun x => b env (fun xs => Q (x :: xs)) Ex) Ex := (rfl)
theorem w_nilD {env : En} {Q : List RV → Prop} {Ex : Err → Prop} : tNilD env Q Ex = Q [] := (rfl)
theorem w_consD {env : En} {Q : List RV → Prop} {Ex : Err → Prop} {a : TD} {b : TDA} : tConsD a b env Q Ex = a env (fun r => r.arg fun r2 => b env (fun rs => Q (r2 :: rs)) Ex) Ex := (rfl)
theorem w_consO {env : En} {Q : List RV → Prop} {Ex : Err → Prop} {a : TD} {b : TDA} : tConsO a b env Q Ex = a env (fun r => r.sto fun r2 => b env (fun rs => Q (r2 :: rs)) Ex) Ex := (rfl)
theorem w_tup {env : En} {Q : RV → Prop} {Ex : Err → Prop} {a : TDA} : tTupD a env Q Ex = a env (fun rs => allD rs fun xs => xs.length ≤ sizeLine ∧ Q (.d (.tuple xs))) Ex := (rfl)
theorem w_lst {env : En} {Q : RV → Prop} {Ex : Err → Prop} {a : TDA} : tLstD a env Q Ex = a env (fun rs => allD rs fun xs => xs.length ≤ sizeLine ∧ Q (.own (.lst xs))) Ex := (rfl)
theorem w_dic0 {env : En} {Q : RV → Prop} {Ex : Err → Prop} : tDic0 env Q Ex = Q (.own (.dic [])) := (rfl)
theorem w_and {env : En} {Q : RV → Prop} {Ex : Err → Prop} {a b : TD} : tAndD a b env Q Ex = a env (fun r => r.bl fun k => if k = true then b env Q Ex else Q (.d (.bool false))) Ex := (rfl)
theorem w_or {env : En} {Q : RV → Prop} {Ex : Err → Prop} {a b : TD} : tOrD a b env Q Ex = a env (fun r => r.bl fun k => if k = true then Q (.d (.bool true)) else b env Q Ex) Ex := (rfl)
theorem w_not {env : En} {Q : RV → Prop} {Ex : Err → Prop} {a : TD} : tNotD a env Q Ex = a env (fun r => r.bl fun k => Q (.d (.bool !k))) Ex := (rfl)
theorem w_ite {env : En} {Q : RV → Prop} {Ex : Err → Prop} {c a b : TD} : tIteD c a b env Q Ex = c env (fun r => r.bl fun k => if k = true then a env Q Ex else b env Q Ex) Ex := (rfl)
theorem w_chain {env : En} {Q : RV → Prop} {Ex : Err → Prop} {g g2 : GD} {a b c : TD} : tChainD g g2 a b c env Q Ex = a env (fun r => r.use fun x => b env (fun r2 => r2.use fun y => g x y fun r4 => r4.bl fun k => if k = true then c env (fun r3 => r3.use fun z => g2 y z Q) Ex else Q (.d (.bool false))) Ex) Ex := (rfl)
theorem w_isa {env : En} {Q : RV → Prop} {Ex : Err → Prop} {T : Ty} {a : TD} : tIsa T a env Q Ex = a env (fun r => r.use fun x => Q (.d (.bool (isa T x)))) Ex := (rfl)
theorem w_fn {env : En} {Q : RV → Prop} {Ex : Err → Prop} {n : Nat} {s : SpD} {a : TDA} : tFn n s a env Q Ex = a env (fun rs => rs.length = n ∧ s rs Q Ex) Ex := (rfl)
theorem w_fnK {env : En} {Q : RV → Prop} {Ex : Err → Prop} {n : Nat} {g : {α : Type} → List α → List α} {s : SpD} {a : TDA} : tFnK n g s a env Q Ex = a env (fun rs => (g rs).length = n ∧ s (g rs) Q Ex) Ex := (rfl)
theorem w_sl {env : En} {Q : RV → Prop} {Ex : Err → Prop} {a : TD} {l h : TDO} : tSlD a l h env Q Ex = a env (fun r => r.use fun x => l env (fun i => h env (fun j => gSl x i j Q) Ex) Ex) Ex := (rfl)
theorem w_noO {env : En} {Q : Option Int → Prop} {Ex : Err → Prop} : tNoO env Q Ex = Q none := (rfl)
theorem w_someO {env : En} {Q : Option Int → Prop} {Ex : Err → Prop} {a : TD} : tSomeO a env Q Ex = a env (fun r => r.use fun x => onI x fun i => Q (some i)) Ex := (rfl)
theorem w_yes {env : En} {Q : Bool → Prop} {Ex : Err → Prop} : tYesD env Q Ex = Q true := (rfl)
theorem w_tst {env : En} {Q : Bool → Prop} {Ex : Err → Prop} {a : TD} : tTst a env Q Ex = a env (fun r => r.bl Q) Ex := (rfl)
theorem w_lc {env : En} {Q : RV → Prop} {Ex : Err → Prop} {ti : TDI} {g : TGD} {tt : TDT} {te : TD} {vs : List Nat} : tLcD ti g tt te vs env Q Ex = ti env (fun xs => lcD g tt te vs env Q xs []) Ex := (rfl)
theorem w_it {env : En} {Q : List PyData → Prop} {Ex : Err → Prop} {fz : Bool} {a : TD} : tItVD fz a env Q Ex = a env (fun r => r.src fz fun x => asSeq x Q) Ex := (rfl)
theorem w_enum {env : En} {Q : List PyData → Prop} {Ex : Err → Prop} {a : TDU} : tEnumD a env Q Ex = a env (fun xs => on1 xs fun x => asSeq x fun ys => Q (enumF 0 ys)) Ex := by refine congrArg (fun k => a env k Ex) (funext fun rs => ?_); rcases rs with _ | ⟨a, _ | ⟨b, _ | ⟨c, _ | ⟨d, r⟩⟩⟩⟩ <;> rfl
theorem w_zip {env : En} {Q : List PyData → Prop} {Ex : Err → Prop} {a : TDU} : tZipD a env Q Ex = a env (fun xs => on2 xs fun x y => asSeq x fun xs => asSeq y fun ys => Q (zipL xs ys)) Ex := by refine congrArg (fun k => a env k Ex) (funext fun rs => ?_); rcases rs with _ | ⟨a, _ | ⟨b, _ | ⟨c, _ | ⟨d, r⟩⟩⟩⟩ <;> rfl
theorem w_rng1 {env : En} {Q : List PyData → Prop} {Ex : Err → Prop} {a : TDU} : tRng1 a env Q Ex = a env (fun xs => on1 xs fun x => onI x fun j => bd62 j ∧ Q (rngL 0 j.toNat)) Ex := by refine congrArg (fun k => a env k Ex) (funext fun rs => ?_); rcases rs with _ | ⟨a, _ | ⟨b, _ | ⟨c, _ | ⟨d, r⟩⟩⟩⟩ <;> first | rfl | (cases a <;> rfl)
theorem w_rng2 {env : En} {Q : List PyData → Prop} {Ex : Err → Prop} {a : TDU} : tRng2 a env Q Ex = a env (fun xs => on2 xs fun x y => onI x fun i => onI y fun j => bd62 i ∧ bd62 j ∧ Q (rngL i (j - i).toNat)) Ex := by refine congrArg (fun k => a env k Ex) (funext fun rs => ?_); rcases rs with _ | ⟨a, _ | ⟨b, _ | ⟨c, _ | ⟨d, r⟩⟩⟩⟩ <;> first | rfl | (cases a <;> rfl) | (cases a <;> cases b <;> rfl)
theorem w_never {D : SE} {env : En} : tNeverD D env = False := (rfl)
theorem w_kNil {env : En} {Q : KVs → Prop} {Ex : Err → Prop} : kNilD env Q Ex = Q [] := (rfl)
theorem w_kCons {env : En} {Q : KVs → Prop} {Ex : Err → Prop} {a b : TD} {t : TDK} : kConsD a b t env Q Ex = a env (fun rk => rk.use fun x => isKey x = true ∧ b env (fun rv => rv.arg fun rv2 => onD rv2 fun y => t env (fun kvs => Q ((x, y) :: kvs)) Ex) Ex) Ex := (rfl)
theorem w_disp {env : En} {Q : RV → Prop} {Ex : Err → Prop} {t : TDK} : tDispD t env Q Ex = t env (fun kvs => Q (.own (.dic (mergeD [] kvs)))) Ex := (rfl)
theorem w_mg0 {a : KVs} : mergeD a [] = a := (rfl)
theorem w_mg1 {a r : KVs} {k v : PyData} : mergeD a ((k, v) :: r) = mergeD (putD a k v) r := (rfl)
theorem w_put0 {k v : PyData} : putD [] k v = [(k, v)] := (rfl)
theorem w_keyS {x : Str} : isKey (.str x) = true := (rfl)
theorem w_keyI {x : Int} : isKey (.int x) = true := (rfl)
theorem w_sset {env : En} {Q : RV → Prop} {Ex : Err → Prop} {t : TD} : tSSet t env Q Ex = t env (fun r => r.use fun x => gSSet x Q) Ex := (rfl)
theorem w_dicT {env : En} {Q : RV → Prop} {Ex : Err → Prop} : tDicT env Q Ex = Q (.own (.dtn [])) := (rfl)
theorem w_inT {env : En} {Q : RV → Prop} {Ex : Err → Prop} {n : Bool} {i : Nat} {a : TD} : tInT n i a env Q Ex = a env (fun r => r.arg fun r2 => onD r2 fun kd => enDt env i fun kvs => isNK kd ∧ Q (.d (.bool (xor n (hasT kvs kd))))) Ex := (rfl)
theorem w_ixT {env : En} {Q : RV → Prop} {Ex : Err → Prop} {i : Nat} {a : TD} : tIxT i a env Q Ex = enDt env i fun kvs => a env (fun r => r.arg fun r2 => onD r2 fun kd => isNK kd ∧ ∃ v, getT kvs kd = some v ∧ Q (.d v)) Ex := (rfl)
theorem w_listT {env : En} {Q : RV → Prop} {Ex : Err → Prop} {i : Nat} : tListT i env Q Ex = enDt env i fun kvs => kvs.length ≤ sizeLine ∧ Q (.own (.lst (kvs.map (·.1)))) := (rfl)
theorem w_stoT {D : SE} {env : En} {i : Nat} {v k : TD} : tStoT i v k D env = v env (fun r => r.arg fun r2 => onD r2 fun x => enDt env i fun kvs => k env (fun r3 => r3.arg fun r4 => onD r4 fun kd => isNK kd ∧ kvs.length < sizeLine ∧ D.nx (env.set i (some (.own (.dtn (putT kvs kd x)))))) (D.err env)) (D.err env) := (rfl)
theorem w_stoU {D : SE} {env : En} {i : Nat} {v k : TD} : tStoU i v k D env = v env (fun r => r.arg fun r2 => onD r2 fun x => enOw env i fun o => k env (fun r3 => r3.use fun kd => stoU o kd x fun o2 => D.nx (env.set i (some (.own o2)))) (D.err env)) (D.err env) := (rfl)
theorem w_enDt {env : En} {i : Nat} {k : List (PyData × PyData) → Prop} : enDt env i k = enGet env i fun r => onDt r k := (rfl)
theorem w_onDt {kvs : List (PyData × PyData)} {k : List (PyData × PyData) → Prop} : onDt (.own (.dtn kvs)) k = k kvs := (rfl)
theorem w_enOw {env : En} {i : Nat} {k : Ow → Prop} : enOw env i k = enGet env i fun r => onOw r k := (rfl)
theorem w_onOw {o : Ow} {k : Ow → Prop} : onOw (.own o) k = k o := (rfl)
theorem w_stoL {xs : List PyData} {i : Int} {v : PyData} {k : Ow → Prop} : stoU (.lst xs) (.int i) v k = (∃ j, ixN xs.length i = some j ∧ k (.lst (xs.set j v))) := (rfl)
theorem w_stoD {kvs : List (PyData × PyData)} {kd v : PyData} {k : Ow → Prop} : stoU (.dic kvs) kd v k = (isKey kd = true ∧ kvs.length < sizeLine ∧ k (.dic (putD kvs kd v))) := by cases kd <;> rfl
theorem w_enZ {env : En} {Q : List PyData → Prop} {Ex : Err → Prop} {a : TDU} : tEnZD a env Q Ex = a env (fun xs => on2 xs fun x y => asSeq x fun xs => asSeq y fun ys => Q (enumF 0 (zipL xs ys))) Ex := (rfl)
theorem g_min2 {i j : Int} {Q : RV → Prop} : gMin [.int i, .int j] Q = Q (.d (.int (min i j))) := (rfl)
theorem g_minL {x : PyData} {xs : List PyData} {Q : RV → Prop} : gMin [.list (x :: xs)] Q = (bestOk (x :: xs) ∧ Q (.d (PySem.W.minD x xs))) := (rfl)
theorem g_minT {x : PyData} {xs : List PyData} {Q : RV → Prop} : gMin [.tuple (x :: xs)] Q = (bestOk (x :: xs) ∧ Q (.d (PySem.W.minD x xs))) := (rfl)
theorem g_max2 {i j : Int} {Q : RV → Prop} : gMax [.int i, .int j] Q = Q (.d (.int (max i j))) := (rfl)
theorem g_maxL {x : PyData} {xs : List PyData} {Q : RV → Prop} : gMax [.list (x :: xs)] Q = (bestOk (x :: xs) ∧ Q (.d (PySem.W.maxD x xs))) := (rfl)
theorem g_maxT {x : PyData} {xs : List PyData} {Q : RV → Prop} : gMax [.tuple (x :: xs)] Q = (bestOk (x :: xs) ∧ Q (.d (PySem.W.maxD x xs))) := (rfl)
theorem g_sum {xs : List PyData} {Q : RV → Prop} : gSum [.list xs] Q = (∃ ns : List Int, xs = ns.map PyData.int ∧ Q (.d (.int ns.sum))) := (rfl)
theorem g_all {xs : List PyData} {Q : RV → Prop} : gAll [.list xs] Q = (∃ bs : List Bool, xs = bs.map PyData.bool ∧ Q (.d (.bool (bs.all id)))) := (rfl)
theorem g_any {xs : List PyData} {Q : RV → Prop} : gAny [.list xs] Q = (∃ bs : List Bool, xs = bs.map PyData.bool ∧ Q (.d (.bool (bs.any id)))) := (rfl)
theorem v_use_d {x : PyData} {k : PyData → Prop} : (RV.d x).use k = k x := (rfl)
theorem v_arg_d {x : PyData} {k : RV → Prop} : (RV.d x).arg k = k (.d x) := (rfl)
theorem v_sto_d {x : PyData} {k : RV → Prop} : (RV.d x).sto k = k (.d x) := (rfl)
theorem v_rd_d {x : PyData} : (RV.d x).rd = .d x := (rfl)
theorem v_frz_d {x : PyData} : (RV.d x).frz = .d x := (rfl)
theorem v_src_d {x : PyData} {k : PyData → Prop} {fz : Bool} : (RV.d x).src fz k = k x := (rfl)
theorem v_use_own {o : Ow} {k : PyData → Prop} : (RV.own o).use k = o.rd k := (rfl)
theorem v_arg_own {o : Ow} {k : RV → Prop} : (RV.own o).arg k = o.rd fun x => k (.d x) := (rfl)
theorem v_sto_own {o : Ow} {k : RV → Prop} : (RV.own o).sto k = k (.own o) := (rfl)
theorem v_rd_own {o : Ow} : (RV.own o).rd = .bor o := (rfl)
theorem v_src_own {o : Ow} {k : PyData → Prop} {fz : Bool} : (RV.own o).src fz k = o.rd k := (rfl)
theorem v_use_bor {o : Ow} {k : PyData → Prop} : (RV.bor o).use k = o.rd k := (rfl)
theorem v_arg_bor {o : Ow} {k : RV → Prop} : (RV.bor o).arg k = False := (rfl)
theorem v_sto_bor {o : Ow} {k : RV → Prop} : (RV.bor o).sto k = False := (rfl)
theorem v_rd_bor {o : Ow} : (RV.bor o).rd = .bor o := (rfl)
theorem v_frz_bor {o : Ow} : (RV.bor o).frz = .bor o := (rfl)
theorem v_src_bor {o : Ow} {k : PyData → Prop} {fz : Bool} : (RV.bor o).src fz k = (fz = false ∧ o.rd k) := (rfl)
theorem v_use_scr {ns : List Int} {k : PyData → Prop} : (RV.scr ns).use k = k (.list (ns.map PyData.int)) := (rfl)
theorem v_arg_scr {ns : List Int} {k : RV → Prop} : (RV.scr ns).arg k = k (.scr ns) := (rfl)
theorem v_sto_scr {ns : List Int} {k : RV → Prop} : (RV.scr ns).sto k = k (.scr ns) := (rfl)
theorem v_rd_scr {ns : List Int} : (RV.scr ns).rd = .scr ns := (rfl)
theorem v_frz_scr {ns : List Int} : (RV.scr ns).frz = .scr ns := (rfl)
theorem v_src_scr {ns : List Int} {k : PyData → Prop} {fz : Bool} : (RV.scr ns).src fz k = k (.list (ns.map PyData.int)) := (rfl)
theorem v_use_box  {k : PyData → Prop} : RV.box.use k = False := (rfl)
theorem v_arg_box  {k : RV → Prop} : RV.box.arg k = k .box := (rfl)
theorem v_sto_box  {k : RV → Prop} : RV.box.sto k = k .box := (rfl)
theorem v_rd_box : RV.box.rd = .box := (rfl)
theorem v_frz_box : RV.box.frz = .box := (rfl)
theorem v_src_box  {k : PyData → Prop} {fz : Bool} : RV.box.src fz k = False := (rfl)
theorem v_bl {b : Bool} {k : Bool → Prop} : (RV.d (.bool b)).bl k = k b := (rfl)
theorem v_frz_L {xs : List PyData} : (RV.own (.lst xs)).frz = .d (.list xs) := (rfl)
theorem v_frz_D {xs : List (PyData × PyData)} : (RV.own (.dic xs)).frz = .d (.dict xs) := (rfl)
theorem v_frz_T {xs : List (PyData × PyData)} : (RV.own (.dtn xs)).frz = .own (.dtn xs) := (rfl)
theorem v_rd_L {xs : List PyData} {k : PyData → Prop} : (Ow.lst xs).rd k = k (.list xs) := (rfl)
theorem v_rd_D {xs : List (PyData × PyData)} {k : PyData → Prop} : (Ow.dic xs).rd k = k (.dict xs) := (rfl)
theorem v_dat_l {xs : List PyData} : (Ow.lst xs).dat = .list xs := (rfl)
theorem v_dat_d {xs : List (PyData × PyData)} : (Ow.dic xs).dat = .dict xs := (rfl)
theorem v_onD {x : PyData} {k : PyData → Prop} : onD (.d x) k = k x := (rfl)
theorem v_onI {i : Int} {k : Int → Prop} : onI (.int i) k = k i := (rfl)
theorem v_onL {xs : List PyData} {k : List PyData → Prop} : onL (.list xs) k = k xs := (rfl)
theorem v_on1 {α : Type} {a : α} {k : α → Prop} : on1 [a] k = k a := (rfl)
theorem v_on2 {α : Type} {a b : α} {k : α → α → Prop} : on2 [a, b] k = k a b := (rfl)
theorem v_on3 {α : Type} {a b c : α} {k : α → α → α → Prop} : on3 [a, b, c] k = k a b c := (rfl)
theorem v_all0 {k : List PyData → Prop} : allD [] k = k [] := (rfl)
theorem v_all1 {x : PyData} {rs : List RV} {k : List PyData → Prop} : allD (.d x :: rs) k = allD rs fun xs => k (x :: xs) := (rfl)
theorem v_seqL {xs : List PyData} {k : List PyData → Prop} : asSeq (.list xs) k = k xs := (rfl)
theorem v_seqT {xs : List PyData} {k : List PyData → Prop} : asSeq (.tuple xs) k = k xs := (rfl)
theorem v_gNm {i : Nat} {x : PyData} {env : En} {Q : En → Prop} : gNmD i x env Q = Q (env.set i (some (.d x))) := (rfl)
theorem v_gNil {env : En} {Q : En → Prop} : gNilD [] env Q = Q env := by unfold gNilD; rw [eq_self]; exact true_and _
theorem v_gCons {g : TGD} {u : TGDs} {x : PyData} {xs : List PyData} {env : En} {Q : En → Prop} : gConsD g u (x :: xs) env Q = g x env fun env2 => u xs env2 Q := (rfl)
theorem v_gTup {n : Nat} {u : TGDs} {xs : List PyData} {env : En} {Q : En → Prop} : gTupD n u (.tuple xs) env Q = (xs.length = n ∧ u xs env Q) := (rfl)
theorem g_add {i j : Int} {Q : RV → Prop} : gAdd (.int i) (.int j) Q = Q (.d (.int (i + j))) := (rfl)
theorem g_addS {a b : Str} {Q : RV → Prop} : gAdd (.str a) (.str b) Q = (a.length + b.length ≤ sizeLine ∧ Q (.d (.str (a ++ b)))) := (rfl)
theorem g_addT {xs ys : List PyData} {Q : RV → Prop} : gAdd (.tuple xs) (.tuple ys) Q = (xs.length + ys.length ≤ sizeLine ∧ Q (.d (.tuple (xs ++ ys)))) := (rfl)
theorem g_addL {xs ys : List PyData} {Q : RV → Prop} : gAdd (.list xs) (.list ys) Q = (xs.length + ys.length ≤ sizeLine ∧ Q (.own (.lst (xs ++ ys)))) := (rfl)
theorem g_sub {i j : Int} {Q : RV → Prop} : HA.gSub (.int i) (.int j) Q = Q (.d (.int (i - j))) := (rfl)
theorem g_mul {i j : Int} {Q : RV → Prop} : gMul (.int i) (.int j) Q = (Mb i j ∧ Q (.d (.int (i * j)))) := (rfl)
theorem g_fdiv {i j : Int} {Q : RV → Prop} : gFdiv (.int i) (.int j) Q = (j ≠ 0 ∧ Sm j ∧ Q (.d (.int (i.fdiv j)))) := (rfl)
theorem g_mod {i j : Int} {Q : RV → Prop} : gMod (.int i) (.int j) Q = (j ≠ 0 ∧ Q (.d (.int (i.fmod j)))) := (rfl)
theorem g_pow {i j : Int} {Q : RV → Prop} : gPow (.int i) (.int j) Q = (0 ≤ j ∧ j ≤ 1000000 ∧ i.natAbs < 2 ^ 64 ∧ Q (.d (.int (i ^ j.toNat)))) := (rfl)
theorem g_eq {x y : PyData} {Q : RV → Prop} : gEq x y Q = (eqOk x y ∧ Q (.d (.bool (PyData.eqv x y)))) := (rfl)
theorem g_ne {x y : PyData} {Q : RV → Prop} : gNe x y Q = (eqOk x y ∧ Q (.d (.bool (!PyData.eqv x y)))) := (rfl)
theorem g_lt {i j : Int} {Q : RV → Prop} : gLt (.int i) (.int j) Q = Q (.d (.bool (decide (i < j)))) := (rfl)
theorem g_gt {i j : Int} {Q : RV → Prop} : gGt (.int i) (.int j) Q = Q (.d (.bool (decide (j < i)))) := (rfl)
theorem g_le {i j : Int} {Q : RV → Prop} : gLe (.int i) (.int j) Q = Q (.d (.bool (decide (i ≤ j)))) := (rfl)
theorem g_ge {i j : Int} {Q : RV → Prop} : gGe (.int i) (.int j) Q = Q (.d (.bool (decide (j ≤ i)))) := (rfl)
theorem g_ltT {xs ys : List PyData} {Q : RV → Prop} : gLt (.tuple xs) (.tuple ys) Q = (ordOk (.tuple xs) (.tuple ys) ∧ Q (.d (.bool (PySem.W.dataLt (.tuple xs) (.tuple ys))))) := (rfl)
theorem g_gtT {xs ys : List PyData} {Q : RV → Prop} : gGt (.tuple xs) (.tuple ys) Q = (ordOk (.tuple xs) (.tuple ys) ∧ Q (.d (.bool (PySem.W.dataLt (.tuple ys) (.tuple xs))))) := (rfl)
theorem g_leT {xs ys : List PyData} {Q : RV → Prop} : gLe (.tuple xs) (.tuple ys) Q = (ordOk (.tuple xs) (.tuple ys) ∧ Q (.d (.bool (!PySem.W.dataLt (.tuple ys) (.tuple xs))))) := (rfl)
theorem g_geT {xs ys : List PyData} {Q : RV → Prop} : gGe (.tuple xs) (.tuple ys) Q = (ordOk (.tuple xs) (.tuple ys) ∧ Q (.d (.bool (!PySem.W.dataLt (.tuple xs) (.tuple ys))))) := (rfl)
theorem g_inT {n : Bool} {x : PyData} {ys : List PyData} {Q : RV → Prop} : gIn n x (.tuple ys) Q = (SeqAt.shaped x = true ∧ SeqAt.shaped (.list ys) = true ∧ Q (.d (.bool (xor n (ys.any fun z => PyData.eqv z x))))) := (rfl)
theorem g_inL {n : Bool} {x : PyData} {ys : List PyData} {Q : RV → Prop} : gIn n x (.list ys) Q = (SeqAt.shaped x = true ∧ SeqAt.shaped (.list ys) = true ∧ Q (.d (.bool (xor n (ys.any fun z => PyData.eqv z x))))) := (rfl)
theorem g_is {n : Bool} {x : PyData} {Q : RV → Prop} : gIs n x .none Q = Q (.d (.bool (xor n (isNon x)))) := by unfold gIs; rw [eq_self]; exact true_and _
theorem g_neg {i : Int} {Q : RV → Prop} : gNeg (.int i) Q = Q (.d (.int (-i))) := (rfl)
theorem g_not {b : Bool} {Q : RV → Prop} : gNot (.bool b) Q = Q (.d (.bool !b)) := (rfl)
theorem g_lenL {xs : List PyData} {Q : RV → Prop} : HA.gLen [.list xs] Q = Q (.d (.int xs.length)) := (rfl)
theorem g_lenT {xs : List PyData} {Q : RV → Prop} : HA.gLen [.tuple xs] Q = Q (.d (.int xs.length)) := (rfl)
theorem g_lenD {xs : List (PyData × PyData)} {Q : RV → Prop} : HA.gLen [.dict xs] Q = Q (.d (.int xs.length)) := (rfl)
theorem g_intI {i : Int} {Q : RV → Prop} : gInt [.int i] Q = Q (.d (.int i)) := (rfl)
theorem g_intB {b : Bool} {Q : RV → Prop} : gInt [.bool b] Q = Q (.d (.int (if b then 1 else 0))) := (rfl)
theorem g_abs {i : Int} {Q : RV → Prop} : gAbs [.int i] Q = Q (.d (.int i.natAbs)) := by show Q (.d (.int (if i < 0 then -i else i))) = _; rw [show (if i < 0 then -i else i) = (i.natAbs : Int) by split <;> omega]
theorem g_gcd {i j : Int} {Q : RV → Prop} : gGcd [.int i, .int j] Q = Q (.d (.int (Nat.gcd i.natAbs j.natAbs : Nat))) := (rfl)
theorem g_repr {x : PyData} {Q : RV → Prop} : gRepr [x] Q = (showOk x ∧ Q (.d (.str x.shown))) := (rfl)
theorem g_listL {xs : List PyData} {Q : RV → Prop} : gList [.list xs] Q = Q (.own (.lst xs)) := (rfl)
theorem g_listT {xs : List PyData} {Q : RV → Prop} : gList [.tuple xs] Q = Q (.own (.lst xs)) := (rfl)
theorem g_tupL {xs : List PyData} {Q : RV → Prop} : gTuple [.list xs] Q = Q (.d (.tuple xs)) := (rfl)
theorem g_tupT {xs : List PyData} {Q : RV → Prop} : gTuple [.tuple xs] Q = Q (.d (.tuple xs)) := (rfl)
theorem g_ixL0 {x0 : PyData} {xs : List PyData} {Q : RV → Prop} : gIx (.list (x0 :: xs)) (.int 0) Q = Q (.d x0) := by show (∃ x, atI _ _ = some x ∧ _) = _; rw [atI0, ex_some]
theorem g_ixL1 {x0 x1 : PyData} {xs : List PyData} {Q : RV → Prop} : gIx (.list (x0 :: x1 :: xs)) (.int 1) Q = Q (.d x1) := by show (∃ x, atI _ _ = some x ∧ _) = _; rw [atI1, ex_some]
theorem g_ixL2 {x0 x1 x2 : PyData} {xs : List PyData} {Q : RV → Prop} : gIx (.list (x0 :: x1 :: x2 :: xs)) (.int 2) Q = Q (.d x2) := by show (∃ x, atI _ _ = some x ∧ _) = _; rw [atI2, ex_some]
theorem g_ixL3 {x0 x1 x2 x3 : PyData} {xs : List PyData} {Q : RV → Prop} : gIx (.list (x0 :: x1 :: x2 :: x3 :: xs)) (.int 3) Q = Q (.d x3) := by show (∃ x, atI _ _ = some x ∧ _) = _; rw [atI3, ex_some]
theorem g_ixT0 {x0 : PyData} {xs : List PyData} {Q : RV → Prop} : gIx (.tuple (x0 :: xs)) (.int 0) Q = Q (.d x0) := by show (∃ x, atI _ _ = some x ∧ _) = _; rw [atI0, ex_some]
theorem g_ixT1 {x0 x1 : PyData} {xs : List PyData} {Q : RV → Prop} : gIx (.tuple (x0 :: x1 :: xs)) (.int 1) Q = Q (.d x1) := by show (∃ x, atI _ _ = some x ∧ _) = _; rw [atI1, ex_some]
theorem g_ixT2 {x0 x1 x2 : PyData} {xs : List PyData} {Q : RV → Prop} : gIx (.tuple (x0 :: x1 :: x2 :: xs)) (.int 2) Q = Q (.d x2) := by show (∃ x, atI _ _ = some x ∧ _) = _; rw [atI2, ex_some]
theorem g_ixT3 {x0 x1 x2 x3 : PyData} {xs : List PyData} {Q : RV → Prop} : gIx (.tuple (x0 :: x1 :: x2 :: x3 :: xs)) (.int 3) Q = Q (.d x3) := by show (∃ x, atI _ _ = some x ∧ _) = _; rw [atI3, ex_some]
theorem g_ixL {xs : List PyData} {i : Int} {Q : RV → Prop} : gIx (.list xs) (.int i) Q = (∃ x, atI xs i = some x ∧ Q (.d x)) := (rfl)
theorem g_ixT {xs : List PyData} {i : Int} {Q : RV → Prop} : gIx (.tuple xs) (.int i) Q = (∃ x, atI xs i = some x ∧ Q (.d x)) := (rfl)
theorem g_slL {xs : List PyData} {l h : Option Int} {Q : RV → Prop} : gSl (.list xs) l h Q = Q (.own (.lst (cutD xs l h))) := (rfl)
theorem g_slT {xs : List PyData} {l h : Option Int} {Q : RV → Prop} : gSl (.tuple xs) l h Q = Q (.d (.tuple (cutD xs l h))) := (rfl)
theorem g_revL {xs : List PyData} {Q : RV → Prop} : gRevS (.list xs) Q = Q (.own (.lst xs.reverse)) := (rfl)
theorem g_revT {xs : List PyData} {Q : RV → Prop} : gRevS (.tuple xs) Q = Q (.d (.tuple xs.reverse)) := (rfl)
theorem n_non : isNon .none = true := (rfl)
theorem n_int {i : Int} : isNon (.int i) = false := (rfl)
theorem n_tup {i : List PyData} : isNon (.tuple i) = false := (rfl)
theorem n_str {i : Str} : isNon (.str i) = false := (rfl)
theorem n_bl {i : Bool} : isNon (.bool i) = false := (rfl)
theorem n_lst {i : List PyData} : isNon (.list i) = false := (rfl)
theorem n_enLst {env : En} {i : Nat} {k : List PyData → Prop} : enLst env i k = enGet env i fun r => onOwn r k := (rfl)
theorem n_onOwn {xs : List PyData} {k : List PyData → Prop} : onOwn (.own (.lst xs)) k = k xs := (rfl)
end HA

namespace K02
open PySem PySem.Spec PyProof.Rows L2 HA
theorem fdiv_gcd_pos {a b : Int} (h : 0 < b) : a.fdiv (Nat.gcd a.natAbs b.natAbs : Nat) = (Rat.divInt a b).num ∧ b.fdiv (Nat.gcd a.natAbs b.natAbs : Nat) = ((Rat.divInt a b).den : Int) := by
  rw [Rat.num_divInt, Rat.den_divInt, if_neg (by omega)]
  have e : b.gcd a = Nat.gcd a.natAbs b.natAbs := Nat.gcd_comm _ _
  rw [e, Int.fdiv_eq_ediv_of_nonneg _ (by omega), Int.fdiv_eq_ediv_of_nonneg _ (by omega), Int.sign_eq_one_of_pos h, Int.one_mul]
  refine ⟨rfl, ?_⟩
  rw [Int.natCast_ediv]
  congr 1
  omega
theorem fdiv_gcd_neg {a b : Int} (h : b < 0) : a.fdiv (-(Nat.gcd a.natAbs b.natAbs : Nat)) = (Rat.divInt a b).num ∧ b.fdiv (-(Nat.gcd a.natAbs b.natAbs : Nat)) = ((Rat.divInt a b).den : Int) := by
  rw [Rat.num_divInt, Rat.den_divInt, if_neg (by omega)]
  have e : b.gcd a = Nat.gcd a.natAbs b.natAbs := Nat.gcd_comm _ _
  have g0 : 0 < Nat.gcd a.natAbs b.natAbs := Nat.gcd_pos_of_pos_right _ (by omega)
  have d1 : ((Nat.gcd a.natAbs b.natAbs : Nat) : Int) ∣ a := Int.ofNat_dvd_left.mpr (Nat.gcd_dvd_left _ _)
  have d2 : ((Nat.gcd a.natAbs b.natAbs : Nat) : Int) ∣ b := Int.ofNat_dvd_left.mpr (Nat.gcd_dvd_right _ _)
  rw [e, Int.sign_eq_neg_one_of_neg h]
  generalize Nat.gcd a.natAbs b.natAbs = g at *
  obtain ⟨c, rfl⟩ := d1
  obtain ⟨d, rfl⟩ := d2
  refine ⟨?_, ?_⟩
  · rw [show (g : Int) * c = (-(g : Int)) * (-c) by grind, Int.mul_fdiv_cancel_left _ (by omega), show -1 * (-(g : Int) * -c) = g * (-c) by grind, Int.mul_ediv_cancel_left _ (by omega)]
  · rw [show ((g : Int) * d).fdiv (-g) = -d by
      rw [show (g : Int) * d = (-(g : Int)) * (-d) by grind, Int.mul_fdiv_cancel_left _ (by omega)]]
    rw [Int.natAbs_mul, Int.natAbs_natCast, Nat.mul_div_cancel_left _ g0]
    have : d < 0 := by
      refine Int.not_le.mp fun z => ?_
      have := Int.mul_nonneg (by omega : 0 ≤ (g : Int)) z
      omega
    omega
theorem divInt_den_one {n d : Int} (h : 0 < d) : (Rat.divInt n d).den = 1 ↔ n % d = 0 := by
  rw [Rat.den_divInt, if_neg (by omega)]
  have g0 : 0 < d.gcd n := Int.gcd_pos_of_ne_zero_left _ (by omega)
  have d2 : d.gcd n ∣ d.natAbs := Nat.gcd_dvd_left _ _
  constructor
  · intro e
    have : d.natAbs = d.gcd n := by
      have := Nat.div_mul_cancel d2
      rw [e, Nat.one_mul] at this
      exact this.symm
    have d3 : d.natAbs ∣ n.natAbs := by rw [this]; exact Nat.gcd_dvd_right _ _
    exact Int.emod_eq_zero_of_dvd (Int.natAbs_dvd_natAbs.mp d3)
  · intro e
    have d3 : d ∣ n := Int.dvd_of_emod_eq_zero e
    have : d.gcd n = d.natAbs := Nat.gcd_eq_left (Int.natAbs_dvd_natAbs.mpr d3)
    rw [this]
    exact Nat.div_self (by omega)
theorem divInt_num_one {n d : Int} (h : 0 < d) (e : n % d = 0) : (Rat.divInt n d).num = n / d := by
  rw [Rat.num_divInt]
  have d3 : d ∣ n := Int.dvd_of_emod_eq_zero e
  have : d.gcd n = d.natAbs := Nat.gcd_eq_left (Int.natAbs_dvd_natAbs.mpr d3)
  rw [this, Int.sign_eq_one_of_pos h, Int.one_mul]
  congr 1
  omega
theorem rat_lin (q t : Rat) (x : Int) : Rat.divInt (q.num * x * t.den + t.num * q.den) (q.den * t.den) = q * x + t := by
  have hq := q.den_nz
  have ht := t.den_nz
  conv => rhs; rw [← Rat.num_divInt_den q, ← Rat.num_divInt_den t]
  rw [← Rat.num_divInt_den (x : Rat), Rat.divInt_mul_divInt, Rat.divInt_add_divInt _ _ (by simp; omega) (by omega)]
  simp
theorem rat_add (x y : Rat) : Rat.divInt (x.num * y.den + y.num * x.den) (x.den * y.den) = x + y := by
  have hq := x.den_nz
  have ht := y.den_nz
  conv => rhs; rw [← Rat.num_divInt_den x, ← Rat.num_divInt_den y]
  rw [Rat.divInt_add_divInt _ _ (by omega) (by omega)]
theorem rat_mul (x y : Rat) : Rat.divInt (x.num * y.num) (x.den * y.den) = x * y := by
  conv => rhs; rw [← Rat.num_divInt_den x, ← Rat.num_divInt_den y]
  rw [Rat.divInt_mul_divInt]
/-! sizes -/
def RB (n : Nat) (r : Rat) : Prop := r.num.natAbs < 2 ^ n ∧ r.den < 2 ^ n
theorem divInt_le (a b : Int) (h : b ≠ 0) : (Rat.divInt a b).num.natAbs ≤ a.natAbs ∧ (Rat.divInt a b).den ≤ b.natAbs := by
  rw [Rat.num_divInt, Rat.den_divInt, if_neg h]
  have g0 : 0 < b.gcd a := Int.gcd_pos_of_ne_zero_left _ h
  refine ⟨?_, Nat.div_le_self _ _⟩
  have d1 : ((b.gcd a : Nat) : Int) ∣ b.sign * a := Int.dvd_mul_of_dvd_right (Int.gcd_dvd_right _ _)
  rw [Int.natAbs_ediv_of_dvd d1]
  refine Nat.le_trans (Nat.div_le_self _ _) ?_
  rw [Int.natAbs_mul]
  rcases Int.lt_trichotomy b 0 with z | z | z
  · rw [Int.sign_eq_neg_one_of_neg z]; simp
  · exact absurd z h
  · rw [Int.sign_eq_one_of_pos z]; simp
theorem RB.divInt {n : Nat} {a b : Int} (h : b ≠ 0) (ha : a.natAbs < 2 ^ n) (hb : b.natAbs < 2 ^ n) : RB n (Rat.divInt a b) :=
  ⟨Nat.lt_of_le_of_lt (divInt_le a b h).1 ha, Nat.lt_of_le_of_lt (divInt_le a b h).2 hb⟩
theorem RB.num {n : Nat} {r : Rat} (h : RB n r) : Sz n r.num := h.1
theorem RB.den {n : Nat} {r : Rat} (h : RB n r) : Sz n (r.den : Int) := h.2
theorem RB.mono {n m : Nat} {r : Rat} (h : RB n r) (l : n ≤ m) : RB m r := ⟨(Sz.mono (i := r.num) h.1 l), (Sz.mono (i := (r.den : Int)) h.2 l)⟩
theorem RB.mul {n m : Nat} {x y : Rat} (h : RB n x) (g : RB m y) : RB (n + m) (x * y) := by
  rw [← rat_mul]
  exact RB.divInt (by have := x.den_nz; have := y.den_nz; exact Int.mul_ne_zero (by omega) (by omega)) (Sz.mul h.num g.num) (Sz.mul h.den g.den)
theorem RB.add {n m : Nat} {x y : Rat} (h : RB n x) (g : RB m y) : RB (n + m + 1) (x + y) := by
  rw [← rat_add]
  have e := (Sz.mul g.num h.den)
  rw [Nat.add_comm m n] at e
  exact RB.divInt (by have := x.den_nz; have := y.den_nz; exact Int.mul_ne_zero (by omega) (by omega)) ((Sz.mul h.num g.den).add e) ((Sz.mul h.den g.den).mono (Nat.le_succ _))
theorem RB.neg {n : Nat} {x : Rat} (h : RB n x) : RB n (-x) := by
  refine ⟨?_, ?_⟩
  · rw [Rat.neg_num, Int.natAbs_neg]; exact h.1
  · rw [Rat.neg_den]; exact h.2
theorem RB.inv {n : Nat} {x : Rat} (h : RB n x) (h0 : x ≠ 0) : RB n x⁻¹ := by
  rw [Rat.inv_def]
  exact RB.divInt (by intro z; exact h0 (Rat.num_eq_zero.mp z)) h.2 h.1

/-! ### moves -/
structure Mv where
  q : Rat
  t : Rat
  e : Int
  v : Int
abbrev Pt := Int × Int
def eR (r : Rat) : PyData := .tuple [.int r.num, .int (r.den : Nat)]
def eM (m : Mv) : PyData := .tuple [eR m.q, eR m.t, .int m.e, .int m.v]
def eP (p : Pt) : PyData := .tuple [.int p.1, .int p.2]
def eO : Option Pt → PyData
  | none => .none
  | some p => eP p
def PB (n : Nat) (p : Pt) : Prop := Sz n p.1 ∧ Sz n p.2
structure MvOk (n : Nat) (m : Mv) : Prop where
  q0 : m.q ≠ 0
  e1 : m.e = 1 ∨ m.e = -1
  q : RB n m.q
  t : RB n m.t
  v : Sz n m.v
theorem RB.int {n : Nat} {i : Int} (h : Sz n i) (hn : 1 ≤ n := by decide) : RB n (i : Rat) := ⟨h, Nat.one_lt_two_pow (by omega)⟩
theorem RB.mk {n : Nat} {a : Int} {b : Nat} {hb : b ≠ 0} {hc : a.natAbs.Coprime b} (h1 : a.natAbs < 2 ^ n := by decide) (h2 : b < 2 ^ n := by decide) : RB n ⟨a, b, hb, hc⟩ := ⟨h1, h2⟩
def Mv.behind (a b : Mv) : Mv := ⟨b.q * a.q, b.q * a.t + b.t, b.e * a.e, b.e * a.v + b.v⟩
def Mv.undone (a : Mv) : Mv := ⟨a.q⁻¹, -a.t * a.q⁻¹, a.e, -a.e * a.v⟩
def Mv.lands (m : Mv) (p : Pt) : Option Pt :=
  if (m.q * (p.1 : Int) + m.t).den = 1 ∧ (m.q * (p.1 : Int) + m.t).num.natAbs ≤ 9999 ∧ (m.e * p.2 + m.v).natAbs ≤ 9999 then some ((m.q * (p.1 : Int) + m.t).num, m.e * p.2 + m.v) else none
theorem MvOk.mono {n n' : Nat} {m : Mv} (h : MvOk n m) (l : n ≤ n') : MvOk n' m := ⟨h.q0, h.e1, h.q.mono l, h.t.mono l, h.v.mono l⟩
theorem sz_e {m : Mv} {n : Nat} (h : MvOk n m) : Sz 1 m.e := by
  rcases h.e1 with q | q <;> rw [q] <;> exact Sz.lit
theorem sz_pm {e i : Int} {n : Nat} (h : e = 1 ∨ e = -1) (g : Sz n i) : Sz n (e * i) := by
  rcases h with rfl | rfl
  · rw [Int.one_mul]; exact g
  · rw [Int.neg_one_mul]; exact g.neg
theorem MvOk.behind {n k : Nat} {a b : Mv} (h : MvOk n a) (g : MvOk k b) : MvOk (n + 2 * k + 1) (a.behind b) := by
  refine ⟨?_, ?_, ?_, ?_, ?_⟩
  · have h1 := h.q0
    have h2 := g.q0
    show b.q * a.q ≠ 0
    grind
  · show b.e * a.e = 1 ∨ b.e * a.e = -1
    rcases h.e1 with q | q <;> rcases g.e1 with r | r <;> rw [q, r] <;> decide
  · exact (g.q.mul h.q).mono (by omega)
  · exact ((g.q.mul h.t).add g.t).mono (by omega)
  · exact (Sz.add' (sz_pm g.e1 h.v) g.v).mono (by rcases Nat.le_total n k with z | z <;> simp only [Nat.max_eq_right, Nat.max_eq_left, z] <;> omega)
theorem MvOk.undone {n : Nat} {a : Mv} (h : MvOk n a) : MvOk (2 * n) a.undone := by
  refine ⟨?_, h.e1, (h.q.inv h.q0).mono (by omega), ((h.t.neg).mul (h.q.inv h.q0)).mono (by omega), ?_⟩
  · have := h.q0
    show a.q⁻¹ ≠ 0
    grind
  · have : Sz n (-a.e * a.v) := sz_pm (by rcases h.e1 with q | q <;> rw [q] <;> decide) h.v
    exact this.mono (by omega)
def Mv.still : Mv := ⟨1, 0, 1, 0⟩
theorem Mv.ext' {a b : Mv} (h1 : a.q = b.q) (h2 : a.t = b.t) (h3 : a.e = b.e) (h4 : a.v = b.v) : a = b := by
  cases a; cases b; simp only [Mv.mk.injEq]; exact ⟨h1, h2, h3, h4⟩
theorem behind_undone {a : Mv} (h0 : a.q ≠ 0) (h1 : a.e = 1 ∨ a.e = -1) : a.behind a.undone = .still := by
  refine Mv.ext' ?_ ?_ ?_ ?_
  · show a.q⁻¹ * a.q = 1; grind
  · show a.q⁻¹ * a.t + -a.t * a.q⁻¹ = 0; grind
  · show a.e * a.e = 1; rcases h1 with q | q <;> rw [q] <;> decide
  · show a.e * a.v + -a.e * a.v = 0; grind
theorem undone_behind {a : Mv} (h0 : a.q ≠ 0) (h1 : a.e = 1 ∨ a.e = -1) : a.undone.behind a = .still := by
  refine Mv.ext' ?_ ?_ ?_ ?_
  · show a.q * a.q⁻¹ = 1; grind
  · show a.q * (-a.t * a.q⁻¹) + a.t = 0; grind
  · show a.e * a.e = 1; rcases h1 with q | q <;> rw [q] <;> decide
  · show a.e * (-a.e * a.v) + a.v = 0; rcases h1 with q | q <;> rw [q] <;> omega
theorem undone_undone {a : Mv} (h0 : a.q ≠ 0) (h1 : a.e = 1 ∨ a.e = -1) : a.undone.undone = a := by
  refine Mv.ext' ?_ ?_ rfl ?_
  · show (a.q⁻¹)⁻¹ = a.q; grind
  · show -(-a.t * a.q⁻¹) * (a.q⁻¹)⁻¹ = a.t; grind
  · show -a.e * (-a.e * a.v) = a.v; rcases h1 with q | q <;> rw [q] <;> omega
theorem behind_still (a : Mv) : a.behind .still = a := by
  refine Mv.ext' ?_ ?_ ?_ ?_
  · show 1 * a.q = a.q; grind
  · show 1 * a.t + 0 = a.t; grind
  · show 1 * a.e = a.e; omega
  · show 1 * a.v + 0 = a.v; omega
theorem still_behind (a : Mv) : Mv.still.behind a = a := by
  refine Mv.ext' ?_ ?_ ?_ ?_
  · show a.q * 1 = a.q; grind
  · show a.q * 0 + a.t = a.t; grind
  · show a.e * 1 = a.e; omega
  · show a.e * 0 + a.v = a.v; omega
theorem behind_assoc (a b c : Mv) : (a.behind b).behind c = a.behind (b.behind c) := by
  refine Mv.ext' ?_ ?_ ?_ ?_
  · show c.q * (b.q * a.q) = c.q * b.q * a.q; grind
  · show c.q * (b.q * a.t + b.t) + c.t = c.q * b.q * a.t + (c.q * b.t + c.t); grind
  · show c.e * (b.e * a.e) = c.e * b.e * a.e; grind
  · show c.e * (b.e * a.v + b.v) + c.v = c.e * b.e * a.v + (c.e * b.v + c.v); grind
theorem undone_of_behind {a b : Mv} (h0 : a.q ≠ 0) (h1 : b.q ≠ 0) (h2 : a.e = 1 ∨ a.e = -1) (h3 : b.e = 1 ∨ b.e = -1) : (a.behind b).undone = b.undone.behind a.undone := by
  refine Mv.ext' ?_ ?_ ?_ ?_
  · show (b.q * a.q)⁻¹ = a.q⁻¹ * b.q⁻¹; grind
  · show -(b.q * a.t + b.t) * (b.q * a.q)⁻¹ = a.q⁻¹ * (-b.t * b.q⁻¹) + -a.t * a.q⁻¹; grind
  · show b.e * a.e = a.e * b.e; grind
  · show -(b.e * a.e) * (b.e * a.v + b.v) = a.e * (-b.e * b.v) + -a.e * a.v
    rcases h2 with q | q <;> rcases h3 with r | r <;> rw [q, r] <;> omega
theorem rat_of_den {r : Rat} (h : r.den = 1) : r = (r.num : Rat) := by
  have h1 := Rat.num_divInt_den r
  have h2 := Rat.num_divInt_den (r.num : Rat)
  rw [Rat.num_intCast, Rat.den_intCast] at h2
  rw [← h1, h, h2, Rat.num_intCast]
theorem lands_some {m : Mv} {p p' : Pt} (h : m.lands p = some p') : (m.q * (p.1 : Int) + m.t) = (p'.1 : Rat) ∧ p'.2 = m.e * p.2 + m.v ∧ p'.1.natAbs ≤ 9999 ∧ p'.2.natAbs ≤ 9999 := by
  unfold Mv.lands at h
  split at h
  · rename_i c
    cases h
    exact ⟨rat_of_den c.1, rfl, c.2.1, c.2.2⟩
  · cases h
theorem lands_behind {a b : Mv} {p p' : Pt} (h : a.lands p = some p') : (a.behind b).lands p = b.lands p' := by
  obtain ⟨h1, h2, _, _⟩ := lands_some h
  have e1 : (a.behind b).q * (p.1 : Int) + (a.behind b).t = b.q * (p'.1 : Int) + b.t := by
    rw [← h1]
    show b.q * a.q * (p.1 : Int) + (b.q * a.t + b.t) = _
    grind
  have e2 : (a.behind b).e * p.2 + (a.behind b).v = b.e * p'.2 + b.v := by
    rw [h2]
    show b.e * a.e * p.2 + (b.e * a.v + b.v) = _
    grind
  unfold Mv.lands
  rw [e1, e2]

theorem pm_is : ∀ x ∈ [PyData.int 1, PyData.int (-1)], ∃ i : Int, x = .int i ∧ (i = 1 ∨ i = -1) := fal ⟨1, rfl, .inl rfl⟩ (fal ⟨-1, rfl, .inr rfl⟩ fan)
theorem eR_int (i : Int) : PyData.tuple [.int i, .int 1] = eR (i : Rat) := rfl
theorem tm_R {n k : Nat} {r : Rat} (h : RB n r) (hn : n ≤ 1700 := by decide) : Tm 1200 (k + 1) (eR r) :=
  Tm.tup (n := 570) (k := k) (c := 2) (fal (Tm.sz h.num hn (by omega)) (fal (Tm.sz h.den hn (by omega)) fan)) (Nat.le_refl _) (by decide) (Nat.le_refl _)
theorem tm_M {n k : Nat} {m : Mv} (h : MvOk n m) (hn : n ≤ 1700 := by decide) : Tm 5000 (k + 2) (eM m) :=
  Tm.tup (n := 1200) (k := k + 1) (c := 4) (fal (tm_R h.q hn) (fal (tm_R h.t hn) (fal (Tm.sz (sz_e h)) (fal (Tm.sz h.v hn (by omega)) fan)))) (Nat.le_refl _) (by decide) (Nat.le_refl _)
theorem tm_P {n k : Nat} {p : Pt} (h : PB n p) (hn : n ≤ 1700 := by decide) : Tm 1200 (k + 1) (eP p) :=
  Tm.tup (n := 570) (k := k) (c := 2) (fal (Tm.sz h.1 hn (by omega)) (fal (Tm.sz h.2 hn (by omega)) fan)) (Nat.le_refl _) (by decide) (Nat.le_refl _)
theorem lands_PB {m : Mv} {p p' : Pt} (h : m.lands p = some p') : PB 14 p' := by
  obtain ⟨_, _, h1, h2⟩ := lands_some h
  exact ⟨Sz.of_le h1, Sz.of_le h2⟩
theorem tm_O {k : Nat} {m : Mv} {p : Pt} : Tm 1200 (k + 1) (eO (m.lands p)) := by
  cases h : m.lands p with
  | none => exact Tm.none
  | some p' => exact tm_P (lands_PB h)
theorem show_M {n : Nat} {m : Mv} (h : MvOk n m) (hn : n ≤ 1700 := by decide) : showOk (eM m) := (tm_M (k := 0) h hn).ok (by decide) (by decide)
theorem show_O {m : Mv} {p : Pt} : showOk (eO (m.lands p)) := (tm_O (k := 0)).ok (by decide) (by decide)
theorem flat_P (p : Pt) : flat 1 (eP p) := flat.tup (fal flat.int (fal flat.int fan))
theorem flat_O (o : Option Pt) : flat 1 (eO o) := by
  cases o with
  | none => exact flat.non
  | some p => exact flat_P p

/-! ### sorting and orders of tuples of numbers -/
theorem dataLt_cons (x y : PyData) (xs ys : List PyData) (h : PySem.W.alike x y = true) : PySem.W.dataLt (.tuple (x :: xs)) (.tuple (y :: ys)) = if PyData.eqv x y = true then PySem.W.dataLt (.tuple xs) (.tuple ys) else PySem.W.dataLt x y := by
  rw [PySem.W.dataLt_tuple, PySem.W.dataLt_tuple]
  split
  · rename_i e
    exact PySem.W.dataLt_all_yes h e
  · rename_i e
    exact PySem.W.dataLt_all_no h (by simpa using e)
theorem dataLt_nil : PySem.W.dataLt (.tuple []) (.tuple []) = false := by rw [PySem.W.dataLt_tuple]; rfl
theorem sorted_gen {α : Type} (f : α → PyData) (le : α → α → Bool) (hle : ∀ a b, PySem.W.dataLe false id (f a) (f b) = le a b) (hal : ∀ a b, PySem.W.alike (f a) (f b) = true) (hs : ∀ a, ∃ x xs, f a = .tuple (x :: xs)) (hd : ∀ a, (f a).depth ≤ 60)
    {as : List α} {Q : RV → Prop} (q : Q (.own (.lst ((as.mergeSort le).map f)))) : gSorted [.list (as.map f)] Q := by
  refine ⟨fun d hd d' hd' => ?_, .inl fun d hd => ?_, fun d hd => ?_, ?_⟩
  · obtain ⟨p, _, rfl⟩ := List.mem_map.mp hd
    obtain ⟨r, _, rfl⟩ := List.mem_map.mp hd'
    exact hal p r
  · obtain ⟨p, _, rfl⟩ := List.mem_map.mp hd
    obtain ⟨x, xs, e⟩ := hs p
    rw [e]
    exact ⟨_, _, rfl⟩
  · rename_i hd0
    obtain ⟨p, _, rfl⟩ := List.mem_map.mp hd
    exact hd0 p
  · rw [show (as.map f).mergeSort (PySem.W.dataLe false id) = (as.mergeSort le).map f from (List.map_mergeSort fun a _ b _ => (hle a b).symm).symm]
    exact q
/-- a sorted list of unlike items -/
theorem sort_lt {α : Type} {le : α → α → Bool} (tr : ∀ a b c, le a b = true → le b c = true → le a c = true) (tt : ∀ a b, (le a b || le b a) = true) {as : List α} (h : as.Nodup) : (as.mergeSort le).Pairwise fun a b => le a b = true ∧ a ≠ b :=
  (List.pairwise_mergeSort tr tt as).and ((List.mergeSort_perm as le).nodup_iff.mpr h)

/-! ### points led, in order -/
def ptLe (p r : Pt) : Bool := decide (p.1 < r.1 ∨ (p.1 = r.1 ∧ p.2 ≤ r.2))
def eL : Option (List Pt) → PyData
  | none => .none
  | some l => .tuple (l.map eP)
def Mv.led (m : Mv) (ps : List Pt) : Option (List Pt) :=
  if (ps.any fun p => (m.lands p).isNone) then none else some ((ps.filterMap m.lands).mergeSort ptLe)
theorem ptLe_trans (a b c : Pt) : ptLe a b = true → ptLe b c = true → ptLe a c = true := by
  unfold ptLe
  simp only [decide_eq_true_eq]
  omega
theorem ptLe_total (a b : Pt) : (ptLe a b || ptLe b a) = true := by
  unfold ptLe
  simp only [Bool.or_eq_true, decide_eq_true_eq]
  omega
theorem ptLe_anti {a b : Pt} (h : ptLe a b = true) (g : ptLe b a = true) : a = b := by
  unfold ptLe at h g
  simp only [decide_eq_true_eq] at h g
  have h1 : a.1 = b.1 := by omega
  have h2 : a.2 = b.2 := by omega
  exact Prod.ext h1 h2
theorem pts_sorted (l : List Pt) : (l.mergeSort ptLe).Pairwise fun a b => ptLe a b = true := List.pairwise_mergeSort ptLe_trans ptLe_total l
theorem pts_perm {l l' : List Pt} (h : l.Perm l') : l.mergeSort ptLe = l'.mergeSort ptLe :=
  List.Perm.eq_of_pairwise (fun a b _ _ h1 h2 => ptLe_anti h1 h2) (pts_sorted l) (pts_sorted l') (((List.mergeSort_perm l _).trans h).trans (List.mergeSort_perm l' _).symm)
theorem ptLt_data (p r : Pt) : PySem.W.dataLt (eP p) (eP r) = decide (p.1 < r.1 ∨ (p.1 = r.1 ∧ p.2 < r.2)) := by
  unfold eP
  rw [dataLt_cons _ _ _ _ rfl, dataLt_cons _ _ _ _ rfl, dataLt_nil, PySem.W.dataLt_int, PySem.W.dataLt_int, eqv_int, eqv_int]
  simp only [decide_eq_true_eq]
  by_cases h1 : p.1 = r.1
  · rw [if_pos h1]
    by_cases h2 : p.2 = r.2
    · rw [if_pos h2, eq_comm, decide_eq_false_iff_not]; omega
    · rw [if_neg h2]; exact decide_eq_decide.mpr (by omega)
  · rw [if_neg h1]; exact decide_eq_decide.mpr (by omega)
theorem ptLe_data (p r : Pt) : PySem.W.dataLe false id (eP p) (eP r) = ptLe p r := by
  have : PySem.W.dataLe false id (eP p) (eP r) = !PySem.W.dataLt (eP r) (eP p) := rfl
  rw [this, ptLt_data]
  unfold ptLe
  rw [Bool.not_eq_eq_eq_not, ← decide_not]
  exact decide_eq_decide.mpr (by omega)
theorem sort_pts (ps : List Pt) : (ps.map eP).mergeSort (PySem.W.dataLe false id) = (ps.mergeSort ptLe).map eP :=
  (List.map_mergeSort fun a _ b _ => (ptLe_data a b).symm).symm
theorem alike_pts (ps : List Pt) : PySem.W.AllAlike (ps.map eP) := by
  intro d hd d' hd'
  obtain ⟨p, _, rfl⟩ := List.mem_map.mp hd
  obtain ⟨r, _, rfl⟩ := List.mem_map.mp hd'
  rfl
theorem sortable_pts (ps : List Pt) : PySem.W.Sortable (ps.map eP) := .inl fun d hd => by
  obtain ⟨p, _, rfl⟩ := List.mem_map.mp hd
  exact ⟨_, _, rfl⟩
theorem depth_pts (ps : List Pt) : ∀ x ∈ ps.map eP, x.depth ≤ 60 := fun d hd => by
  obtain ⟨p, _, rfl⟩ := List.mem_map.mp hd
  show (PyData.depth (eP p)) ≤ 60
  exact Nat.le_of_ble_eq_true rfl
theorem sorted_pts {ps : List Pt} {Q : RV → Prop} (q : Q (.own (.lst ((ps.mergeSort ptLe).map eP)))) : gSorted [.list (ps.map eP)] Q :=
  ⟨alike_pts ps, sortable_pts ps, depth_pts ps, by rw [sort_pts]; exact q⟩

theorem led_PB {m : Mv} {ps l : List Pt} (h : m.led ps = some l) : l.length ≤ ps.length ∧ ∀ p ∈ l, PB 14 p := by
  unfold Mv.led at h
  split at h
  · cases h
  · cases h
    refine ⟨by rw [List.length_mergeSort]; exact List.length_filterMap_le _ _, fun p hp => ?_⟩
    have hp := (List.mergeSort_perm _ _).mem_iff.mp hp
    obtain ⟨r, _, hr⟩ := List.mem_filterMap.mp hp
    exact lands_PB hr
theorem fm_congr {α β : Type} {f g : α → Option β} : ∀ {xs : List α}, (∀ x ∈ xs, f x = g x) → xs.filterMap f = xs.filterMap g
  | [], _ => rfl
  | x :: xs, h => by
    rw [List.filterMap_cons, List.filterMap_cons, h x List.mem_cons_self, fm_congr (xs := xs) fun y hy => h y (List.mem_cons_of_mem _ hy)]
theorem led_behind {a b : Mv} {ps l : List Pt} (h : a.led ps = some l) : (a.behind b).led ps = b.led l := by
  unfold Mv.led at h
  split at h
  · cases h
  · rename_i hn
    cases h
    have hs : ∀ p ∈ ps, ∃ p', a.lands p = some p' := fun p hp => by
      cases q : a.lands p with
      | some p' => exact ⟨p', rfl⟩
      | none => exact absurd (List.any_eq_true.mpr ⟨p, hp, by rw [q]; rfl⟩) hn
    have e1 : (ps.filterMap a.lands).filterMap b.lands = ps.filterMap (a.behind b).lands := by
      rw [List.filterMap_filterMap]
      refine fm_congr fun p hp => ?_
      obtain ⟨p', e⟩ := hs p hp
      rw [e, lands_behind e]; rfl
    have e2 : (((ps.filterMap a.lands).mergeSort ptLe).any fun p => (b.lands p).isNone) = ps.any fun p => ((a.behind b).lands p).isNone := by
      rw [(List.mergeSort_perm _ _).any_eq, Bool.eq_iff_iff, List.any_eq_true, List.any_eq_true]
      constructor
      · rintro ⟨x, hx, hn⟩
        obtain ⟨p, hp, e⟩ := List.mem_filterMap.mp hx
        exact ⟨p, hp, by rw [lands_behind e]; exact hn⟩
      · rintro ⟨p, hp, hn⟩
        obtain ⟨p', e⟩ := hs p hp
        exact ⟨p', List.mem_filterMap.mpr ⟨p, hp, e⟩, by rw [← lands_behind e]; exact hn⟩
    unfold Mv.led
    rw [e2]
    split
    · rfl
    · refine congrArg some (pts_perm ?_)
      rw [← e1]
      exact ((List.mergeSort_perm _ _).symm).filterMap _
theorem tm_pts {n k : Nat} {ps : List Pt} (h : ∀ p ∈ ps, PB n p) (c : Nat) (hc : ps.length ≤ c) (hn : n ≤ 1700 := by decide) {n' : Nat} (hs : c * 1200 + 2 * c + 3 ≤ n' := by decide) : Tm n' (k + 2) (.tuple (ps.map eP)) :=
  Tm.tup (n := 1200) (k := k + 1) (c := c) (fun x hx => by obtain ⟨p, hp, rfl⟩ := List.mem_map.mp hx; exact tm_P (h p hp) hn) (by rw [List.length_map]; exact hc) hs (Nat.le_refl _)
theorem show_L {m : Mv} {ps : List Pt} (h : ps.length ≤ 1000) : showOk (eL (m.led ps)) := by
  cases e : m.led ps with
  | none => exact (Tm.none (n := 10) (k := 0)).ok (by decide) (by decide)
  | some l =>
    obtain ⟨h1, h2⟩ := led_PB e
    exact (tm_pts (k := 0) h2 1000 (by omega) (n' := 1202003) (hs := by decide)).ok (by decide) (by decide)

/-! ### values -/
def isI : PyData → Bool
  | .int _ => true
  | _ => false
def within (lo hi : Int) : PyData → Bool
  | .int i => decide (lo ≤ i) && decide (i ≤ hi)
  | _ => false
def txt (s : String) : PyData := .str (Str.ofString s)
theorem within_is {lo hi : Int} {x : PyData} (h : within lo hi x = true) : ∃ i, x = .int i ∧ lo ≤ i ∧ i ≤ hi := by
  cases x <;> simp [within] at h
  exact ⟨_, rfl, h.1, h.2⟩

/-! ### dicts with tuple keys, by what stands behind the keys -/
section
variable {α β : Type} [DecidableEq α]
def putA (es : List (α × β)) (k : α) (v : β) : List (α × β) := if es.any (fun e => decide (e.1 = k)) = true then es.map (fun e => if e.1 = k then (e.1, v) else e) else es ++ [(k, v)]
def getA (es : List (α × β)) (k : α) : Option β := (es.find? fun e => decide (e.1 = k)).map (·.2)
def encA (f : α → PyData) (g : β → PyData) (es : List (α × β)) : KVs := es.map fun e => (f e.1, g e.2)
variable {f : α → PyData} {g : β → PyData} (hf : ∀ a b, nk (f a) = nk (f b) ↔ a = b)
include hf
theorem hasA (es : List (α × β)) (k : α) : hasT (encA f g es) (f k) = es.any fun e => decide (e.1 = k) := by
  unfold hasT encA
  rw [List.any_map]
  refine List.any_congr rfl fun e => ?_
  exact decide_eq_decide.mpr (hf e.1 k)
theorem put_enc (es : List (α × β)) (k : α) (v : β) : putT (encA f g es) (f k) (g v) = encA f g (putA es k v) := by
  unfold putT putA
  rw [hasA hf]
  split
  · unfold encA
    rw [List.map_map, List.map_map]
    refine List.map_congr_left fun e _ => ?_
    show (if nk (f e.1) = nk (f k) then (f e.1, g v) else (f e.1, g e.2)) = _
    by_cases h : e.1 = k
    · rw [if_pos ((hf _ _).mpr h)]
      show _ = (f (if e.1 = k then (e.1, v) else e).1, g (if e.1 = k then (e.1, v) else e).2)
      rw [if_pos h]
    · rw [if_neg (fun z => h ((hf _ _).mp z))]
      show _ = (f (if e.1 = k then (e.1, v) else e).1, g (if e.1 = k then (e.1, v) else e).2)
      rw [if_neg h]
  · unfold encA
    rw [List.map_append]; rfl
theorem get_enc (es : List (α × β)) (k : α) : getT (encA f g es) (f k) = (getA es k).map g := by
  unfold getT getA encA
  rw [List.find?_map, Option.map_map, Option.map_map]
  have : ((fun e : PyData × PyData => decide (nk e.1 = nk (f k))) ∘ fun e : α × β => (f e.1, g e.2)) = fun e => decide (e.1 = k) := funext fun e => decide_eq_decide.mpr (hf e.1 k)
  rw [this]
  rfl
omit hf
theorem putA_keys (es : List (α × β)) (k : α) (v : β) : (putA es k v).map (·.1) = if k ∈ es.map (·.1) then es.map (·.1) else es.map (·.1) ++ [k] := by
  unfold putA
  have e : (es.any (fun e => decide (e.1 = k)) = true) ↔ k ∈ es.map (·.1) := by
    rw [List.any_eq_true, List.mem_map]
    constructor
    · rintro ⟨x, h, e⟩; exact ⟨x, h, of_decide_eq_true e⟩
    · rintro ⟨x, h, e⟩; exact ⟨x, h, decide_eq_true e⟩
  by_cases h : k ∈ es.map (·.1)
  · rw [if_pos (e.mpr h), if_pos h, List.map_map]
    refine List.map_congr_left fun x _ => ?_
    show (if x.1 = k then (x.1, v) else x).1 = x.1
    split <;> rfl
  · rw [if_neg (fun z => h (e.mp z)), if_neg h, List.map_append]; rfl
theorem putA_nodup {es : List (α × β)} (k : α) (v : β) (h : (es.map (·.1)).Nodup) : ((putA es k v).map (·.1)).Nodup := by
  rw [putA_keys]
  split
  · exact h
  · rename_i hk
    exact List.nodup_append.mpr ⟨h, List.pairwise_singleton _ _, fun a ha b hb => by rw [List.mem_singleton.mp hb]; intro z; rw [z] at ha; exact hk ha⟩
theorem putA_len (es : List (α × β)) (k : α) (v : β) : (putA es k v).length ≤ es.length + 1 := by
  unfold putA
  split
  · rw [List.length_map]; omega
  · rw [List.length_append, List.length_singleton]; omega
theorem putA_all {P : α → Prop} {R : β → Prop} {es : List (α × β)} {k : α} {v : β} (h : ∀ e ∈ es, P e.1 ∧ R e.2) (hk : P k) (hv : R v) : ∀ e ∈ putA es k v, P e.1 ∧ R e.2 := by
  unfold putA
  split
  · intro e he
    obtain ⟨a, ha, rfl⟩ := List.mem_map.mp he
    split
    · exact ⟨(h a ha).1, hv⟩
    · exact h a ha
  · intro e he
    rcases List.mem_append.mp he with he | he
    · exact h e he
    · rw [List.mem_singleton.mp he]; exact ⟨hk, hv⟩
theorem getA_of {es : List (α × β)} {k : α} (h : k ∈ es.map (·.1)) : ∃ v, getA es k = some v ∧ (k, v) ∈ es := by
  unfold getA
  cases e : es.find? fun e => decide (e.1 = k) with
  | some x =>
    have h1 := List.find?_some e
    have h2 := List.mem_of_find?_eq_some e
    have h1 : x.1 = k := of_decide_eq_true h1
    exact ⟨x.2, rfl, by rw [← h1]; exact h2⟩
  | none =>
    rw [List.find?_eq_none] at e
    obtain ⟨x, hx, hk⟩ := List.mem_map.mp h
    exact absurd (decide_eq_true hk) (e x hx)
end

/-! ### notes and scores -/
structure Nt where
  o : Int
  p : Int
  v : Int
  l : Int
deriving DecidableEq
abbrev K3 := Int × Int × Int
def Nt.k (n : Nt) : K3 := (n.o, n.p, n.v)
def eN (n : Nt) : PyData := .tuple [.int n.o, .int n.p, .int n.v, .int n.l]
def eK (k : K3) : PyData := .tuple [.int k.1, .int k.2.1, .int k.2.2]
def Nt.ok (n : Nt) : Prop := 0 ≤ n.o ∧ n.o ≤ 9999 ∧ 0 ≤ n.p ∧ n.p ≤ 127 ∧ 0 ≤ n.v ∧ n.v ≤ 7 ∧ 1 ≤ n.l ∧ n.l ≤ 999
def ltK (a b : K3) : Bool := decide (a.1 < b.1 ∨ (a.1 = b.1 ∧ (a.2.1 < b.2.1 ∨ (a.2.1 = b.2.1 ∧ a.2.2 < b.2.2))))
def leK (a b : K3) : Bool := decide (a.1 < b.1 ∨ (a.1 = b.1 ∧ (a.2.1 < b.2.1 ∨ (a.2.1 = b.2.1 ∧ a.2.2 ≤ b.2.2))))
/-- a score of at most so many notes -/
def Scr (n : Nat) (ns : List Nt) : Prop := ns.length ≤ n ∧ (∀ x ∈ ns, x.ok) ∧ ns.Pairwise fun a b => ltK a.k b.k = true
theorem leK_trans (a b c : K3) : leK a b = true → leK b c = true → leK a c = true := by
  unfold leK
  simp only [decide_eq_true_eq]
  omega
theorem leK_total (a b : K3) : (leK a b || leK b a) = true := by
  unfold leK
  simp only [Bool.or_eq_true, decide_eq_true_eq]
  omega
theorem leK_lt {a b : K3} (h : leK a b = true) (n : a ≠ b) : ltK a b = true := by
  unfold leK at h
  unfold ltK
  simp only [decide_eq_true_eq] at h ⊢
  have : ¬(a.1 = b.1 ∧ a.2.1 = b.2.1 ∧ a.2.2 = b.2.2) := fun ⟨h1, h2, h3⟩ => n (Prod.ext h1 (Prod.ext h2 h3))
  omega
theorem ltK_data (a b : K3) : PySem.W.dataLt (eK a) (eK b) = ltK a b := by
  unfold eK
  rw [dataLt_cons _ _ _ _ rfl, dataLt_cons _ _ _ _ rfl, dataLt_cons _ _ _ _ rfl, dataLt_nil, PySem.W.dataLt_int, PySem.W.dataLt_int, PySem.W.dataLt_int, eqv_int, eqv_int, eqv_int]
  simp only [decide_eq_true_eq]
  unfold ltK
  by_cases h1 : a.1 = b.1
  · rw [if_pos h1]
    by_cases h2 : a.2.1 = b.2.1
    · rw [if_pos h2]
      by_cases h3 : a.2.2 = b.2.2
      · rw [if_pos h3, eq_comm, decide_eq_false_iff_not]; omega
      · rw [if_neg h3]; exact decide_eq_decide.mpr (by omega)
    · rw [if_neg h2]; exact decide_eq_decide.mpr (by omega)
  · rw [if_neg h1]; exact decide_eq_decide.mpr (by omega)
theorem leK_data (a b : K3) : PySem.W.dataLe false id (eK a) (eK b) = leK a b := by
  have : PySem.W.dataLe false id (eK a) (eK b) = !PySem.W.dataLt (eK b) (eK a) := rfl
  rw [this, ltK_data]
  unfold ltK leK
  rw [Bool.not_eq_eq_eq_not, ← decide_not]
  exact decide_eq_decide.mpr (by omega)
theorem sorted_K {ks : List K3} {Q : RV → Prop} (q : Q (.own (.lst ((ks.mergeSort leK).map eK)))) : gSorted [.list (ks.map eK)] Q :=
  sorted_gen eK leK leK_data (fun _ _ => rfl) (fun _ => ⟨_, _, rfl⟩) (fun k => by show (PyData.depth (eK k)) ≤ 60; exact Nat.le_of_ble_eq_true rfl) q
theorem nk_K (k : K3) : isNK (eK k) := ⟨⟨_, rfl⟩, _, rfl, Nat.le_of_ble_eq_true rfl⟩
theorem nk_K_inj (a b : K3) : nk (eK a) = nk (eK b) ↔ a = b := by
  constructor
  · intro h
    have h : some (NestedKey.tup [.num a.1, .num a.2.1, .num a.2.2]) = some (.tup [.num b.1, .num b.2.1, .num b.2.2]) := h
    injection h with h
    injection h with h
    injection h with h1 h
    injection h with h2 h
    injection h with h3 h
    injection h1 with h1
    injection h2 with h2
    injection h3 with h3
    exact Prod.ext h1 (Prod.ext h2 h3)
  · rintro rfl; rfl
def K3.ok (k : K3) : Prop := 0 ≤ k.1 ∧ k.1 ≤ 9999 ∧ 0 ≤ k.2.1 ∧ k.2.1 ≤ 127 ∧ 0 ≤ k.2.2 ∧ k.2.2 ≤ 7
/-- notes as a dict keeps them -/
structure ScD (n : Nat) (es : List (K3 × Int)) : Prop where
  len : es.length ≤ n
  nd : (es.map (·.1)).Nodup
  ok : ∀ e ∈ es, K3.ok e.1 ∧ (1 ≤ e.2 ∧ e.2 ≤ 999)
def eI (i : Int) : PyData := .int i
theorem ScD.put {n : Nat} {es : List (K3 × Int)} (h : ScD n es) {x : Nt} (hx : x.ok) : ScD (n + 1) (putA es x.k x.l) := by
  obtain ⟨a1, a2, b1, b2, c1, c2, d1, d2⟩ := hx
  exact ⟨Nat.le_trans (putA_len _ _ _) (Nat.succ_le_succ h.len), putA_nodup _ _ h.nd, putA_all (P := K3.ok) (R := fun i => 1 ≤ i ∧ i ≤ 999) h.ok ⟨a1, a2, b1, b2, c1, c2⟩ ⟨d1, d2⟩⟩
def ScD.note (es : List (K3 × Int)) (k : K3) : Nt := ⟨k.1, k.2.1, k.2.2, (getA es k).getD 0⟩
theorem ScD.scr {n : Nat} {es : List (K3 × Int)} (h : ScD n es) : Scr n (((es.map (·.1)).mergeSort leK).map (ScD.note es)) := by
  refine ⟨by rw [List.length_map, List.length_mergeSort, List.length_map]; exact h.len, fun x hx => ?_, ?_⟩
  · obtain ⟨k, hk, rfl⟩ := List.mem_map.mp hx
    have hk := (List.mergeSort_perm _ _).mem_iff.mp hk
    obtain ⟨v, h1, h2⟩ := getA_of hk
    obtain ⟨⟨a1, a2, b1, b2, c1, c2⟩, d1, d2⟩ := h.ok _ h2
    unfold ScD.note Nt.ok
    rw [h1]
    exact ⟨a1, a2, b1, b2, c1, c2, d1, d2⟩
  · rw [List.pairwise_map]
    exact (sort_lt leK_trans leK_total h.nd).imp fun {a b} hab => leK_lt hab.1 hab.2
theorem tm_N {n : Nt} (h : n.ok) : Tm 400 1 (eN n) := by
  obtain ⟨a1, a2, b1, b2, c1, c2, d1, d2⟩ := h
  have num : ∀ i : Int, i.natAbs ≤ 9999 → Tm 80 0 (.int i) := fun i h => Tm.sz (m := 30) (Sz.of_le (k := 9999) h)
  exact Tm.tup (n := 80) (k := 0) (c := 4) (fal (num _ (by omega)) (fal (num _ (by omega)) (fal (num _ (by omega)) (fal (num _ (by omega)) fan)))) (Nat.le_refl _)

/-! ### things spoilt -/
def Spl (n : Nat) (y : PyData) : Prop := Tm 30000 6 y ∧ ∀ xs, y = .tuple xs → xs.length ≤ n + 1
theorem Spl.of {n : Nat} {y : PyData} (h : Tm 30000 6 y) (g : isa .tuple y = false) : Spl n y := ⟨h, fun xs e => by rw [e] at g; cases g⟩
theorem Spl.tup {n : Nat} {xs : List PyData} (h : ∀ x ∈ xs, Tm 1000 4 x) (hl : xs.length ≤ n + 1) (hn : n ≤ 20 := by omega) : Spl n (.tuple xs) :=
  ⟨Tm.tup (c := 21) h (by omega) (by decide) (by decide), fun ys e => by cases e; exact hl⟩
theorem Spl.lst {n : Nat} {xs : List PyData} (h : ∀ x ∈ xs, Tm 1000 4 x) (hl : xs.length ≤ n + 1) (hn : n ≤ 20 := by omega) : Spl n (.list xs) :=
  .of (Tm.lst (c := 21) h (by omega) (by decide) (by decide)) rfl
theorem mem_cuts {P : PyData → Prop} {xs : List PyData} (h : ∀ x ∈ xs, P x) (l r : Option Int) : ∀ x ∈ cutD xs l r, P x := fun x hx => h x (mem_cut hx)
theorem mem_apps {P : PyData → Prop} {xs ys : List PyData} (h : ∀ x ∈ xs, P x) (g : ∀ x ∈ ys, P x) : ∀ x ∈ xs ++ ys, P x := fun x hx => by
  rcases List.mem_append.mp hx with hx | hx
  · exact h x hx
  · exact g x hx
section
variable {n : Nat} {xs : List PyData} (h : ∀ x ∈ xs, Tm 1000 4 x) (hl : xs.length ≤ n) (hn : n ≤ 20) (i : Nat)
include h hl hn
theorem Spl.put {x : PyData} (hx : Tm 1000 4 x) : Spl n (.tuple (cutD xs none (some (i : Int)) ++ [x] ++ cutD xs (some (i : Int)) none)) :=
  .tup (mem_apps (mem_apps (mem_cuts h _ _) (fal hx fan)) (mem_cuts h _ _)) (by rw [cut_to, cut_from, List.length_append, List.length_append, List.length_singleton, List.length_take, List.length_drop]; omega)
theorem Spl.at {x : PyData} (hx : Tm 1000 4 x) : Spl n (.tuple (cutD xs none (some (i : Int)) ++ [x] ++ cutD xs (some ((i : Int) + 1)) none)) :=
  .tup (mem_apps (mem_apps (mem_cuts h _ _) (fal hx fan)) (mem_cuts h _ _)) (by rw [show (i : Int) + 1 = ((i + 1 : Nat) : Int) from rfl, cut_to, cut_from, List.length_append, List.length_append, List.length_singleton, List.length_take, List.length_drop]; omega)
theorem Spl.dbl (hi : i < xs.length) : Spl n (.tuple (cutD xs none (some ((i : Int) + 1)) ++ cutD xs (some (i : Int)) none)) :=
  .tup (mem_apps (mem_cuts h _ _) (mem_cuts h _ _)) (by rw [show (i : Int) + 1 = ((i + 1 : Nat) : Int) from rfl, cut_to, cut_from, List.length_append, List.length_take, List.length_drop]; omega)
theorem Spl.trn : Spl n (.tuple (cutD xs (some (i : Int)) none ++ cutD xs none (some (i : Int)))) :=
  .tup (mem_apps (mem_cuts h _ _) (mem_cuts h _ _)) (by rw [cut_to, cut_from, List.length_append, List.length_take, List.length_drop]; omega)
theorem Spl.cut (l r : Option Int) : Spl n (.tuple (cutD xs l r)) := .tup (mem_cuts h _ _) (by have := cut_len (xs := xs) (l := l) (h := r); omega)
theorem Spl.rev : Spl n (.tuple xs.reverse) := .tup (fun x hx => h x (List.mem_reverse.mp hx)) (by rw [List.length_reverse]; omega)
end

theorem tm_pt {p : Pt} (h : p.1.natAbs ≤ 9999 ∧ p.2.natAbs ≤ 9999) : Tm 1000 4 (eP p) := by
  have num : ∀ i : Int, i.natAbs ≤ 9999 → Tm 80 0 (.int i) := fun i h => Tm.sz (m := 30) (Sz.of_le (k := 9999) h)
  exact Tm.tup (n := 80) (k := 0) (c := 2) (fal (num _ h.1) (fal (num _ h.2) fan)) (Nat.le_refl _)

/-! ### lists that ascend strictly -/
theorem asc_eq {α : Type} {lt : α → α → Prop} (ir : ∀ a, ¬lt a a) (as : ∀ a b, lt a b → ¬lt b a) {l1 l2 : List α} (h1 : l1.Pairwise lt) (h2 : l2.Pairwise lt) (h : ∀ k, k ∈ l1 ↔ k ∈ l2) : l1 = l2 := by
  have nd : ∀ {l : List α}, l.Pairwise lt → l.Nodup := fun hl => hl.imp (S := fun a b => a ≠ b) fun {a b} hab e => ir a (by rw [← e] at hab; exact hab)
  exact List.Perm.eq_of_pairwise (fun a b _ _ x y => absurd y (as a b x)) h1 h2 ((List.perm_ext_iff_of_nodup (nd h1) (nd h2)).mpr h)

/-! ### points and voices of scores -/
def Nt.pt (n : Nt) : Pt := (n.o, n.p)
def ptLt (p r : Pt) : Bool := decide (p.1 < r.1 ∨ (p.1 = r.1 ∧ p.2 < r.2))
theorem ptLt_ir (a : Pt) : ¬(ptLt a a = true) := by unfold ptLt; simp
theorem ptLt_as (a b : Pt) : ptLt a b = true → ¬(ptLt b a = true) := by
  unfold ptLt
  simp only [decide_eq_true_eq]
  omega
theorem ltK_ir (a : K3) : ¬(ltK a a = true) := by unfold ltK; simp
theorem ltK_as (a b : K3) : ltK a b = true → ¬(ltK b a = true) := by
  unfold ltK
  simp only [decide_eq_true_eq]
  omega
theorem ptLe_lt {a b : Pt} (h : ptLe a b = true) (n : a ≠ b) : ptLt a b = true := by
  unfold ptLe at h
  unfold ptLt
  simp only [decide_eq_true_eq] at h ⊢
  have : ¬(a.1 = b.1 ∧ a.2 = b.2) := fun ⟨h1, h2⟩ => n (Prod.ext h1 h2)
  omega
/-- some points, each once, ascending -/
def usort (ps : List Pt) : List Pt := ps.eraseDups.mergeSort ptLe
theorem usort_mem (ps : List Pt) (p : Pt) : p ∈ usort ps ↔ p ∈ ps := by
  unfold usort
  rw [(List.mergeSort_perm _ _).mem_iff, List.mem_eraseDups]
theorem nodup_eraseDups {α : Type} [BEq α] [LawfulBEq α] : ∀ (l : List α), l.eraseDups.Nodup
  | [] => by rw [List.eraseDups_nil]; exact .nil
  | a :: as => by
    rw [List.eraseDups_cons]
    refine List.nodup_cons.mpr ⟨fun h => ?_, nodup_eraseDups _⟩
    have h := (List.mem_filter.mp (List.mem_eraseDups.mp h)).2
    simp at h
termination_by l => l.length
decreasing_by exact Nat.lt_succ_of_le (List.length_filter_le _ _)
theorem usort_asc (ps : List Pt) : (usort ps).Pairwise fun a b => ptLt a b = true :=
  (sort_lt ptLe_trans ptLe_total (nodup_eraseDups ps)).imp fun {a b} h => ptLe_lt h.1 h.2
theorem usort_eq {ps qs : List Pt} (h1 : qs.Pairwise fun a b => ptLt a b = true) (h2 : ∀ p, p ∈ qs ↔ p ∈ ps) : qs = usort ps :=
  asc_eq (lt := fun a b => ptLt a b = true) ptLt_ir ptLt_as h1 (usort_asc ps) fun k => by rw [h2, usort_mem]
def ptsOf (ns : List Nt) : List Pt := usort (ns.map Nt.pt)
def vsOf (ns : List Nt) : List Int := ((List.range 8).filter fun v => ns.any fun n => decide (n.v = (v : Nat))).map fun v => ((v : Nat) : Int)
def ntsAt (ns : List Nt) (p : Pt) : List Nt := ns.filter fun n => decide (n.pt = p)
theorem encI_P (p : Pt) : encI [p.1, p.2] = eP p := rfl
theorem sset_pts {ps : List Pt} {Q : RV → Prop} (hl : ps.length < 64) (q : Q (.own (.lst ((usort ps).map eP)))) : gSSet (.list (ps.map eP)) Q := by
  refine .inl ⟨ps.map fun p => [p.1, p.2], 1, by rw [List.map_map]; rfl, by rw [List.length_map]; exact hl, fun k hk => ?_, fun zs hn hz => ?_⟩
  · obtain ⟨p, _, rfl⟩ := List.mem_map.mp hk
    rfl
  · obtain ⟨qs, rfl, _⟩ : ∃ qs : List Pt, zs = qs.map (fun p => [p.1, p.2]) ∧ ∀ p ∈ qs, True := by
      have : ∀ zs : List (List Int), (∀ k ∈ zs, ∃ p : Pt, k = [p.1, p.2]) → ∃ qs : List Pt, zs = qs.map (fun p => [p.1, p.2]) ∧ ∀ p ∈ qs, True := by
        intro zs
        induction zs with
        | nil => exact fun _ => ⟨[], rfl, fun _ _ => trivial⟩
        | cons k zs ih =>
          intro h
          obtain ⟨p, rfl⟩ := h k List.mem_cons_self
          obtain ⟨qs, rfl, _⟩ := ih fun j hj => h j (List.mem_cons_of_mem _ hj)
          exact ⟨p :: qs, rfl, fun _ _ => trivial⟩
      exact this zs fun k hk => by
        obtain ⟨p, _, rfl⟩ := List.mem_map.mp ((hz k).mp hk)
        exact ⟨p, rfl⟩
    have inj : ∀ p r : Pt, [p.1, p.2] = [r.1, r.2] → p = r := fun p r e => by
      injection e with e1 e2
      injection e2 with e2 _
      exact Prod.ext e1 e2
    have e : (qs.map fun p : Pt => [p.1, p.2]).map encI = qs.map eP := by rw [List.map_map]; rfl
    rw [e, sort_pts]
    have hq : qs.Nodup := List.Pairwise.of_map _ (fun _ _ h e => h (by rw [e])) hn
    have : qs.mergeSort ptLe = usort ps := by
      refine usort_eq ((sort_lt ptLe_trans ptLe_total hq).imp fun {a b} h => ptLe_lt h.1 h.2) fun p => ?_
      rw [(List.mergeSort_perm _ _).mem_iff]
      constructor
      · intro h
        obtain ⟨r, hr, e⟩ := List.mem_map.mp ((hz [p.1, p.2]).mp (List.mem_map.mpr ⟨p, h, rfl⟩))
        rw [← inj r p e]; exact hr
      · intro h
        obtain ⟨r, hr, e⟩ := List.mem_map.mp ((hz [p.1, p.2]).mpr (List.mem_map.mpr ⟨p, h, rfl⟩))
        rw [← inj r p e]; exact hr
    rw [this]
    exact q
theorem vsOf_mem (ns : List Nt) (h : ∀ n ∈ ns, n.ok) (k : Int) : k ∈ vsOf ns ↔ k ∈ ns.map Nt.v := by
  unfold vsOf
  rw [List.mem_map, List.mem_map]
  constructor
  · rintro ⟨v, hv, rfl⟩
    obtain ⟨_, h2⟩ := List.mem_filter.mp hv
    obtain ⟨n, hn, e⟩ := List.any_eq_true.mp h2
    exact ⟨n, hn, of_decide_eq_true e⟩
  · rintro ⟨n, hn, rfl⟩
    obtain ⟨_, _, _, _, c1, c2, _, _⟩ := h n hn
    refine ⟨n.v.toNat, List.mem_filter.mpr ⟨List.mem_range.mpr (by omega), List.any_eq_true.mpr ⟨n, hn, decide_eq_true (by omega)⟩⟩, by omega⟩
theorem vsOf_asc (ns : List Nt) : (vsOf ns).Pairwise (· < ·) := by
  unfold vsOf
  rw [List.pairwise_map]
  exact (List.pairwise_lt_range.filter _).imp fun {a b} h => by omega
theorem sset_vs {ns : List Nt} {Q : RV → Prop} (hl : ns.length < 64) (hok : ∀ n ∈ ns, n.ok) (q : Q (.own (.lst ((vsOf ns).map .int)))) : gSSet (.list (ns.map fun n => .int n.v)) Q := by
  refine .inr ⟨ns.map Nt.v, by rw [List.map_map]; rfl, by rw [List.length_map]; exact hl, fun zs hz hm => ?_⟩
  have : zs = vsOf ns := asc_eq (lt := (· < ·)) (fun a => by omega) (fun a b => by omega) hz (vsOf_asc ns) fun k => by rw [hm, vsOf_mem ns hok]
  rw [this]
  exact q
/-- each once, of what ascends -/
def onceP : List Pt → List Pt → List Pt
  | acc, [] => acc
  | acc, p :: ps => onceP (if acc.getLast? = some p then acc else acc ++ [p]) ps
theorem onceP_asc : ∀ (ps acc : List Pt), (acc ++ ps).Pairwise (fun a b => ptLe a b = true) → acc.Pairwise (fun a b => ptLt a b = true) → (onceP acc ps).Pairwise (fun a b => ptLt a b = true) ∧ ∀ p, p ∈ onceP acc ps ↔ p ∈ acc ++ ps
  | [], acc, _, h => ⟨h, fun p => by rw [List.append_nil]; exact Iff.rfl⟩
  | p :: ps, acc, h0, h => by
    unfold onceP
    split
    · rename_i e
      have hm : p ∈ acc := List.mem_of_getLast? e
      have h1 : (acc ++ ps).Pairwise (fun a b => ptLe a b = true) := by
        rw [List.pairwise_append] at h0 ⊢
        exact ⟨h0.1, (List.pairwise_cons.mp h0.2.1).2, fun a ha b hb => h0.2.2 a ha b (List.mem_cons_of_mem _ hb)⟩
      obtain ⟨a1, a2⟩ := onceP_asc ps acc h1 h
      refine ⟨a1, fun q => ?_⟩
      rw [a2, List.mem_append, List.mem_append, List.mem_cons]
      constructor
      · rintro (z | z)
        · exact .inl z
        · exact .inr (.inr z)
      · rintro (z | rfl | z)
        · exact .inl z
        · exact .inl hm
        · exact .inr z
    · rename_i e
      have h1 : (acc ++ [p] ++ ps).Pairwise (fun a b => ptLe a b = true) := by rw [List.append_assoc]; exact h0
      have h2 : (acc ++ [p]).Pairwise (fun a b => ptLt a b = true) := by
        rw [List.pairwise_append]
        refine ⟨h, List.pairwise_singleton _ _, fun a ha b hb => ?_⟩
        rw [List.mem_singleton.mp hb]
        have hle : ptLe a p = true := (List.pairwise_append.mp h0).2.2 a ha p List.mem_cons_self
        refine ptLe_lt hle fun z => ?_
        subst z
        -- a = p is in acc, the last of acc is not p, and stands behind a
        obtain ⟨l, hl⟩ : ∃ l, acc.getLast? = some l := by
          cases g : acc.getLast? with
          | some l => exact ⟨l, rfl⟩
          | none => rw [List.getLast?_eq_none_iff] at g; rw [g] at ha; cases ha
        have hne : l ≠ a := fun z => e (by rw [hl, z])
        have hlm : l ∈ acc := List.mem_of_getLast? hl
        obtain ⟨ys, rfl⟩ := List.getLast?_eq_some_iff.mp hl
        have ha2 : a ∈ ys := by
          rcases List.mem_append.mp ha with z | z
          · exact z
          · exact absurd (List.mem_singleton.mp z).symm hne
        have lt1 : ptLt a l = true := (List.pairwise_append.mp h).2.2 a ha2 l (List.mem_singleton.mpr rfl)
        have le2 : ptLe l a = true := (List.pairwise_append.mp h0).2.2 l hlm a List.mem_cons_self
        unfold ptLt at lt1
        unfold ptLe at le2
        simp only [decide_eq_true_eq] at lt1 le2
        omega
      obtain ⟨a1, a2⟩ := onceP_asc ps (acc ++ [p]) h1 h2
      refine ⟨a1, fun q => ?_⟩
      rw [a2, List.append_assoc]; rfl
theorem scr_pts {n : Nat} {ns : List Nt} (h : Scr n ns) : (ns.map Nt.pt).Pairwise (fun a b => ptLe a b = true) := by
  rw [List.pairwise_map]
  refine h.2.2.imp fun {a b} h => ?_
  unfold ltK Nt.k at h
  unfold ptLe Nt.pt
  simp only [decide_eq_true_eq] at h ⊢
  omega
theorem once_pts {n : Nat} {ns : List Nt} (h : Scr n ns) : onceP [] (ns.map Nt.pt) = ptsOf ns := by
  obtain ⟨a1, a2⟩ := onceP_asc (ns.map Nt.pt) [] (scr_pts h) .nil
  exact usort_eq a1 a2
theorem all_nts {n : Nat} {ns : List Nt} (h : Scr n ns) : (ptsOf ns).flatMap (ntsAt ns) = ns := by
  refine asc_eq (lt := fun a b => ltK a.k b.k = true) (fun a => ltK_ir _) (fun a b => ltK_as _ _) ?_ h.2.2 fun x => ?_
  · rw [List.pairwise_flatMap]
    refine ⟨fun p _ => h.2.2.filter _, (usort_asc _).imp fun {a b} hab x hx y hy => ?_⟩
    have ex : x.pt = a := of_decide_eq_true (List.mem_filter.mp hx).2
    have ey : y.pt = b := of_decide_eq_true (List.mem_filter.mp hy).2
    rw [← ex, ← ey] at hab
    unfold ptLt Nt.pt at hab
    unfold ltK Nt.k
    simp only [decide_eq_true_eq] at hab ⊢
    omega
  · rw [List.mem_flatMap]
    constructor
    · rintro ⟨p, _, hx⟩
      exact (List.mem_filter.mp hx).1
    · intro hx
      exact ⟨x.pt, (usort_mem _ _).mpr (List.mem_map.mpr ⟨x, hx, rfl⟩), List.mem_filter.mpr ⟨hx, decide_eq_true rfl⟩⟩
theorem tm_sc {ns : List Nt} (h : ∀ x ∈ ns, x.ok) (hl : ns.length ≤ 62) {n k : Nat} (hn : 62 * 400 + 2 * 62 + 3 ≤ n := by decide) (hk : 2 ≤ k := by decide) : Tm n k (.tuple (ns.map eN)) :=
  Tm.tup (c := 62) (fun x hx => by
    obtain ⟨p, h1, rfl⟩ := List.mem_map.mp hx
    exact tm_N (h p h1)) (by rw [List.length_map]; exact hl) hn hk
theorem tm_ps {ps : List Pt} (h : ∀ x ∈ ps, x.1.natAbs ≤ 9999 ∧ x.2.natAbs ≤ 9999) (hl : ps.length ≤ 64) {n k : Nat} (hn : 64 * 1000 + 2 * 64 + 3 ≤ n := by decide) (hk : 5 ≤ k := by decide) : Tm n k (.tuple (ps.map eP)) :=
  Tm.tup (c := 64) (fun x hx => by
    obtain ⟨p, h1, rfl⟩ := List.mem_map.mp hx
    exact tm_pt (h p h1)) (by rw [List.length_map]; exact hl) hn hk
theorem ptsOf_len (ns : List Nt) : (ptsOf ns).length ≤ ns.length := by
  unfold ptsOf usort
  rw [List.length_mergeSort]
  have : ∀ (n : Nat) (l : List Pt), l.length ≤ n → l.eraseDups.length ≤ l.length := by
    intro n
    induction n with
    | zero => intro l h; rw [List.eq_nil_of_length_eq_zero (l := l) (by omega), List.eraseDups_nil]; exact Nat.le_refl _
    | succ n ih =>
      intro l h
      cases l with
      | nil => rw [List.eraseDups_nil]; exact Nat.le_refl _
      | cons a l =>
        rw [List.eraseDups_cons, List.length_cons, List.length_cons]
        have h1 := List.length_filter_le (fun b => !b == a) l
        rw [List.length_cons] at h
        have := ih (l.filter fun b => !b == a) (by omega)
        omega
  have := this _ (ns.map Nt.pt) (Nat.le_refl _)
  rw [List.length_map] at this
  exact this
theorem pt_ok {x : Nt} (h : x.ok) : x.pt.1.natAbs ≤ 9999 ∧ x.pt.2.natAbs ≤ 9999 := by
  obtain ⟨a1, a2, b1, b2, _⟩ := h
  unfold Nt.pt
  exact ⟨by show x.o.natAbs ≤ 9999; omega, by show x.p.natAbs ≤ 9999; omega⟩
theorem ptsOf_ok {ns : List Nt} (h : ∀ x ∈ ns, x.ok) : ∀ p ∈ ptsOf ns, p.1.natAbs ≤ 9999 ∧ p.2.natAbs ≤ 9999 := fun p hp => by
  obtain ⟨x, hx, rfl⟩ := List.mem_map.mp ((usort_mem _ _).mp hp)
  exact pt_ok (h x hx)
theorem eqv_P (p r : Pt) : PyData.eqv (eP p) (eP r) = decide (p = r) := by
  show ((PyData.eqv (.int p.1) (.int r.1)) && (PyData.eqv (.int p.2) (.int r.2) && true)) = _
  rw [eqv_int, eqv_int, Bool.and_true, ← Bool.decide_and]
  exact decide_eq_decide.mpr ⟨fun h => Prod.ext h.1 h.2, fun h => by rw [h]; exact ⟨rfl, rfl⟩⟩
theorem eqOk_P (p r : Pt) : eqOk (eP p) (eP r) := .inr ⟨(flat_P p).sh, (flat_P r).sh⟩
theorem fm_if {α : Type} (f : α → PyData) (P : α → Prop) [DecidablePred P] : ∀ as : List α, (as.filterMap fun a => if P a then some (f a) else none) = (as.filter fun a => decide (P a)).map f
  | [] => rfl
  | a :: as => by
    rw [List.filterMap_cons, List.filter_cons]
    by_cases h : P a
    · rw [if_pos h, if_pos (decide_eq_true h), List.map_cons, fm_if f P as]
    · rw [if_neg h, if_neg (by rw [decide_eq_false h]; exact Bool.false_ne_true), fm_if f P as]
theorem atI_end {α : Type} (xs : List α) (h : xs ≠ []) : atI xs (-1) = xs.getLast? := by
  have h0 := List.length_pos_iff.mpr h
  unfold atI ixN
  rw [if_neg (by decide), if_pos (by omega), List.getLast?_eq_getElem?]
  have e : ((-1 : Int) + (xs.length : Int)).toNat = xs.length - 1 := by omega
  show xs[((-1 : Int) + (xs.length : Int)).toNat]? = _
  rw [e]
theorem ones {α : Type} (P : α → Prop) [DecidablePred P] : ∀ l : List α, PyData.eqv (.list (l.filterMap fun a => if P a then some (.int 1) else none)) (.list []) = (!(l.any fun a => decide (P a))) ∧ SeqAt.shaped (.list (l.filterMap fun a => if P a then some (PyData.int 1) else none)) = true := by
  intro l
  refine ⟨?_, (flat.lst (n := 1) fun x hx => ?_).sh⟩
  · induction l with
    | nil => rfl
    | cons a l ih =>
      rw [List.filterMap_cons, List.any_cons]
      by_cases h : P a
      · rw [if_pos h, decide_eq_true h]; rfl
      · rw [if_neg h, decide_eq_false h, Bool.false_or]; exact ih
  · obtain ⟨a, _, e⟩ := List.mem_filterMap.mp hx
    by_cases h : P a
    · rw [if_pos h] at e; rw [← Option.some.inj e]; exact flat.int
    · rw [if_neg h] at e; cases e
theorem enum_map {α : Type} (f : α → PyData) (as : List α) : enumF 0 (as.map f) = as.zipIdx.map fun e => .tuple [.int (e.2 : Nat), f e.1] := by
  rw [enumF_eq, List.zipIdx_map, List.map_map]
  refine List.map_congr_left fun e _ => ?_
  show PyData.tuple [.int _, f e.1] = _
  simp
theorem vs_data (ns : List Nt) : ((List.range 8).filter fun a => decide ((ns.any fun n => decide (n.v = (a : Nat))) = true)).map (fun v => PyData.int (v : Nat)) = (vsOf ns).map .int := by
  unfold vsOf
  rw [List.map_map]
  have : (fun a : Nat => decide ((ns.any fun n => decide (n.v = (a : Nat))) = true)) = fun v : Nat => ns.any fun n => decide (n.v = (v : Nat)) := funext fun a => Bool.decide_eq_true
  rw [this]
  rfl
theorem tm_vs {n k : Nat} (ns : List Nt) (hn : 8 * 80 + 2 * 8 + 3 ≤ n := by decide) (hk : 1 ≤ k := by decide) : Tm n k (.tuple ((vsOf ns).map .int)) :=
  Tm.tup (n := 80) (k := 0) (c := 8) (fun x hx => by
    obtain ⟨i, h1, rfl⟩ := List.mem_map.mp hx
    unfold vsOf at h1
    obtain ⟨v, h2, rfl⟩ := List.mem_map.mp h1
    have := List.mem_range.mp (List.mem_filter.mp h2).1
    exact Tm.sz (m := 30) (Sz.of_le (k := 9999) (by omega))) (by
      rw [List.length_map]
      unfold vsOf
      rw [List.length_map]
      exact Nat.le_trans (List.length_filter_le _ _) (by rw [List.length_range]; exact Nat.le_refl _)) hn hk
theorem at_step (n : Nt) (p : Pt) {K : Option PyData → Prop} (hK : K (if n.pt = p then some (eN n) else none)) : eqOk (.tuple [.int n.o, .int n.p]) (.tuple [.int p.1, .int p.2]) ∧ if PyData.eqv (.tuple [.int n.o, .int n.p]) (.tuple [.int p.1, .int p.2]) = true then K (some (.tuple [.int n.o, .int n.p, .int n.v, .int n.l])) else K none := by
  have e2 : PyData.eqv (.tuple [.int n.o, .int n.p]) (.tuple [.int p.1, .int p.2]) = decide (n.pt = p) := eqv_P n.pt p
  rw [e2]
  refine ⟨eqOk_P n.pt p, ?_⟩
  by_cases h : n.pt = p
  · rw [if_pos h] at hK
    rw [if_pos (decide_eq_true h)]
    exact hK
  · rw [if_neg h] at hK
    rw [if_neg (by rw [decide_eq_false h]; exact nofun)]
    exact hK
theorem ntsAt_ok {ns : List Nt} (h : ∀ x ∈ ns, x.ok) (p : Pt) : ∀ x ∈ ntsAt ns p, x.ok := fun x hx => h x (List.mem_filter.mp hx).1
theorem ntsAt_len (ns : List Nt) (p : Pt) : (ntsAt ns p).length ≤ ns.length := List.length_filter_le _ _
/-- the same notes with other lengths -/
theorem relen {ns : List Nt} {ys : List PyData} (h : Paired (fun n y => ∃ l : Int, 1 ≤ l ∧ l ≤ 999 ∧ y = eN ⟨n.o, n.p, n.v, l⟩) ns ys) : ∃ ms : List Nt, ys = ms.map eN ∧ ms.map Nt.k = ns.map Nt.k ∧ ((∀ x ∈ ns, x.ok) → ∀ x ∈ ms, x.ok) := by
  induction h with
  | nil => exact ⟨[], rfl, rfl, fun h => h⟩
  | @cons n y ns ys h1 _ ih =>
    obtain ⟨ms, rfl, e, h⟩ := ih
    obtain ⟨l, l1, l2, rfl⟩ := h1
    refine ⟨⟨n.o, n.p, n.v, l⟩ :: ms, rfl, by rw [List.map_cons, List.map_cons, e]; rfl, fun hn x hx => ?_⟩
    rcases List.mem_cons.mp hx with rfl | hx
    · obtain ⟨a1, a2, b1, b2, c1, c2, _, _⟩ := hn n List.mem_cons_self
      exact ⟨a1, a2, b1, b2, c1, c2, l1, l2⟩
    · exact h (fun z hz => hn z (List.mem_cons_of_mem _ hz)) x hx
theorem same_pts {ms ns : List Nt} (h : ms.map Nt.k = ns.map Nt.k) : ptsOf ms = ptsOf ns ∧ vsOf ms = vsOf ns ∧ ms.length = ns.length := by
  have e1 : ∀ l : List Nt, l.map Nt.pt = (l.map Nt.k).map fun k => (k.1, k.2.1) := fun l => by rw [List.map_map]; rfl
  have e2 : ∀ (l : List Nt) (v : Int), (l.any fun n => decide (n.v = v)) = (l.map Nt.k).any fun k => decide (k.2.2 = v) := fun l v => by rw [List.any_map]; rfl
  refine ⟨by unfold ptsOf; rw [e1, e1, h], ?_, by have := congrArg List.length h; rw [List.length_map, List.length_map] at this; exact this⟩
  unfold vsOf
  have : (fun v : Nat => ms.any fun n => decide (n.v = (v : Nat))) = fun v : Nat => ns.any fun n => decide (n.v = (v : Nat)) := funext fun v => by rw [e2, e2, h]
  rw [this]

def gKw_0 {α : Type} (xs : List α) : List α := xs
theorem gKw_0_rel {α β : Type} (R : α → β → Prop) (xs : List α) (ys : List β) (h : Paired R xs ys) : Paired R (gKw_0 xs) (gKw_0 ys) := h
def gKw_1_0 {α : Type} : List α → List α
  | [x0, x1] => [x1, x0]
  | _ => []
theorem gKw_1_0_rel {α β : Type} (R : α → β → Prop) (xs : List α) (ys : List β) (h : Paired R xs ys) : Paired R (gKw_1_0 xs) (gKw_1_0 ys) := by
  cases h with
  | nil => exact .nil
  | cons r0 t0 =>
    cases t0 with
    | nil => exact .nil
    | cons r1 t1 =>
      cases t1 with
      | nil => exact .cons r1 (.cons r0 .nil)
      | cons _ _ => exact .nil
theorem gKw_0_ap {α : Type} {x0 : α} : gKw_0 [x0] = [x0] := (rfl)
theorem gKw_1_0_ap {α : Type} {x0 x1 : α} : gKw_1_0 [x0, x1] = [x1, x0] := (rfl)
def topS (i : Nat) : Stmt := PySem.Challenge.pw_heardagain_k02_points_and_voices.main.body.getD i (.Pass ⟨0, 0, 0, 0⟩)
abbrev s_points_of : Stmt := topS 1
abbrev N_points_of : List Str := ["score", "note"]
abbrev p_points_of : List Str := ["score"]
theorem sc_points_of : FnScope N_points_of p_points_of (defScope s_points_of) := ⟨rfl, rfl, rfl, by decide +kernel, rfl, by decide +kernel, by decide +kernel⟩
abbrev s_voices_of : Stmt := topS 2
abbrev N_voices_of : List Str := ["score", "note"]
abbrev p_voices_of : List Str := ["score"]
theorem sc_voices_of : FnScope N_voices_of p_voices_of (defScope s_voices_of) := ⟨rfl, rfl, rfl, by decide +kernel, rfl, by decide +kernel, by decide +kernel⟩
abbrev s_notes_at : Stmt := topS 3
abbrev N_notes_at : List Str := ["score", "point", "note"]
abbrev p_notes_at : List Str := ["score", "point"]
theorem sc_notes_at : FnScope N_notes_at p_notes_at (defScope s_notes_at) := ⟨rfl, rfl, rfl, by decide +kernel, rfl, by decide +kernel, by decide +kernel⟩
abbrev s__law_box : Stmt := topS 5
abbrev N__law_box : List Str := ["script", "marks", "stirred", "cell", "mark"]
abbrev p__law_box : List Str := ["script"]
theorem sc__law_box : FnScope N__law_box p__law_box (defScope s__law_box) := ⟨rfl, rfl, rfl, by decide +kernel, rfl, by decide +kernel, by decide +kernel⟩
abbrev s__law_draw : Stmt := topS 6
abbrev N__law_draw : List Str := ["box", "many", "great", "mark", "count", "found"]
abbrev p__law_draw : List Str := ["box", "many"]
theorem sc__law_draw : FnScope N__law_draw p__law_draw (defScope s__law_draw) := ⟨rfl, rfl, rfl, by decide +kernel, rfl, by decide +kernel, by decide +kernel⟩
abbrev s__law_once : Stmt := topS 10
abbrev N__law_once : List Str := ["things", "found", "thing"]
abbrev p__law_once : List Str := ["things"]
theorem sc__law_once : FnScope N__law_once p__law_once (defScope s__law_once) := ⟨rfl, rfl, rfl, by decide +kernel, rfl, by decide +kernel, by decide +kernel⟩
abbrev s__law_pick : Stmt := topS 7
abbrev N__law_pick : List Str := ["box", "items"]
abbrev p__law_pick : List Str := ["box", "items"]
theorem sc__law_pick : FnScope N__law_pick p__law_pick (defScope s__law_pick) := ⟨rfl, rfl, rfl, by decide +kernel, rfl, by decide +kernel, by decide +kernel⟩
abbrev s__law_is_right : Stmt := topS 11
abbrev N__law_is_right : List Str := ["box", "score", "kept", "due", "onset", "pitch", "voice", "length", "voices", "own", "found", "place", "point", "note", "told", "spots", "other"]
abbrev p__law_is_right : List Str := ["box", "score"]
theorem sc__law_is_right : FnScope N__law_is_right p__law_is_right (defScope s__law_is_right) := ⟨rfl, rfl, rfl, by decide +kernel, rfl, by decide +kernel, by decide +kernel⟩
abbrev s__law_note : Stmt := topS 8
abbrev N__law_note : List Str := ["box", "onset", "pitch", "voice"]
abbrev p__law_note : List Str := ["box"]
theorem sc__law_note : FnScope N__law_note p__law_note (defScope s__law_note) := ⟨rfl, rfl, rfl, by decide +kernel, rfl, by decide +kernel, by decide +kernel⟩
abbrev s__law_score : Stmt := topS 9
abbrev N__law_score : List Str := ["box", "many", "found", "last", "turn", "fresh", "spot", "three"]
abbrev p__law_score : List Str := ["box", "many"]
theorem sc__law_score : FnScope N__law_score p__law_score (defScope s__law_score) := ⟨rfl, rfl, rfl, by decide +kernel, rfl, by decide +kernel, by decide +kernel⟩
abbrev s_law : Stmt := topS 12
abbrev N_law : List Str := ["script", "box", "many", "score", "chord", "place"]
abbrev p_law : List Str := ["script"]
theorem sc_law : FnScope N_law p_law (defScope s_law) := ⟨rfl, rfl, rfl, by decide +kernel, rfl, by decide +kernel, by decide +kernel⟩
structure Tx (K : PySem.W.Frag) (mg : Str → Option Value) : Prop where
  sys : sysIn K
  z_abs : mg "abs" = none
  z_enumerate : mg "enumerate" = none
  z_int : mg "int" = none
  z_len : mg "len" = none
  z_list : mg "list" = none
  z_range : mg "range" = none
  z_repr : mg "repr" = none
  z_set : mg "set" = none
  z_sorted : mg "sorted" = none
  z_tuple : mg "tuple" = none


def sp_points_of : SpD := fun rs Q _ => ∃ ns : List Nt, rs = [.d (.tuple (ns.map eN))] ∧ ns.length < 64 ∧ Q (.d (.tuple ((ptsOf ns).map eP)))

def sp_voices_of : SpD := fun rs Q _ => ∃ ns : List Nt, rs = [.d (.tuple (ns.map eN))] ∧ ns.length < 64 ∧ (∀ n ∈ ns, n.ok) ∧ Q (.d (.tuple ((vsOf ns).map .int)))

def sp_notes_at : SpD := fun rs Q _ => ∃ (ns : List Nt) (p : Pt), rs = [.d (.tuple (ns.map eN)), .d (eP p)] ∧ ns.length < 64 ∧ Q (.d (.tuple ((ntsAt ns p).map eN)))

def sp__law_box : SpD := fun rs Q _ => match rs with
  | [.scr ns] => ns.length ≤ 63 ∧ ∀ o, boxOk1 o → Q (.own o)
  | _ => False

abbrev sp__law_draw : SpD := spDraw

def sp__law_once : SpD := fun rs Q _ => ∃ ps : List Pt, rs = [.d (.list (ps.map eP))] ∧ ps.length ≤ 1000000 ∧ Q (.d (.tuple ((onceP [] ps).map eP)))

abbrev sp__law_pick : SpD := spPick

def sp__law_is_right : SpD := fun rs Q _ => ∃ ns : List Nt, rs = [.box, .d (.tuple (ns.map eN))] ∧ Scr 20 ns ∧ Q (.d (.bool true))

def sp__law_note : SpD := fun rs Q _ => rs = [.box] ∧ ∀ n : Nt, n.ok → Q (.d (eN n))

def sp__law_score : SpD := fun rs Q _ => ∃ m : Nat, rs = [.box, .d (.int (m : Int))] ∧ m ≤ 1000 ∧ ∀ ns : List Nt, Scr m ns → Q (.d (.tuple (ns.map eN)))


section
variable {P : Program} {w : World} {K : PySem.W.Frag} {mg : Str → Option Value} {base : Heap}
noncomputable def d_points_of : TSD :=
  tSeqD (tRetD (tCallB gTuple (tConsU (tSSet (tLcD (tItVD false (tVarD 0)) (gNmD 1) (tYesD) (tSlD (tVarD 1) (tNoO) (tSomeO (tConD (.int 2)))) [1])) tNilU)))
  (tNxD)
theorem b_points_of (T : Tx K mg) (kin : K.In base) {f : Addr} {cdv : Value} {A : Around} {outer : List Env} {s : Shared} {H : Hp} {E : XK} (hr : Room 0 (A.deeper (envOfC "points_of" (defScope s_points_of) s.heap.objs.size f cdv))) (hg : A.guards = some []) : PSsD bx1 (cxOf (L2.CX P w) P w K mg base N_points_of "points_of" (defScope s_points_of) f cdv A outer s H E) (WOf E) (defBody s_points_of) d_points_of := by
  have xb := XB.ofDef (P := P) (w := w) (mg := mg) (base := base) (E := E) (outer := outer) (H := H) sc_points_of.nd hr hg T.sys kin
  exact sds_cons (sd_ret (q_tuple T.z_tuple (q_sset xb T.z_sorted T.z_set (q_lc [("note", 1)] xb (pid_seq (qv 0)) (fun _ _ _ _ _ xbb => ⟨qgn 1 xbb, ptd_nil, pd_sl (qv 1) (pdo_none) (pdo_some (pd_int))⟩)))))
    (sds_nil)
noncomputable def d_voices_of : TSD :=
  tSeqD (tRetD (tCallB gTuple (tConsU (tSSet (tLcD (tItVD false (tVarD 0)) (gNmD 1) (tYesD) (tBinD gIx (tVarD 1) (tConD (.int 2))) [1])) tNilU)))
  (tNxD)
theorem b_voices_of (T : Tx K mg) (kin : K.In base) {f : Addr} {cdv : Value} {A : Around} {outer : List Env} {s : Shared} {H : Hp} {E : XK} (hr : Room 0 (A.deeper (envOfC "voices_of" (defScope s_voices_of) s.heap.objs.size f cdv))) (hg : A.guards = some []) : PSsD bx1 (cxOf (L2.CX P w) P w K mg base N_voices_of "voices_of" (defScope s_voices_of) f cdv A outer s H E) (WOf E) (defBody s_voices_of) d_voices_of := by
  have xb := XB.ofDef (P := P) (w := w) (mg := mg) (base := base) (E := E) (outer := outer) (H := H) sc_voices_of.nd hr hg T.sys kin
  exact sds_cons (sd_ret (q_tuple T.z_tuple (q_sset xb T.z_sorted T.z_set (q_lc [("note", 1)] xb (pid_seq (qv 0)) (fun _ _ _ _ _ xbb => ⟨qgn 1 xbb, ptd_nil, q_ix xbb (qv 1) (pd_int)⟩)))))
    (sds_nil)
noncomputable def d_notes_at : TSD :=
  tSeqD (tRetD (tCallB gTuple (tConsU (tLcD (tItVD false (tVarD 0)) (gNmD 2) (tTst (tBinD gEq (tSlD (tVarD 2) (tNoO) (tSomeO (tConD (.int 2)))) (tVarD 1))) (tVarD 2) [2]) tNilU)))
  (tNxD)
theorem b_notes_at (T : Tx K mg) (kin : K.In base) {f : Addr} {cdv : Value} {A : Around} {outer : List Env} {s : Shared} {H : Hp} {E : XK} (hr : Room 0 (A.deeper (envOfC "notes_at" (defScope s_notes_at) s.heap.objs.size f cdv))) (hg : A.guards = some []) : PSsD bx1 (cxOf (L2.CX P w) P w K mg base N_notes_at "notes_at" (defScope s_notes_at) f cdv A outer s H E) (WOf E) (defBody s_notes_at) d_notes_at := by
  have xb := XB.ofDef (P := P) (w := w) (mg := mg) (base := base) (E := E) (outer := outer) (H := H) sc_notes_at.nd hr hg T.sys kin
  exact sds_cons (sd_ret (q_tuple T.z_tuple (q_lc [("note", 2)] xb (pid_seq (qv 0)) (fun _ _ _ _ _ xbb => ⟨qgn 2 xbb, ptd_one (qtcmp (od_eq xbb.sys xbb.u64) (pd_sl (qv 2) (pdo_none) (pdo_some (pd_int))) (qv 1)), qv 2⟩))))
    (sds_nil)
noncomputable def d__law_box_L1 : TSD :=
  tSeqD (tSetD 2 (tBinD gMod (tCallB gInt (tConsU (tBinD gAdd (tBinD gMul (tVarD 2) (tConD (.int 69069))) (tVarD 4)) tNilU)) (tConD (.int 4294967291))))
  (tNxD)
noncomputable def d__law_box_3 : TSD :=
  tSeqD (tRetD (tDispD (kConsD (tConD (.str (Str.ofString "great"))) (tLcD (tItVD false (tVarD 1)) (gNmD 4) (tTst (tBinD gGt (tVarD 4) (tBinD gPow (tConD (.int 10)) (tConD (.int 15))))) (tVarD 4) [4]) (kConsD (tConD (.str (Str.ofString "stirred"))) (tVarD 2) (kConsD (tConD (.str (Str.ofString "count"))) (tConD (.int 0)) (kNilD))))))
  (tNxD)
noncomputable def d__law_box_2 : TSD :=
  tFrzD 1 (tSeqD (tForD (tItVD true (tVarD 1)) (gNmD 4) (d__law_box_L1))
  (d__law_box_3))
noncomputable def d__law_box : TSD :=
  tSeqD (tParD 1 2 (tConsO (tLcD (tItVD false (tSlD (tVarD 0) (tNoO) (tSomeO (tConD (.int 63))))) (gNmD 3) (tYesD) (tBinD gAdd (tBinD gMul (tConD (.int 2)) (tCallB gAbs (tConsU (tVarD 3) tNilU))) (tCallB gInt (tConsU (tBinD gLt (tVarD 3) (tConD (.int 0))) tNilU))) [3]) (tConsO (tBinD gAdd (tConD (.int 40961)) (tCallB gLen (tConsU (tVarD 0) tNilU))) (tNilD))))
  (d__law_box_2)
theorem b__law_box (T : Tx K mg) (kin : K.In base) {f : Addr} {cdv : Value} {A : Around} {outer : List Env} {s : Shared} {H : Hp} {E : XK} (hr : Room 0 (A.deeper (envOfC "_law_box" (defScope s__law_box) s.heap.objs.size f cdv))) (hg : A.guards = some []) : PSsD bx1 (cxOf (L2.CX P w) P w K mg base N__law_box "_law_box" (defScope s__law_box) f cdv A outer s H E) (WOf E) (defBody s__law_box) d__law_box := by
  have xb := XB.ofDef (P := P) (w := w) (mg := mg) (base := base) (E := E) (outer := outer) (H := H) sc__law_box.nd hr hg T.sys kin
  exact sds_cons (q_par 1 2 xb (qo (q_lc [("cell", 3)] xb (pid_seq (pd_sl (qv 0) (pdo_none) (pdo_some (pd_int)))) (fun _ _ _ _ _ xbb => ⟨qgn 3 xbb, ptd_nil, pd_bin od_add (pd_bin od_mul (pd_int) (q_abs T.z_abs (qv 3))) (q_int T.z_int (qcmp (od_lt xbb.sys xbb.u64) (qv 3) (pd_int)))⟩)) (qo (pd_bin od_add (pd_int) (q_len T.z_len (qv 0))) (pdo_nil))))
    (sds_frz (i := 1) (sds_cons (q_for [4] xb (pid_seq (qv 1)) (qgn 4 xb) (sds_cons (q_set 2 xb (pd_bin od_mod (q_int T.z_int (pd_bin od_add (pd_bin od_mul (qv 2) (pd_int)) (qv 4))) (pd_int)))
    (sds_nil)))
    (sds_cons (sd_ret (q_disp (pkv_cons (pd_str) (q_lc [("mark", 4)] xb (pid_seq (qv 1)) (fun _ _ _ _ _ xbb => ⟨qgn 4 xbb, ptd_one (qtcmp (od_gt xbb.sys xbb.u64) (qv 4) (pd_bin od_pow (pd_int) (pd_int))), qv 4⟩)) (pkv_cons (pd_str) (qv 2) (pkv_cons (pd_str) (pd_int) (pkv_nil))))))
    (sds_nil))))
noncomputable def d__law_once_L1 : TSD :=
  tSeqD (tIfD (tOrD (tBinD gEq (tVarD 1) (tLstD (tNilD))) (tBinD gNe (tBinD gIx (tVarD 1) (tUnD gNeg (tConD (.int 1)))) (tVarD 2))) (tSeqD (tAppD 1 (tVarD 2))
  (tNxD)) (tNxD))
  (tNxD)
noncomputable def d__law_once_3 : TSD :=
  tSeqD (tRetD (tCallB gTuple (tConsU (tVarD 1) tNilU)))
  (tNxD)
noncomputable def d__law_once_2 : TSD :=
  tSeqD (tForD (tItVD true (tVarD 0)) (gNmD 2) (d__law_once_L1))
  (d__law_once_3)
noncomputable def d__law_once : TSD :=
  tSeqD (tSetD 1 (tLstD (tNilD)))
  (d__law_once_2)
theorem b__law_once (T : Tx K mg) (kin : K.In base) {f : Addr} {cdv : Value} {A : Around} {outer : List Env} {s : Shared} {H : Hp} {E : XK} (hr : Room 0 (A.deeper (envOfC "_law_once" (defScope s__law_once) s.heap.objs.size f cdv))) (hg : A.guards = some []) : PSsD bx1 (cxOf (L2.CX P w) P w K mg base N__law_once "_law_once" (defScope s__law_once) f cdv A outer s H E) (WOf E) (defBody s__law_once) d__law_once := by
  have xb := XB.ofDef (P := P) (w := w) (mg := mg) (base := base) (E := E) (outer := outer) (H := H) sc__law_once.nd hr hg T.sys kin
  exact sds_cons (q_set 1 xb (pd_lst (pda_nil)))
    (sds_cons (q_for [2] xb (pid_seq (qv 0)) (qgn 2 xb) (sds_cons (sd_if (PW.pt (pdt_or (qtcmp (od_eq xb.sys xb.u64) (qv 1) (pd_lst (pda_nil))) (pdt_or1 (qtcmp (od_ne xb.sys xb.u64) (q_ix xb (qv 1) (pd_un ud_neg (pd_int))) (qv 2))))) (sds_cons (q_append 1 (qv 2))
    (sds_nil)) (sds_nil))
    (sds_nil)))
    (sds_cons (sd_ret (q_tuple T.z_tuple (qv 1)))
    (sds_nil)))
noncomputable def d__law_pick : TSD :=
  tSeqD (tRetD (tBinD gIx (tVarD 1) (tFn 2 sp__law_draw (tConsD (tVarD 0) (tConsD (tCallB gLen (tConsU (tVarD 1) tNilU)) (tNilD))))))
  (tNxD)
theorem b__law_pick (T : Tx K mg) (kin : K.In base) (F__law_draw : FnAt P w K mg base bx1 1 "_law_draw" 2 p__law_draw sp__law_draw) {f : Addr} {cdv : Value} {A : Around} {outer : List Env} {s : Shared} {H : Hp} {E : XK} (hr : Room 1 (A.deeper (envOfC "_law_pick" (defScope s__law_pick) s.heap.objs.size f cdv))) (hg : A.guards = some []) : PSsD bx1 (cxOf (L2.CX P w) P w K mg base N__law_pick "_law_pick" (defScope s__law_pick) f cdv A outer s H E) (WOf E) (defBody s__law_pick) d__law_pick := by
  have xb := XB.ofDef (P := P) (w := w) (mg := mg) (base := base) (E := E) (outer := outer) (H := H) sc__law_pick.nd hr hg T.sys kin
  exact sds_cons (sd_ret (q_ix xb (qv 1) (q_fn xb F__law_draw (qa (qv 0) (qa (q_len T.z_len (qv 1)) (pda_nil))))))
    (sds_nil)
noncomputable def d__law_is_right_L1_4 : TSD :=
  tSeqD (tSetD 10 (tBinD gAdd (tVarD 10) (tVarD 14)))
  (tNxD)
noncomputable def d__law_is_right_L1_3 : TSD :=
  tSeqD (tIfD (tBinD gNe (tCallB gRepr (tConsU (tVarD 14) tNilU)) (tCallB gRepr (tConsU (tVarD 9) tNilU))) (tSeqD (tRetD (tConD (.bool false)))
  (tNxD)) (tNxD))
  (d__law_is_right_L1_4)
noncomputable def d__law_is_right_L1_2 : TSD :=
  tSeqD (tSetD 14 (tIteD (tBinD gEq (tBinD gMod (tCallB gInt (tConsU (tVarD 11) tNilU)) (tConD (.int 3))) (tConD (.int 1))) (tFnK 2 gKw_1_0 sp_notes_at (tConsD (tVarD 12) (tConsD (tVarD 1) (tNilD)))) (tFn 2 sp_notes_at (tConsD (tVarD 1) (tConsD (tVarD 12) (tNilD))))))
  (d__law_is_right_L1_3)
noncomputable def d__law_is_right_L1 : TSD :=
  tSeqD (tSetD 9 (tCallB gTuple (tConsU (tLcD (tItVD false (tVarD 1)) (gNmD 13) (tTst (tBinD gEq (tSlD (tVarD 13) (tNoO) (tSomeO (tConD (.int 2)))) (tVarD 12))) (tVarD 13) [13]) tNilU)))
  (d__law_is_right_L1_2)
noncomputable def d__law_is_right_L2 : TSD :=
  tSeqD (tIfD (tBinD gNe (tCallB gRepr (tConsU (tFn 2 sp_notes_at (tConsD (tVarD 1) (tConsD (tVarD 12) (tNilD)))) tNilU)) (tCallB gRepr (tConsU (tCallB gTuple (tConsU (tLcD (tItVD false (tVarD 1)) (gNmD 13) (tTst (tBinD gEq (tSlD (tVarD 13) (tNoO) (tSomeO (tConD (.int 2)))) (tVarD 12))) (tVarD 13) [13]) tNilU)) tNilU))) (tSeqD (tRetD (tConD (.bool false)))
  (tNxD)) (tNxD))
  (tNxD)
noncomputable def d__law_is_right_11 : TSD :=
  tFrzD 3 (tSeqD (tRetD (tAndD (tBinD gEq (tCallB gRepr (tConsU (tVarD 10) tNilU)) (tVarD 2)) (tBinD gEq (tCallB gRepr (tConsU (tVarD 14) tNilU)) (tCallB gRepr (tConsU (tLstD (tConsD (tVarD 3) (tConsD (tVarD 8) (tConsD (tVarD 2) (tNilD))))) tNilU)))))
  (tNxD))
noncomputable def d__law_is_right_10 : TSD :=
  tSeqD (tSetD 14 (tLstD (tConsD (tFn 1 sp_points_of (tConsD (tVarD 16) (tNilD))) (tConsD (tFnK 1 gKw_0 sp_voices_of (tConsD (tVarD 16) (tNilD))) (tConsD (tCallB gRepr (tConsU (tVarD 1) tNilU)) (tNilD))))))
  (d__law_is_right_11)
noncomputable def d__law_is_right_9 : TSD :=
  tSeqD (tSetD 16 (tCallB gTuple (tConsU (tLcD (tItVD false (tVarD 1)) (gNmD 13) (tYesD) (tBinD gAdd (tSlD (tVarD 13) (tNoO) (tSomeO (tConD (.int 3)))) (tTupD (tConsD (tBinD gAdd (tConD (.int 1)) (tFn 2 sp__law_draw (tConsD (tVarD 0) (tConsD (tConD (.int 999)) (tNilD))))) (tNilD)))) [13]) tNilU)))
  (d__law_is_right_10)
noncomputable def d__law_is_right_8 : TSD :=
  tFrzD 15 (tSeqD (tForD (tItVD true (tVarD 15)) (gNmD 12) (d__law_is_right_L2))
  (d__law_is_right_9))
noncomputable def d__law_is_right_7 : TSD :=
  tSeqD (tSetD 15 (tLstD (tConsD (tTupD (tConsD (tFn 2 sp__law_draw (tConsD (tVarD 0) (tConsD (tConD (.int 12)) (tNilD)))) (tConsD (tConD (.int 60)) (tNilD)))) (tConsD (tTupD (tConsD (tUnD gNeg (tConD (.int 1))) (tConsD (tConD (.int 60)) (tNilD)))) (tConsD (tTupD (tConsD (tConD (.int 0)) (tConsD (tUnD gNeg (tConD (.int 9999))) (tNilD)))) (tConsD (tTupD (tConsD (tConD (.int 9999)) (tConsD (tConD (.int 9999)) (tNilD)))) (tConsD (tTupD (tConsD (tConD (.int 0)) (tConsD (tConD (.int 128)) (tNilD)))) (tConsD (tTupD (tConsD (tFn 2 sp__law_draw (tConsD (tVarD 0) (tConsD (tConD (.int 9999)) (tNilD)))) (tConsD (tConD (.int 0)) (tNilD)))) (tNilD)))))))))
  (d__law_is_right_8)
noncomputable def d__law_is_right_6 : TSD :=
  tFrzD 3 (tSeqD (tForD (tEnumD (tConsS true (tVarD 3) (tNilU))) (gTupD 2 (gConsD (gNmD 11) (gConsD (gNmD 12) (gNilD)))) (d__law_is_right_L1))
  (d__law_is_right_7))
noncomputable def d__law_is_right_5 : TSD :=
  tSeqD (tSetD 10 (tTupD (tNilD)))
  (d__law_is_right_6)
noncomputable def d__law_is_right_4 : TSD :=
  tFrzD 3 (tSeqD (tIfD (tBinD gNe (tCallB gRepr (tConsU (tLstD (tConsD (tFn 1 sp_points_of (tConsD (tVarD 1) (tNilD))) (tConsD (tFnK 1 gKw_0 sp_points_of (tConsD (tVarD 1) (tNilD))) (tConsD (tFn 1 sp_voices_of (tConsD (tVarD 1) (tNilD))) (tNilD))))) tNilU)) (tCallB gRepr (tConsU (tLstD (tConsD (tVarD 3) (tConsD (tVarD 3) (tConsD (tVarD 8) (tNilD))))) tNilU))) (tSeqD (tRetD (tConD (.bool false)))
  (tNxD)) (tNxD))
  (d__law_is_right_5))
noncomputable def d__law_is_right_3 : TSD :=
  tSeqD (tSetD 8 (tCallB gTuple (tConsU (tLcD (tRng1 (tConsU (tConD (.int 8)) (tNilU))) (gNmD 6) (tTst (tBinD gNe (tLcD (tItVD false (tVarD 1)) (gNmD 9) (tTst (tBinD gEq (tBinD gIx (tVarD 9) (tConD (.int 2))) (tVarD 6))) (tConD (.int 1)) [9]) (tLstD (tNilD)))) (tVarD 6) [6]) tNilU)))
  (d__law_is_right_4)
noncomputable def d__law_is_right_2 : TSD :=
  tSeqD (tSetD 3 (tFn 1 sp__law_once (tConsD (tLcD (tItVD false (tVarD 1)) (gTupD 4 (gConsD (gNmD 4) (gConsD (gNmD 5) (gConsD (gNmD 6) (gConsD (gNmD 7) (gNilD)))))) (tYesD) (tTupD (tConsD (tVarD 4) (tConsD (tVarD 5) (tNilD)))) [4, 5, 6, 7]) (tNilD))))
  (d__law_is_right_3)
noncomputable def d__law_is_right : TSD :=
  tSeqD (tSetD 2 (tCallB gRepr (tConsU (tVarD 1) tNilU)))
  (d__law_is_right_2)
theorem b__law_is_right (T : Tx K mg) (kin : K.In base) (F_points_of : FnAt P w K mg base bx1 1 "points_of" 1 p_points_of sp_points_of) (F_voices_of : FnAt P w K mg base bx1 1 "voices_of" 1 p_voices_of sp_voices_of) (F_notes_at : FnAt P w K mg base bx1 1 "notes_at" 2 p_notes_at sp_notes_at) (F__law_draw : FnAt P w K mg base bx1 1 "_law_draw" 2 p__law_draw sp__law_draw) (F__law_once : FnAt P w K mg base bx1 1 "_law_once" 1 p__law_once sp__law_once) (K_points_of_0 : FnKw P w K mg base bx1 1 "points_of" 1 p_points_of ["score"] gKw_0 sp_points_of) (K_notes_at_1_0 : FnKw P w K mg base bx1 1 "notes_at" 2 p_notes_at ["point", "score"] gKw_1_0 sp_notes_at) (K_voices_of_0 : FnKw P w K mg base bx1 1 "voices_of" 1 p_voices_of ["score"] gKw_0 sp_voices_of) {f : Addr} {cdv : Value} {A : Around} {outer : List Env} {s : Shared} {H : Hp} {E : XK} (hr : Room 1 (A.deeper (envOfC "_law_is_right" (defScope s__law_is_right) s.heap.objs.size f cdv))) (hg : A.guards = some []) : PSsD bx1 (cxOf (L2.CX P w) P w K mg base N__law_is_right "_law_is_right" (defScope s__law_is_right) f cdv A outer s H E) (WOf E) (defBody s__law_is_right) d__law_is_right := by
  have xb := XB.ofDef (P := P) (w := w) (mg := mg) (base := base) (E := E) (outer := outer) (H := H) sc__law_is_right.nd hr hg T.sys kin
  exact sds_cons (q_set 2 xb (q_repr xb T.z_repr (qv 1)))
    (sds_cons (q_set 3 xb (q_fn xb F__law_once (qa (q_lc [("onset", 4), ("pitch", 5), ("voice", 6), ("length", 7)] xb (pid_seq (qv 1)) (fun _ _ _ _ _ xbb => ⟨qgt xbb (qgc (qgn 4 xbb) (qgc (qgn 5 xbb) (qgc (qgn 6 xbb) (qgc (qgn 7 xbb) (pgds_nil))))), ptd_nil, pd_tup (qa (qv 4) (qa (qv 5) (pda_nil)))⟩)) (pda_nil))))
    (sds_cons (q_set 8 xb (q_tuple T.z_tuple (q_lc [("voice", 6)] xb (q_rng1 T.z_range (qu (pd_int) (pdu_nil))) (fun _ _ _ _ _ xbb => ⟨qgn 6 xbb, ptd_one (qtcmp (od_ne xbb.sys xbb.u64) (q_lc [("own", 9)] xbb (pid_seq (qv 1)) (fun _ _ _ _ _ xbbb => ⟨qgn 9 xbbb, ptd_one (qtcmp (od_eq xbbb.sys xbbb.u64) (q_ix xbbb (qv 9) (pd_int)) (qv 6)), pd_int⟩)) (pd_lst (pda_nil))), qv 6⟩))))
    (sds_frz (i := 3) (sds_cons (sd_if (qtcmp (od_ne xb.sys xb.u64) (q_repr xb T.z_repr (pd_lst (qa (q_fn xb F_points_of (qa (qv 1) (pda_nil))) (qa (q_fnK xb K_points_of_0 (pdk_cons (qv 1) (pdk_nil)) gKw_0_rel) (qa (q_fn xb F_voices_of (qa (qv 1) (pda_nil))) (pda_nil)))))) (q_repr xb T.z_repr (pd_lst (qa (qv 3) (qa (qv 3) (qa (qv 8) (pda_nil))))))) (sds_cons (sd_ret (pd_bl))
    (sds_nil)) (sds_nil))
    (sds_cons (q_set 10 xb (pd_tup (pda_nil)))
    (sds_frz (i := 3) (sds_cons (q_for [11, 12] xb (q_enumerate T.z_enumerate (qw (qv 3) (pdv_nil))) (qgt xb (qgc (qgn 11 xb) (qgc (qgn 12 xb) (pgds_nil)))) (sds_cons (q_set 9 xb (q_tuple T.z_tuple (q_lc [("note", 13)] xb (pid_seq (qv 1)) (fun _ _ _ _ _ xbb => ⟨qgn 13 xbb, ptd_one (qtcmp (od_eq xbb.sys xbb.u64) (pd_sl (qv 13) (pdo_none) (pdo_some (pd_int))) (qv 12)), qv 13⟩))))
    (sds_cons (q_set 14 xb (pd_ite (qtcmp (od_eq xb.sys xb.u64) (pd_bin od_mod (q_int T.z_int (qv 11)) (pd_int)) (pd_int)) (q_fnK xb K_notes_at_1_0 (pdk_cons (qv 12) (pdk_cons (qv 1) (pdk_nil))) gKw_1_0_rel) (q_fn xb F_notes_at (qa (qv 1) (qa (qv 12) (pda_nil))))))
    (sds_cons (sd_if (qtcmp (od_ne xb.sys xb.u64) (q_repr xb T.z_repr (qv 14)) (q_repr xb T.z_repr (qv 9))) (sds_cons (sd_ret (pd_bl))
    (sds_nil)) (sds_nil))
    (sds_cons (q_set 10 xb (pd_bin od_add (qv 10) (qv 14)))
    (sds_nil))))))
    (sds_cons (q_set 15 xb (pd_lst (qa (pd_tup (qa (q_fn xb F__law_draw (qa (qv 0) (qa (pd_int) (pda_nil)))) (qa (pd_int) (pda_nil)))) (qa (pd_tup (qa (pd_un ud_neg (pd_int)) (qa (pd_int) (pda_nil)))) (qa (pd_tup (qa (pd_int) (qa (pd_un ud_neg (pd_int)) (pda_nil)))) (qa (pd_tup (qa (pd_int) (qa (pd_int) (pda_nil)))) (qa (pd_tup (qa (pd_int) (qa (pd_int) (pda_nil)))) (qa (pd_tup (qa (q_fn xb F__law_draw (qa (qv 0) (qa (pd_int) (pda_nil)))) (qa (pd_int) (pda_nil)))) (pda_nil)))))))))
    (sds_frz (i := 15) (sds_cons (q_for [12] xb (pid_seq (qv 15)) (qgn 12 xb) (sds_cons (sd_if (qtcmp (od_ne xb.sys xb.u64) (q_repr xb T.z_repr (q_fn xb F_notes_at (qa (qv 1) (qa (qv 12) (pda_nil))))) (q_repr xb T.z_repr (q_tuple T.z_tuple (q_lc [("note", 13)] xb (pid_seq (qv 1)) (fun _ _ _ _ _ xbb => ⟨qgn 13 xbb, ptd_one (qtcmp (od_eq xbb.sys xbb.u64) (pd_sl (qv 13) (pdo_none) (pdo_some (pd_int))) (qv 12)), qv 13⟩))))) (sds_cons (sd_ret (pd_bl))
    (sds_nil)) (sds_nil))
    (sds_nil)))
    (sds_cons (q_set 16 xb (q_tuple T.z_tuple (q_lc [("note", 13)] xb (pid_seq (qv 1)) (fun _ _ _ _ _ xbb => ⟨qgn 13 xbb, ptd_nil, pd_bin od_add (pd_sl (qv 13) (pdo_none) (pdo_some (pd_int))) (pd_tup (qa (pd_bin od_add (pd_int) (q_fn xbb F__law_draw (qa (qv 0) (qa (pd_int) (pda_nil))))) (pda_nil)))⟩))))
    (sds_cons (q_set 14 xb (pd_lst (qa (q_fn xb F_points_of (qa (qv 16) (pda_nil))) (qa (q_fnK xb K_voices_of_0 (pdk_cons (qv 16) (pdk_nil)) gKw_0_rel) (qa (q_repr xb T.z_repr (qv 1)) (pda_nil))))))
    (sds_frz (i := 3) (sds_cons (sd_ret (pd_and (qcmp (od_eq xb.sys xb.u64) (q_repr xb T.z_repr (qv 10)) (qv 2)) (pd_one (qcmp (od_eq xb.sys xb.u64) (q_repr xb T.z_repr (qv 14)) (q_repr xb T.z_repr (pd_lst (qa (qv 3) (qa (qv 8) (qa (qv 2) (pda_nil))))))))))
    (sds_nil)))))))))))))))
noncomputable def d__law_note_4 : TSD :=
  tFrzD 3 (tFrzD 2 (tFrzD 1 (tSeqD (tRetD (tTupD (tConsD (tVarD 1) (tConsD (tVarD 2) (tConsD (tVarD 3) (tConsD (tFn 2 sp__law_pick (tConsD (tVarD 0) (tConsD (tLstD (tConsD (tConD (.int 1)) (tConsD (tConD (.int 999)) (tConsD (tBinD gAdd (tConD (.int 1)) (tFn 2 sp__law_draw (tConsD (tVarD 0) (tConsD (tConD (.int 4)) (tNilD))))) (tConsD (tBinD gAdd (tConD (.int 1)) (tFn 2 sp__law_draw (tConsD (tVarD 0) (tConsD (tConD (.int 999)) (tNilD))))) (tNilD)))))) (tNilD)))) (tNilD)))))))
  (tNxD))))
noncomputable def d__law_note_3 : TSD :=
  tSeqD (tSetD 3 (tFn 2 sp__law_pick (tConsD (tVarD 0) (tConsD (tLstD (tConsD (tConD (.int 0)) (tConsD (tConD (.int 7)) (tConsD (tFn 2 sp__law_draw (tConsD (tVarD 0) (tConsD (tConD (.int 3)) (tNilD)))) (tConsD (tFn 2 sp__law_draw (tConsD (tVarD 0) (tConsD (tConD (.int 3)) (tNilD)))) (tConsD (tFn 2 sp__law_draw (tConsD (tVarD 0) (tConsD (tConD (.int 8)) (tNilD)))) (tNilD))))))) (tNilD)))))
  (d__law_note_4)
noncomputable def d__law_note_2 : TSD :=
  tSeqD (tSetD 2 (tFn 2 sp__law_pick (tConsD (tVarD 0) (tConsD (tLstD (tConsD (tConD (.int 0)) (tConsD (tConD (.int 127)) (tConsD (tBinD gAdd (tConD (.int 60)) (tFn 2 sp__law_draw (tConsD (tVarD 0) (tConsD (tConD (.int 5)) (tNilD))))) (tConsD (tBinD gAdd (tConD (.int 60)) (tFn 2 sp__law_draw (tConsD (tVarD 0) (tConsD (tConD (.int 5)) (tNilD))))) (tConsD (tFn 2 sp__law_draw (tConsD (tVarD 0) (tConsD (tConD (.int 128)) (tNilD)))) (tNilD))))))) (tNilD)))))
  (d__law_note_3)
noncomputable def d__law_note : TSD :=
  tSeqD (tSetD 1 (tFn 2 sp__law_pick (tConsD (tVarD 0) (tConsD (tLstD (tConsD (tConD (.int 0)) (tConsD (tConD (.int 9999)) (tConsD (tFn 2 sp__law_draw (tConsD (tVarD 0) (tConsD (tConD (.int 12)) (tNilD)))) (tConsD (tFn 2 sp__law_draw (tConsD (tVarD 0) (tConsD (tConD (.int 12)) (tNilD)))) (tConsD (tFn 2 sp__law_draw (tConsD (tVarD 0) (tConsD (tConD (.int 10000)) (tNilD)))) (tNilD))))))) (tNilD)))))
  (d__law_note_2)
theorem b__law_note (T : Tx K mg) (kin : K.In base) (F__law_draw : FnAt P w K mg base bx1 1 "_law_draw" 2 p__law_draw sp__law_draw) (F__law_pick : FnAt P w K mg base bx1 2 "_law_pick" 2 p__law_pick sp__law_pick) {f : Addr} {cdv : Value} {A : Around} {outer : List Env} {s : Shared} {H : Hp} {E : XK} (hr : Room 2 (A.deeper (envOfC "_law_note" (defScope s__law_note) s.heap.objs.size f cdv))) (hg : A.guards = some []) : PSsD bx1 (cxOf (L2.CX P w) P w K mg base N__law_note "_law_note" (defScope s__law_note) f cdv A outer s H E) (WOf E) (defBody s__law_note) d__law_note := by
  have xb := XB.ofDef (P := P) (w := w) (mg := mg) (base := base) (E := E) (outer := outer) (H := H) sc__law_note.nd hr hg T.sys kin
  exact sds_cons (q_set 1 xb (q_fn xb F__law_pick (qa (qv 0) (qa (pd_lst (qa (pd_int) (qa (pd_int) (qa (q_fn xb F__law_draw (qa (qv 0) (qa (pd_int) (pda_nil)))) (qa (q_fn xb F__law_draw (qa (qv 0) (qa (pd_int) (pda_nil)))) (qa (q_fn xb F__law_draw (qa (qv 0) (qa (pd_int) (pda_nil)))) (pda_nil))))))) (pda_nil)))))
    (sds_cons (q_set 2 xb (q_fn xb F__law_pick (qa (qv 0) (qa (pd_lst (qa (pd_int) (qa (pd_int) (qa (pd_bin od_add (pd_int) (q_fn xb F__law_draw (qa (qv 0) (qa (pd_int) (pda_nil))))) (qa (pd_bin od_add (pd_int) (q_fn xb F__law_draw (qa (qv 0) (qa (pd_int) (pda_nil))))) (qa (q_fn xb F__law_draw (qa (qv 0) (qa (pd_int) (pda_nil)))) (pda_nil))))))) (pda_nil)))))
    (sds_cons (q_set 3 xb (q_fn xb F__law_pick (qa (qv 0) (qa (pd_lst (qa (pd_int) (qa (pd_int) (qa (q_fn xb F__law_draw (qa (qv 0) (qa (pd_int) (pda_nil)))) (qa (q_fn xb F__law_draw (qa (qv 0) (qa (pd_int) (pda_nil)))) (qa (q_fn xb F__law_draw (qa (qv 0) (qa (pd_int) (pda_nil)))) (pda_nil))))))) (pda_nil)))))
    (sds_frz (i := 3) (sds_frz (i := 2) (sds_frz (i := 1) (sds_cons (sd_ret (pd_tup (qa (qv 1) (qa (qv 2) (qa (qv 3) (qa (q_fn xb F__law_pick (qa (qv 0) (qa (pd_lst (qa (pd_int) (qa (pd_int) (qa (pd_bin od_add (pd_int) (q_fn xb F__law_draw (qa (qv 0) (qa (pd_int) (pda_nil))))) (qa (pd_bin od_add (pd_int) (q_fn xb F__law_draw (qa (qv 0) (qa (pd_int) (pda_nil))))) (pda_nil)))))) (pda_nil)))) (pda_nil)))))))
    (sds_nil)))))))
noncomputable def d__law_score_I1_2 : TSD :=
  tSeqD (tSetD 5 (tBinD gAdd (tBinD gAdd (tSlD (tVarD 3) (tNoO) (tSomeO (tVarD 6))) (tSlD (tVarD 5) (tSomeO (tVarD 6)) (tSomeO (tBinD gAdd (tVarD 6) (tConD (.int 1)))))) (tSlD (tVarD 3) (tSomeO (tBinD gAdd (tVarD 6) (tConD (.int 1)))) (tNoO))))
  (tNxD)
noncomputable def d__law_score_L1_4 : TSD :=
  tSeqD (tStoT 2 (tBinD gIx (tVarD 3) (tConD (.int 3))) (tSlD (tVarD 3) (tNoO) (tSomeO (tConD (.int 3)))))
  (tNxD)
noncomputable def d__law_score_L1_3 : TSD :=
  tFrzD 5 (tSeqD (tSetD 3 (tVarD 5))
  (d__law_score_L1_4))
noncomputable def d__law_score_L1_2 : TSD :=
  tSeqD (tIfD (tBinD gEq (tFn 2 sp__law_draw (tConsD (tVarD 0) (tConsD (tConD (.int 2)) (tNilD)))) (tConD (.int 0))) (tSeqD (tSetD 6 (tFn 2 sp__law_draw (tConsD (tVarD 0) (tConsD (tConD (.int 3)) (tNilD)))))
  (d__law_score_I1_2)) (tNxD))
  (d__law_score_L1_3)
noncomputable def d__law_score_L1 : TSD :=
  tSeqD (tSetD 5 (tFn 1 sp__law_note (tConsD (tVarD 0) (tNilD))))
  (d__law_score_L1_2)
noncomputable def d__law_score_3 : TSD :=
  tSeqD (tRetD (tCallB gTuple (tConsU (tLcD (tItVD false (tCallB gSorted (tConsU (tListT 2) tNilU))) (gNmD 7) (tYesD) (tBinD gAdd (tVarD 7) (tTupD (tConsD (tIxT 2 (tVarD 7)) (tNilD)))) [7]) tNilU)))
  (tNxD)
noncomputable def d__law_score_2 : TSD :=
  tSeqD (tForD (tRng1 (tConsU (tVarD 1) (tNilU))) (gNmD 4) (d__law_score_L1))
  (d__law_score_3)
noncomputable def d__law_score : TSD :=
  tSeqD (tParD 2 3 (tConsO (tDicT) (tConsO (tFn 1 sp__law_note (tConsD (tVarD 0) (tNilD))) (tNilD))))
  (d__law_score_2)
theorem b__law_score (T : Tx K mg) (kin : K.In base) (F__law_draw : FnAt P w K mg base bx1 1 "_law_draw" 2 p__law_draw sp__law_draw) (F__law_note : FnAt P w K mg base bx1 3 "_law_note" 1 p__law_note sp__law_note) {f : Addr} {cdv : Value} {A : Around} {outer : List Env} {s : Shared} {H : Hp} {E : XK} (hr : Room 3 (A.deeper (envOfC "_law_score" (defScope s__law_score) s.heap.objs.size f cdv))) (hg : A.guards = some []) : PSsD bx1 (cxOf (L2.CX P w) P w K mg base N__law_score "_law_score" (defScope s__law_score) f cdv A outer s H E) (WOf E) (defBody s__law_score) d__law_score := by
  have xb := XB.ofDef (P := P) (w := w) (mg := mg) (base := base) (E := E) (outer := outer) (H := H) sc__law_score.nd hr hg T.sys kin
  exact sds_cons (q_parC 2 3 xb (qo (pd_dicT) (qo (q_fn xb F__law_note (qa (qv 0) (pda_nil))) (pdo_nil))))
    (sds_cons (q_for [4] xb (q_rng1 T.z_range (qu (qv 1) (pdu_nil))) (qgn 4 xb) (sds_cons (q_set 5 xb (q_fn xb F__law_note (qa (qv 0) (pda_nil))))
    (sds_cons (sd_if (qtcmp (od_eq xb.sys xb.u64) (q_fn xb F__law_draw (qa (qv 0) (qa (pd_int) (pda_nil)))) (pd_int)) (sds_cons (q_set 6 xb (q_fn xb F__law_draw (qa (qv 0) (qa (pd_int) (pda_nil)))))
    (sds_cons (q_set 5 xb (pd_bin od_add (pd_bin od_add (pd_sl (qv 3) (pdo_none) (pdo_some (qv 6))) (pd_sl (qv 5) (pdo_some (qv 6)) (pdo_some (pd_bin od_add (qv 6) (pd_int))))) (pd_sl (qv 3) (pdo_some (pd_bin od_add (qv 6) (pd_int))) (pdo_none))))
    (sds_nil))) (sds_nil))
    (sds_frz (i := 5) (sds_cons (q_set 3 xb (qv 5))
    (sds_cons (q_stoT (i := 2) xb (q_ix xb (qv 3) (pd_int)) (pd_sl (qv 3) (pdo_none) (pdo_some (pd_int))))
    (sds_nil)))))))
    (sds_cons (sd_ret (q_tuple T.z_tuple (q_lc [("three", 7)] xb (pid_seq (q_sorted xb T.z_sorted (q_listT (i := 2) xb T.z_list))) (fun _ _ _ _ _ xbb => ⟨qgn 7 xbb, ptd_nil, pd_bin od_add (qv 7) (pd_tup (qa (q_ixT (i := 2) xbb (qv 7)) (pda_nil)))⟩))))
    (sds_nil)))
noncomputable def d_law_L1_4 : TSD :=
  tFrzD 1 (tSeqD (tIfD (tAndD (tBinD gEq (tVarD 2) (tConD (.int 5))) (tNotD (tFn 2 sp__law_is_right (tConsD (tVarD 1) (tConsD (tVarD 4) (tNilD)))))) (tSeqD (tRetD (tConD (.bool false)))
  (tNxD)) (tNxD))
  (tNxD))
noncomputable def d_law_L1_3 : TSD :=
  tFrzD 1 (tSeqD (tSetD 4 (tCallB gTuple (tConsU (tLcD (tRng1 (tConsU (tBinD gAdd (tConD (.int 1)) (tFn 2 sp__law_draw (tConsD (tVarD 1) (tConsD (tConD (.int 8)) (tNilD))))) (tNilU))) (gNmD 5) (tYesD) (tTupD (tConsD (tConD (.int 4)) (tConsD (tBinD gAdd (tConD (.int 60)) (tBinD gFdiv (tVarD 5) (tConD (.int 4)))) (tConsD (tBinD gMod (tCallB gInt (tConsU (tVarD 5) tNilU)) (tConD (.int 4))) (tConsD (tConD (.int 1)) (tNilD)))))) [5]) tNilU)))
  (d_law_L1_4))
noncomputable def d_law_L1_2 : TSD :=
  tFrzD 3 (tFrzD 1 (tSeqD (tIfD (tNotD (tFn 2 sp__law_is_right (tConsD (tVarD 1) (tConsD (tVarD 3) (tNilD))))) (tSeqD (tRetD (tConD (.bool false)))
  (tNxD)) (tNxD))
  (d_law_L1_3)))
noncomputable def d_law_L1 : TSD :=
  tFrzD 1 (tSeqD (tSetD 3 (tFn 2 sp__law_score (tConsD (tVarD 1) (tConsD (tVarD 2) (tNilD)))))
  (d_law_L1_2))
noncomputable def d_law_2 : TSD :=
  tSeqD (tRetD (tBinD gEq (tCallB gRepr (tConsU (tLstD (tConsD (tFn 1 sp_points_of (tConsD (tTupD (tNilD)) (tNilD))) (tConsD (tFn 1 sp_voices_of (tConsD (tTupD (tNilD)) (tNilD))) (tConsD (tFn 2 sp_notes_at (tConsD (tTupD (tNilD)) (tConsD (tTupD (tConsD (tConD (.int 0)) (tConsD (tConD (.int 0)) (tNilD)))) (tNilD)))) (tNilD))))) tNilU)) (tCallB gRepr (tConsU (tLstD (tConsD (tTupD (tNilD)) (tConsD (tTupD (tNilD)) (tConsD (tTupD (tNilD)) (tNilD))))) tNilU))))
  (tNxD)
noncomputable def d_law : TSD :=
  tFrzD 1 (tSeqD (tForD (tItVD true (tLstD (tConsD (tFn 2 sp__law_draw (tConsD (tVarD 1) (tConsD (tConD (.int 3)) (tNilD)))) (tConsD (tConD (.int 5)) (tConsD (tConD (.int 9)) (tConsD (tConD (.int 14)) (tNilD))))))) (gNmD 2) (d_law_L1))
  (d_law_2))
theorem b_law (T : Tx K mg) (kin : K.In base) (F_points_of : FnAt P w K mg base bx1 1 "points_of" 1 p_points_of sp_points_of) (F_voices_of : FnAt P w K mg base bx1 1 "voices_of" 1 p_voices_of sp_voices_of) (F_notes_at : FnAt P w K mg base bx1 1 "notes_at" 2 p_notes_at sp_notes_at) (F__law_box : FnAt P w K mg base bx1 1 "_law_box" 1 p__law_box sp__law_box) (F__law_draw : FnAt P w K mg base bx1 1 "_law_draw" 2 p__law_draw sp__law_draw) (F__law_score : FnAt P w K mg base bx1 4 "_law_score" 2 p__law_score sp__law_score) (F__law_is_right : FnAt P w K mg base bx1 2 "_law_is_right" 2 p__law_is_right sp__law_is_right) {f : Addr} {cdv : Value} {A : Around} {outer : List Env} {s : Shared} {H : Hp} {E : XK} (hr : Room 4 (A.deeper (envOfC "law" (defScope s_law) s.heap.objs.size f cdv))) (hg : A.guards = some []) : ∃ s0 rest, defBody s_law = s0 :: rest ∧ PSD bx1 (cxOf (L2.CX P w) P w K mg base N_law "law" (defScope s_law) f cdv A outer s H E) (WOf E) s0 (tSetD 1 (tFn 1 sp__law_box (tConsD (tVarD 0) (tNilD)))) ∧ PSsD bx1 (cxOf (L2.CX P w) P w K mg base N_law "law" (defScope s_law) f cdv A outer s H E) (WOf E) rest d_law := by
  have xb := XB.ofDef (P := P) (w := w) (mg := mg) (base := base) (E := E) (outer := outer) (H := H) sc_law.nd hr hg T.sys kin
  exact ⟨_, _, rfl, q_set 1 xb (q_fn xb F__law_box (qa (qv 0) (pda_nil))), sds_frz (i := 1) (sds_cons (q_for [2] xb (pid_seq (pd_lst (qa (q_fn xb F__law_draw (qa (qv 1) (qa (pd_int) (pda_nil)))) (qa (pd_int) (qa (pd_int) (qa (pd_int) (pda_nil))))))) (qgn 2 xb) (sds_frz (i := 1) (sds_cons (q_set 3 xb (q_fn xb F__law_score (qa (qv 1) (qa (qv 2) (pda_nil)))))
    (sds_frz (i := 3) (sds_frz (i := 1) (sds_cons (sd_if (pdt_not (qtv (q_fn xb F__law_is_right (qa (qv 1) (qa (qv 3) (pda_nil)))))) (sds_cons (sd_ret (pd_bl))
    (sds_nil)) (sds_nil))
    (sds_frz (i := 1) (sds_cons (q_set 4 xb (q_tuple T.z_tuple (q_lc [("place", 5)] xb (q_rng1 T.z_range (qu (pd_bin od_add (pd_int) (q_fn xb F__law_draw (qa (qv 1) (qa (pd_int) (pda_nil))))) (pdu_nil))) (fun _ _ _ _ _ xbb => ⟨qgn 5 xbb, ptd_nil, pd_tup (qa (pd_int) (qa (pd_bin od_add (pd_int) (pd_bin od_fdiv (qv 5) (pd_int))) (qa (pd_bin od_mod (q_int T.z_int (qv 5)) (pd_int)) (qa (pd_int) (pda_nil)))))⟩))))
    (sds_frz (i := 1) (sds_cons (sd_if (PW.pt (pdt_and (qtcmp (od_eq xb.sys xb.u64) (qv 2) (pd_int)) (pdt_and1 (pdt_not (qtv (q_fn xb F__law_is_right (qa (qv 1) (qa (qv 4) (pda_nil))))))))) (sds_cons (sd_ret (pd_bl))
    (sds_nil)) (sds_nil))
    (sds_nil)))))))))))
    (sds_cons (sd_ret (qcmp (od_eq xb.sys xb.u64) (q_repr xb T.z_repr (pd_lst (qa (q_fn xb F_points_of (qa (pd_tup (pda_nil)) (pda_nil))) (qa (q_fn xb F_voices_of (qa (pd_tup (pda_nil)) (pda_nil))) (qa (q_fn xb F_notes_at (qa (pd_tup (pda_nil)) (qa (pd_tup (qa (pd_int) (qa (pd_int) (pda_nil)))) (pda_nil)))) (pda_nil)))))) (q_repr xb T.z_repr (pd_lst (qa (pd_tup (pda_nil)) (qa (pd_tup (pda_nil)) (qa (pd_tup (pda_nil)) (pda_nil))))))))
    (sds_nil)))⟩
theorem b__law_draw (T : Tx K mg) (kin : K.In base) {f : Addr} {cdv : Value} {A : Around} {outer : List Env} {s : Shared} {H : Hp} {E : XK} (hr : Room 0 (A.deeper (envOfC "_law_draw" (defScope s__law_draw) s.heap.objs.size f cdv))) (hg : A.guards = some []) : PSs (cxOf (L2.CX P w) P w K mg base N__law_draw "_law_draw" (defScope s__law_draw) f cdv A outer s H E) (defBody s__law_draw) (tDr1 (cxOf (L2.CX P w) P w K mg base N__law_draw "_law_draw" (defScope s__law_draw) f cdv A outer s H E) (WOf E)) := by
  have xb := XB.ofDef (P := P) (w := w) (mg := mg) (base := base) (E := E) (outer := outer) (H := H) sc__law_draw.nd hr hg T.sys kin
  exact pss_cons (ps_set (i := 2) sc__law_draw.nd rfl (.inl rfl) (pe_dget xb.u1 (pv 0) pe_str (fun _ _ => rfl)))
    (pss_cons (ps_if (qtcmp (od_ne xb.sys xb.u64) (qv 2) (pd_lst pda_nil))
      (pss_cons (ps_set (i := 3) sc__law_draw.nd rfl (.inl rfl) (q_ix xb (qv 2) pd_int))
      (pss_cons (ps_asg (pd_bin od_fdiv (qv 3) (qv 1)) (pg_sub (pv 2) pe_int set_list))
      (pss_cons (ps_if (qtcmp (od_lt xb.sys xb.u64) (qv 3) (qv 1)) (pss_cons (ps_expr (pe_bm PySem.F.plainAttrs_list PySem.F.slot_list_pop PySem.F.type_list_pop mt_popAt (pv 2) (pa_cons pe_int pa_nil))) pss_nil) pss_nil)
      (pss_cons (ps_ret (pd_bin od_mod (q_int T.z_int (qv 3)) (qv 1))) pss_nil)))) pss_nil)
    (pss_cons (ps_set (i := 4) sc__law_draw.nd rfl (.inl rfl) (pd_bin od_add (q_ix xb (qv 0) pd_str) pd_int))
    (pss_cons (ps_asg (qv 4) (pg_sub (pv 0) pe_str (set_dict xb.u1)))
    (pss_cons (ps_set (i := 5) sc__law_draw.nd rfl (.inl rfl) (pd_bin od_mod (q_int T.z_int (pd_bin od_add (q_ix xb (qv 0) pd_str) (pd_bin od_mul pd_int (qv 4)))) pd_int))
    (pss_cons (ps_set (i := 5) sc__law_draw.nd rfl (.inl rfl) (pd_bin od_mod (q_int T.z_int (pd_bin od_add (pd_bin od_add (pd_bin od_mul (qv 5) (qv 5)) (pd_bin od_mul pd_int (qv 4))) pd_int)) pd_int))
    (pss_cons (ps_set (i := 5) sc__law_draw.nd rfl (.inl rfl) (pd_bin od_mod (q_int T.z_int (pd_bin od_add (pd_bin od_mul (qv 5) (qv 5)) (q_ix xb (qv 0) pd_str))) pd_int))
    (pss_cons (ps_ret (pd_bin od_mod (q_int T.z_int (pd_bin od_fdiv (qv 5) pd_int)) (qv 1))) pss_nil)))))))
end

theorem h_points_of : ∀ rs Q Ex, rs.length = 1 → sp_points_of rs Q Ex → d_points_of (fnEnds Q Ex) (startD 2 rs) := by
  rintro rs Q Ex - ⟨ns, rfl, hl, q⟩
  show d_points_of (fnEnds Q Ex) [some (.d (.tuple (ns.map eN))), none]
  simp only [d_points_of, ↓w_seq, ↓w_set, ↓w_ret, ↓w_retN, ↓w_retV, ↓w_if, ↓w_drop, ↓w_asg, ↓w_par, ↓w_par3, ↓w_nx, ↓w_bk, ↓w_ct, ↓w_frz, ↓w_for, ↓w_app, ↓w_ext, ↓w_bin, ↓w_un, ↓w_var, ↓w_con, ↓w_callB, ↓w_nilU, ↓w_consU, ↓w_consS, ↓w_nilD, ↓w_consD, ↓w_consO, ↓w_tup, ↓w_lst, ↓w_dic0, ↓w_and, ↓w_or, ↓w_not, ↓w_ite, ↓w_chain, ↓w_isa, ↓w_fn, ↓w_fnK, ↓w_sl, ↓w_noO, ↓w_someO, ↓w_yes, ↓w_tst, ↓w_lc, ↓w_it, ↓w_enum, ↓w_zip, ↓w_rng1, ↓w_rng2, ↓w_never, ↓w_kNil, ↓w_kCons, ↓w_disp, ↓w_mg0, ↓w_mg1, ↓w_put0, ↓w_keyS, ↓w_keyI, ↓w_sset, ↓w_dicT, ↓w_inT, ↓w_ixT, ↓w_listT, ↓w_stoT, ↓w_stoU, ↓w_enDt, ↓w_onDt, ↓w_enOw, ↓w_onOw, ↓w_stoL, ↓w_stoD, ↓w_enZ, ↓g_min2, ↓g_minL, ↓g_minT, ↓g_max2, ↓g_maxL, ↓g_maxT, ↓g_sum, ↓g_all, ↓g_any, ↓v_use_d, ↓v_arg_d, ↓v_sto_d, ↓v_rd_d, ↓v_frz_d, ↓v_src_d, ↓v_use_own, ↓v_arg_own, ↓v_sto_own, ↓v_rd_own, ↓v_src_own, ↓v_use_bor, ↓v_arg_bor, ↓v_sto_bor, ↓v_rd_bor, ↓v_frz_bor, ↓v_src_bor, ↓v_use_scr, ↓v_arg_scr, ↓v_sto_scr, ↓v_rd_scr, ↓v_frz_scr, ↓v_src_scr, ↓v_use_box, ↓v_arg_box, ↓v_sto_box, ↓v_rd_box, ↓v_frz_box, ↓v_src_box, ↓v_bl, ↓v_frz_L, ↓v_frz_D, ↓v_frz_T, ↓v_rd_L, ↓v_rd_D, ↓v_dat_l, ↓v_dat_d, ↓v_onD, ↓v_onI, ↓v_onL, ↓v_on1, ↓v_on2, ↓v_on3, ↓v_all0, ↓v_all1, ↓v_seqL, ↓v_seqT, ↓v_gNm, ↓v_gNil, ↓v_gCons, ↓v_gTup, ↓g_add, ↓g_addS, ↓g_addT, ↓g_addL, ↓g_sub, ↓g_mul, ↓g_fdiv, ↓g_mod, ↓g_pow, ↓g_eq, ↓g_ne, ↓g_lt, ↓g_gt, ↓g_le, ↓g_ge, ↓g_ltT, ↓g_gtT, ↓g_leT, ↓g_geT, ↓g_inT, ↓g_inL, ↓g_is, ↓g_neg, ↓g_not, ↓g_lenL, ↓g_lenT, ↓g_lenD, ↓g_intI, ↓g_intB, ↓g_abs, ↓g_gcd, ↓g_repr, ↓g_listL, ↓g_listT, ↓g_tupL, ↓g_tupT, ↓g_ixL0, ↓g_ixL1, ↓g_ixL2, ↓g_ixL3, ↓g_ixT0, ↓g_ixT1, ↓g_ixT2, ↓g_ixT3, ↓g_ixL, ↓g_ixT, ↓g_slL, ↓g_slT, ↓g_revL, ↓g_revT, n_non, n_int, n_tup, n_str, n_bl, n_lst, ↓n_enLst, ↓n_onOwn, ↓en0, ↓enS, eqOk_int, eqOk_str, eqv_int, eqv_str, exists_eq_left', atI0, atI1, atI2, atI3, isa, Int.cast_ofNat_Int, List.length_cons, List.length_nil, List.set_cons_zero, List.set_cons_succ, Option.some.injEq, true_and, and_true, if_true, if_false, Bool.not_true, Bool.not_false, Bool.xor_false, Bool.false_xor, Bool.true_xor, decide_eq_true_eq, Bool.not_eq_true', decide_eq_false_iff_not, Nat.reduceAdd, Nat.zero_add, w_err, fnEnds, shaped_c0, shaped_c1, shaped_c2, shaped_c3, List.map_cons, List.map_nil, Bool.false_eq_true, reduceIte, decide_true, decide_false, Bool.not_eq_true, decide_not, Bool.not_not, ne_eq, Nat.reduceLeDiff, sizeBig, Int.reduceAbs, Int.reduceLE, Int.reduceLT, Int.reduceAdd, Int.reduceSub, Int.reduceMul, Int.reduceNeg, Int.reduceToNat, Int.reducePow, Int.reduceEq, Nat.reducePow, Nat.reduceLT, ofString_inj, String.reduceEq, shaped_lit, shaped_int, shaped_bool, shaped_none, sm_lt, mb_lit_l, mb_lit_r, ↓w_pick, ↓w_pickT, ↓w_draw, w_wipe0, w_wipe1, List.nil_append, List.cons_append, reduceCtorEq, Bool.true_eq_false, eq_self, not_true_eq_false, not_false_eq_true, List.any_cons, List.any_nil, Bool.or_false, Bool.false_or, Bool.or_true, Bool.true_or, Bool.and_true, Bool.true_and, Bool.and_false, Bool.false_and, ↓sp__law_draw, ↓sp__law_pick, gKw_0_ap, gKw_1_0_ap]
  refine lc_det eN (fun n => some (eP n.pt)) ns [] (by rw [sizeLine_eq, List.length_nil]; omega) (fun n _ K hK => ?_) ?_
  · simp only [lcStep, eN, ↓w_seq, ↓w_set, ↓w_ret, ↓w_retN, ↓w_retV, ↓w_if, ↓w_drop, ↓w_asg, ↓w_par, ↓w_par3, ↓w_nx, ↓w_bk, ↓w_ct, ↓w_frz, ↓w_for, ↓w_app, ↓w_ext, ↓w_bin, ↓w_un, ↓w_var, ↓w_con, ↓w_callB, ↓w_nilU, ↓w_consU, ↓w_consS, ↓w_nilD, ↓w_consD, ↓w_consO, ↓w_tup, ↓w_lst, ↓w_dic0, ↓w_and, ↓w_or, ↓w_not, ↓w_ite, ↓w_chain, ↓w_isa, ↓w_fn, ↓w_fnK, ↓w_sl, ↓w_noO, ↓w_someO, ↓w_yes, ↓w_tst, ↓w_lc, ↓w_it, ↓w_enum, ↓w_zip, ↓w_rng1, ↓w_rng2, ↓w_never, ↓w_kNil, ↓w_kCons, ↓w_disp, ↓w_mg0, ↓w_mg1, ↓w_put0, ↓w_keyS, ↓w_keyI, ↓w_sset, ↓w_dicT, ↓w_inT, ↓w_ixT, ↓w_listT, ↓w_stoT, ↓w_stoU, ↓w_enDt, ↓w_onDt, ↓w_enOw, ↓w_onOw, ↓w_stoL, ↓w_stoD, ↓w_enZ, ↓g_min2, ↓g_minL, ↓g_minT, ↓g_max2, ↓g_maxL, ↓g_maxT, ↓g_sum, ↓g_all, ↓g_any, ↓v_use_d, ↓v_arg_d, ↓v_sto_d, ↓v_rd_d, ↓v_frz_d, ↓v_src_d, ↓v_use_own, ↓v_arg_own, ↓v_sto_own, ↓v_rd_own, ↓v_src_own, ↓v_use_bor, ↓v_arg_bor, ↓v_sto_bor, ↓v_rd_bor, ↓v_frz_bor, ↓v_src_bor, ↓v_use_scr, ↓v_arg_scr, ↓v_sto_scr, ↓v_rd_scr, ↓v_frz_scr, ↓v_src_scr, ↓v_use_box, ↓v_arg_box, ↓v_sto_box, ↓v_rd_box, ↓v_frz_box, ↓v_src_box, ↓v_bl, ↓v_frz_L, ↓v_frz_D, ↓v_frz_T, ↓v_rd_L, ↓v_rd_D, ↓v_dat_l, ↓v_dat_d, ↓v_onD, ↓v_onI, ↓v_onL, ↓v_on1, ↓v_on2, ↓v_on3, ↓v_all0, ↓v_all1, ↓v_seqL, ↓v_seqT, ↓v_gNm, ↓v_gNil, ↓v_gCons, ↓v_gTup, ↓g_add, ↓g_addS, ↓g_addT, ↓g_addL, ↓g_sub, ↓g_mul, ↓g_fdiv, ↓g_mod, ↓g_pow, ↓g_eq, ↓g_ne, ↓g_lt, ↓g_gt, ↓g_le, ↓g_ge, ↓g_ltT, ↓g_gtT, ↓g_leT, ↓g_geT, ↓g_inT, ↓g_inL, ↓g_is, ↓g_neg, ↓g_not, ↓g_lenL, ↓g_lenT, ↓g_lenD, ↓g_intI, ↓g_intB, ↓g_abs, ↓g_gcd, ↓g_repr, ↓g_listL, ↓g_listT, ↓g_tupL, ↓g_tupT, ↓g_ixL0, ↓g_ixL1, ↓g_ixL2, ↓g_ixL3, ↓g_ixT0, ↓g_ixT1, ↓g_ixT2, ↓g_ixT3, ↓g_ixL, ↓g_ixT, ↓g_slL, ↓g_slT, ↓g_revL, ↓g_revT, n_non, n_int, n_tup, n_str, n_bl, n_lst, ↓n_enLst, ↓n_onOwn, ↓en0, ↓enS, eqOk_int, eqOk_str, eqv_int, eqv_str, exists_eq_left', atI0, atI1, atI2, atI3, isa, Int.cast_ofNat_Int, List.length_cons, List.length_nil, List.set_cons_zero, List.set_cons_succ, Option.some.injEq, true_and, and_true, if_true, if_false, Bool.not_true, Bool.not_false, Bool.xor_false, Bool.false_xor, Bool.true_xor, decide_eq_true_eq, Bool.not_eq_true', decide_eq_false_iff_not, Nat.reduceAdd, Nat.zero_add, w_err, fnEnds, shaped_c0, shaped_c1, shaped_c2, shaped_c3, List.map_cons, List.map_nil, Bool.false_eq_true, reduceIte, decide_true, decide_false, Bool.not_eq_true, decide_not, Bool.not_not, ne_eq, Nat.reduceLeDiff, sizeBig, Int.reduceAbs, Int.reduceLE, Int.reduceLT, Int.reduceAdd, Int.reduceSub, Int.reduceMul, Int.reduceNeg, Int.reduceToNat, Int.reducePow, Int.reduceEq, Nat.reducePow, Nat.reduceLT, ofString_inj, String.reduceEq, shaped_lit, shaped_int, shaped_bool, shaped_none, sm_lt, mb_lit_l, mb_lit_r, ↓w_pick, ↓w_pickT, ↓w_draw, w_wipe0, w_wipe1, List.nil_append, List.cons_append, reduceCtorEq, Bool.true_eq_false, eq_self, not_true_eq_false, not_false_eq_true, List.any_cons, List.any_nil, Bool.or_false, Bool.false_or, Bool.or_true, Bool.true_or, Bool.and_true, Bool.true_and, Bool.and_false, Bool.false_and, ↓sp__law_draw, ↓sp__law_pick, gKw_0_ap, gKw_1_0_ap, cutT0, cutT1, cutT2, cutT3, cutT4, cutF0, cutF1, cutF2, cutF3, cutF4, List.take_succ_cons, List.take_zero, List.take_nil, List.drop_succ_cons, List.drop_zero, List.drop_nil]
    exact hK
  · rw [List.filterMap_eq_map']
    simp only [↓w_seq, ↓w_set, ↓w_ret, ↓w_retN, ↓w_retV, ↓w_if, ↓w_drop, ↓w_asg, ↓w_par, ↓w_par3, ↓w_nx, ↓w_bk, ↓w_ct, ↓w_frz, ↓w_for, ↓w_app, ↓w_ext, ↓w_bin, ↓w_un, ↓w_var, ↓w_con, ↓w_callB, ↓w_nilU, ↓w_consU, ↓w_consS, ↓w_nilD, ↓w_consD, ↓w_consO, ↓w_tup, ↓w_lst, ↓w_dic0, ↓w_and, ↓w_or, ↓w_not, ↓w_ite, ↓w_chain, ↓w_isa, ↓w_fn, ↓w_fnK, ↓w_sl, ↓w_noO, ↓w_someO, ↓w_yes, ↓w_tst, ↓w_lc, ↓w_it, ↓w_enum, ↓w_zip, ↓w_rng1, ↓w_rng2, ↓w_never, ↓w_kNil, ↓w_kCons, ↓w_disp, ↓w_mg0, ↓w_mg1, ↓w_put0, ↓w_keyS, ↓w_keyI, ↓w_sset, ↓w_dicT, ↓w_inT, ↓w_ixT, ↓w_listT, ↓w_stoT, ↓w_stoU, ↓w_enDt, ↓w_onDt, ↓w_enOw, ↓w_onOw, ↓w_stoL, ↓w_stoD, ↓w_enZ, ↓g_min2, ↓g_minL, ↓g_minT, ↓g_max2, ↓g_maxL, ↓g_maxT, ↓g_sum, ↓g_all, ↓g_any, ↓v_use_d, ↓v_arg_d, ↓v_sto_d, ↓v_rd_d, ↓v_frz_d, ↓v_src_d, ↓v_use_own, ↓v_arg_own, ↓v_sto_own, ↓v_rd_own, ↓v_src_own, ↓v_use_bor, ↓v_arg_bor, ↓v_sto_bor, ↓v_rd_bor, ↓v_frz_bor, ↓v_src_bor, ↓v_use_scr, ↓v_arg_scr, ↓v_sto_scr, ↓v_rd_scr, ↓v_frz_scr, ↓v_src_scr, ↓v_use_box, ↓v_arg_box, ↓v_sto_box, ↓v_rd_box, ↓v_frz_box, ↓v_src_box, ↓v_bl, ↓v_frz_L, ↓v_frz_D, ↓v_frz_T, ↓v_rd_L, ↓v_rd_D, ↓v_dat_l, ↓v_dat_d, ↓v_onD, ↓v_onI, ↓v_onL, ↓v_on1, ↓v_on2, ↓v_on3, ↓v_all0, ↓v_all1, ↓v_seqL, ↓v_seqT, ↓v_gNm, ↓v_gNil, ↓v_gCons, ↓v_gTup, ↓g_add, ↓g_addS, ↓g_addT, ↓g_addL, ↓g_sub, ↓g_mul, ↓g_fdiv, ↓g_mod, ↓g_pow, ↓g_eq, ↓g_ne, ↓g_lt, ↓g_gt, ↓g_le, ↓g_ge, ↓g_ltT, ↓g_gtT, ↓g_leT, ↓g_geT, ↓g_inT, ↓g_inL, ↓g_is, ↓g_neg, ↓g_not, ↓g_lenL, ↓g_lenT, ↓g_lenD, ↓g_intI, ↓g_intB, ↓g_abs, ↓g_gcd, ↓g_repr, ↓g_listL, ↓g_listT, ↓g_tupL, ↓g_tupT, ↓g_ixL0, ↓g_ixL1, ↓g_ixL2, ↓g_ixL3, ↓g_ixT0, ↓g_ixT1, ↓g_ixT2, ↓g_ixT3, ↓g_ixL, ↓g_ixT, ↓g_slL, ↓g_slT, ↓g_revL, ↓g_revT, n_non, n_int, n_tup, n_str, n_bl, n_lst, ↓n_enLst, ↓n_onOwn, ↓en0, ↓enS, eqOk_int, eqOk_str, eqv_int, eqv_str, exists_eq_left', atI0, atI1, atI2, atI3, isa, Int.cast_ofNat_Int, List.length_cons, List.length_nil, List.set_cons_zero, List.set_cons_succ, Option.some.injEq, true_and, and_true, if_true, if_false, Bool.not_true, Bool.not_false, Bool.xor_false, Bool.false_xor, Bool.true_xor, decide_eq_true_eq, Bool.not_eq_true', decide_eq_false_iff_not, Nat.reduceAdd, Nat.zero_add, w_err, fnEnds, shaped_c0, shaped_c1, shaped_c2, shaped_c3, List.map_cons, List.map_nil, Bool.false_eq_true, reduceIte, decide_true, decide_false, Bool.not_eq_true, decide_not, Bool.not_not, ne_eq, Nat.reduceLeDiff, sizeBig, Int.reduceAbs, Int.reduceLE, Int.reduceLT, Int.reduceAdd, Int.reduceSub, Int.reduceMul, Int.reduceNeg, Int.reduceToNat, Int.reducePow, Int.reduceEq, Nat.reducePow, Nat.reduceLT, ofString_inj, String.reduceEq, shaped_lit, shaped_int, shaped_bool, shaped_none, sm_lt, mb_lit_l, mb_lit_r, ↓w_pick, ↓w_pickT, ↓w_draw, w_wipe0, w_wipe1, List.nil_append, List.cons_append, reduceCtorEq, Bool.true_eq_false, eq_self, not_true_eq_false, not_false_eq_true, List.any_cons, List.any_nil, Bool.or_false, Bool.false_or, Bool.or_true, Bool.true_or, Bool.and_true, Bool.true_and, Bool.and_false, Bool.false_and, ↓sp__law_draw, ↓sp__law_pick, gKw_0_ap, gKw_1_0_ap]
    have e : ns.map (fun n => eP n.pt) = (ns.map Nt.pt).map eP := by rw [List.map_map]; rfl
    rw [e]
    refine sset_pts (by rw [List.length_map]; exact hl) ?_
    simp only [↓w_seq, ↓w_set, ↓w_ret, ↓w_retN, ↓w_retV, ↓w_if, ↓w_drop, ↓w_asg, ↓w_par, ↓w_par3, ↓w_nx, ↓w_bk, ↓w_ct, ↓w_frz, ↓w_for, ↓w_app, ↓w_ext, ↓w_bin, ↓w_un, ↓w_var, ↓w_con, ↓w_callB, ↓w_nilU, ↓w_consU, ↓w_consS, ↓w_nilD, ↓w_consD, ↓w_consO, ↓w_tup, ↓w_lst, ↓w_dic0, ↓w_and, ↓w_or, ↓w_not, ↓w_ite, ↓w_chain, ↓w_isa, ↓w_fn, ↓w_fnK, ↓w_sl, ↓w_noO, ↓w_someO, ↓w_yes, ↓w_tst, ↓w_lc, ↓w_it, ↓w_enum, ↓w_zip, ↓w_rng1, ↓w_rng2, ↓w_never, ↓w_kNil, ↓w_kCons, ↓w_disp, ↓w_mg0, ↓w_mg1, ↓w_put0, ↓w_keyS, ↓w_keyI, ↓w_sset, ↓w_dicT, ↓w_inT, ↓w_ixT, ↓w_listT, ↓w_stoT, ↓w_stoU, ↓w_enDt, ↓w_onDt, ↓w_enOw, ↓w_onOw, ↓w_stoL, ↓w_stoD, ↓w_enZ, ↓g_min2, ↓g_minL, ↓g_minT, ↓g_max2, ↓g_maxL, ↓g_maxT, ↓g_sum, ↓g_all, ↓g_any, ↓v_use_d, ↓v_arg_d, ↓v_sto_d, ↓v_rd_d, ↓v_frz_d, ↓v_src_d, ↓v_use_own, ↓v_arg_own, ↓v_sto_own, ↓v_rd_own, ↓v_src_own, ↓v_use_bor, ↓v_arg_bor, ↓v_sto_bor, ↓v_rd_bor, ↓v_frz_bor, ↓v_src_bor, ↓v_use_scr, ↓v_arg_scr, ↓v_sto_scr, ↓v_rd_scr, ↓v_frz_scr, ↓v_src_scr, ↓v_use_box, ↓v_arg_box, ↓v_sto_box, ↓v_rd_box, ↓v_frz_box, ↓v_src_box, ↓v_bl, ↓v_frz_L, ↓v_frz_D, ↓v_frz_T, ↓v_rd_L, ↓v_rd_D, ↓v_dat_l, ↓v_dat_d, ↓v_onD, ↓v_onI, ↓v_onL, ↓v_on1, ↓v_on2, ↓v_on3, ↓v_all0, ↓v_all1, ↓v_seqL, ↓v_seqT, ↓v_gNm, ↓v_gNil, ↓v_gCons, ↓v_gTup, ↓g_add, ↓g_addS, ↓g_addT, ↓g_addL, ↓g_sub, ↓g_mul, ↓g_fdiv, ↓g_mod, ↓g_pow, ↓g_eq, ↓g_ne, ↓g_lt, ↓g_gt, ↓g_le, ↓g_ge, ↓g_ltT, ↓g_gtT, ↓g_leT, ↓g_geT, ↓g_inT, ↓g_inL, ↓g_is, ↓g_neg, ↓g_not, ↓g_lenL, ↓g_lenT, ↓g_lenD, ↓g_intI, ↓g_intB, ↓g_abs, ↓g_gcd, ↓g_repr, ↓g_listL, ↓g_listT, ↓g_tupL, ↓g_tupT, ↓g_ixL0, ↓g_ixL1, ↓g_ixL2, ↓g_ixL3, ↓g_ixT0, ↓g_ixT1, ↓g_ixT2, ↓g_ixT3, ↓g_ixL, ↓g_ixT, ↓g_slL, ↓g_slT, ↓g_revL, ↓g_revT, n_non, n_int, n_tup, n_str, n_bl, n_lst, ↓n_enLst, ↓n_onOwn, ↓en0, ↓enS, eqOk_int, eqOk_str, eqv_int, eqv_str, exists_eq_left', atI0, atI1, atI2, atI3, isa, Int.cast_ofNat_Int, List.length_cons, List.length_nil, List.set_cons_zero, List.set_cons_succ, Option.some.injEq, true_and, and_true, if_true, if_false, Bool.not_true, Bool.not_false, Bool.xor_false, Bool.false_xor, Bool.true_xor, decide_eq_true_eq, Bool.not_eq_true', decide_eq_false_iff_not, Nat.reduceAdd, Nat.zero_add, w_err, fnEnds, shaped_c0, shaped_c1, shaped_c2, shaped_c3, List.map_cons, List.map_nil, Bool.false_eq_true, reduceIte, decide_true, decide_false, Bool.not_eq_true, decide_not, Bool.not_not, ne_eq, Nat.reduceLeDiff, sizeBig, Int.reduceAbs, Int.reduceLE, Int.reduceLT, Int.reduceAdd, Int.reduceSub, Int.reduceMul, Int.reduceNeg, Int.reduceToNat, Int.reducePow, Int.reduceEq, Nat.reducePow, Nat.reduceLT, ofString_inj, String.reduceEq, shaped_lit, shaped_int, shaped_bool, shaped_none, sm_lt, mb_lit_l, mb_lit_r, ↓w_pick, ↓w_pickT, ↓w_draw, w_wipe0, w_wipe1, List.nil_append, List.cons_append, reduceCtorEq, Bool.true_eq_false, eq_self, not_true_eq_false, not_false_eq_true, List.any_cons, List.any_nil, Bool.or_false, Bool.false_or, Bool.or_true, Bool.true_or, Bool.and_true, Bool.true_and, Bool.and_false, Bool.false_and, ↓sp__law_draw, ↓sp__law_pick, gKw_0_ap, gKw_1_0_ap]
    exact q


theorem h_voices_of : ∀ rs Q Ex, rs.length = 1 → sp_voices_of rs Q Ex → d_voices_of (fnEnds Q Ex) (startD 2 rs) := by
  rintro rs Q Ex - ⟨ns, rfl, hl, hok, q⟩
  show d_voices_of (fnEnds Q Ex) [some (.d (.tuple (ns.map eN))), none]
  simp only [d_voices_of, ↓w_seq, ↓w_set, ↓w_ret, ↓w_retN, ↓w_retV, ↓w_if, ↓w_drop, ↓w_asg, ↓w_par, ↓w_par3, ↓w_nx, ↓w_bk, ↓w_ct, ↓w_frz, ↓w_for, ↓w_app, ↓w_ext, ↓w_bin, ↓w_un, ↓w_var, ↓w_con, ↓w_callB, ↓w_nilU, ↓w_consU, ↓w_consS, ↓w_nilD, ↓w_consD, ↓w_consO, ↓w_tup, ↓w_lst, ↓w_dic0, ↓w_and, ↓w_or, ↓w_not, ↓w_ite, ↓w_chain, ↓w_isa, ↓w_fn, ↓w_fnK, ↓w_sl, ↓w_noO, ↓w_someO, ↓w_yes, ↓w_tst, ↓w_lc, ↓w_it, ↓w_enum, ↓w_zip, ↓w_rng1, ↓w_rng2, ↓w_never, ↓w_kNil, ↓w_kCons, ↓w_disp, ↓w_mg0, ↓w_mg1, ↓w_put0, ↓w_keyS, ↓w_keyI, ↓w_sset, ↓w_dicT, ↓w_inT, ↓w_ixT, ↓w_listT, ↓w_stoT, ↓w_stoU, ↓w_enDt, ↓w_onDt, ↓w_enOw, ↓w_onOw, ↓w_stoL, ↓w_stoD, ↓w_enZ, ↓g_min2, ↓g_minL, ↓g_minT, ↓g_max2, ↓g_maxL, ↓g_maxT, ↓g_sum, ↓g_all, ↓g_any, ↓v_use_d, ↓v_arg_d, ↓v_sto_d, ↓v_rd_d, ↓v_frz_d, ↓v_src_d, ↓v_use_own, ↓v_arg_own, ↓v_sto_own, ↓v_rd_own, ↓v_src_own, ↓v_use_bor, ↓v_arg_bor, ↓v_sto_bor, ↓v_rd_bor, ↓v_frz_bor, ↓v_src_bor, ↓v_use_scr, ↓v_arg_scr, ↓v_sto_scr, ↓v_rd_scr, ↓v_frz_scr, ↓v_src_scr, ↓v_use_box, ↓v_arg_box, ↓v_sto_box, ↓v_rd_box, ↓v_frz_box, ↓v_src_box, ↓v_bl, ↓v_frz_L, ↓v_frz_D, ↓v_frz_T, ↓v_rd_L, ↓v_rd_D, ↓v_dat_l, ↓v_dat_d, ↓v_onD, ↓v_onI, ↓v_onL, ↓v_on1, ↓v_on2, ↓v_on3, ↓v_all0, ↓v_all1, ↓v_seqL, ↓v_seqT, ↓v_gNm, ↓v_gNil, ↓v_gCons, ↓v_gTup, ↓g_add, ↓g_addS, ↓g_addT, ↓g_addL, ↓g_sub, ↓g_mul, ↓g_fdiv, ↓g_mod, ↓g_pow, ↓g_eq, ↓g_ne, ↓g_lt, ↓g_gt, ↓g_le, ↓g_ge, ↓g_ltT, ↓g_gtT, ↓g_leT, ↓g_geT, ↓g_inT, ↓g_inL, ↓g_is, ↓g_neg, ↓g_not, ↓g_lenL, ↓g_lenT, ↓g_lenD, ↓g_intI, ↓g_intB, ↓g_abs, ↓g_gcd, ↓g_repr, ↓g_listL, ↓g_listT, ↓g_tupL, ↓g_tupT, ↓g_ixL0, ↓g_ixL1, ↓g_ixL2, ↓g_ixL3, ↓g_ixT0, ↓g_ixT1, ↓g_ixT2, ↓g_ixT3, ↓g_ixL, ↓g_ixT, ↓g_slL, ↓g_slT, ↓g_revL, ↓g_revT, n_non, n_int, n_tup, n_str, n_bl, n_lst, ↓n_enLst, ↓n_onOwn, ↓en0, ↓enS, eqOk_int, eqOk_str, eqv_int, eqv_str, exists_eq_left', atI0, atI1, atI2, atI3, isa, Int.cast_ofNat_Int, List.length_cons, List.length_nil, List.set_cons_zero, List.set_cons_succ, Option.some.injEq, true_and, and_true, if_true, if_false, Bool.not_true, Bool.not_false, Bool.xor_false, Bool.false_xor, Bool.true_xor, decide_eq_true_eq, Bool.not_eq_true', decide_eq_false_iff_not, Nat.reduceAdd, Nat.zero_add, w_err, fnEnds, shaped_c0, shaped_c1, shaped_c2, shaped_c3, List.map_cons, List.map_nil, Bool.false_eq_true, reduceIte, decide_true, decide_false, Bool.not_eq_true, decide_not, Bool.not_not, ne_eq, Nat.reduceLeDiff, sizeBig, Int.reduceAbs, Int.reduceLE, Int.reduceLT, Int.reduceAdd, Int.reduceSub, Int.reduceMul, Int.reduceNeg, Int.reduceToNat, Int.reducePow, Int.reduceEq, Nat.reducePow, Nat.reduceLT, ofString_inj, String.reduceEq, shaped_lit, shaped_int, shaped_bool, shaped_none, sm_lt, mb_lit_l, mb_lit_r, ↓w_pick, ↓w_pickT, ↓w_draw, w_wipe0, w_wipe1, List.nil_append, List.cons_append, reduceCtorEq, Bool.true_eq_false, eq_self, not_true_eq_false, not_false_eq_true, List.any_cons, List.any_nil, Bool.or_false, Bool.false_or, Bool.or_true, Bool.true_or, Bool.and_true, Bool.true_and, Bool.and_false, Bool.false_and, ↓sp__law_draw, ↓sp__law_pick, gKw_0_ap, gKw_1_0_ap]
  refine lc_det eN (fun n => some (.int n.v)) ns [] (by rw [sizeLine_eq, List.length_nil]; omega) (fun n _ K hK => ?_) ?_
  · simp only [lcStep, eN, ↓w_seq, ↓w_set, ↓w_ret, ↓w_retN, ↓w_retV, ↓w_if, ↓w_drop, ↓w_asg, ↓w_par, ↓w_par3, ↓w_nx, ↓w_bk, ↓w_ct, ↓w_frz, ↓w_for, ↓w_app, ↓w_ext, ↓w_bin, ↓w_un, ↓w_var, ↓w_con, ↓w_callB, ↓w_nilU, ↓w_consU, ↓w_consS, ↓w_nilD, ↓w_consD, ↓w_consO, ↓w_tup, ↓w_lst, ↓w_dic0, ↓w_and, ↓w_or, ↓w_not, ↓w_ite, ↓w_chain, ↓w_isa, ↓w_fn, ↓w_fnK, ↓w_sl, ↓w_noO, ↓w_someO, ↓w_yes, ↓w_tst, ↓w_lc, ↓w_it, ↓w_enum, ↓w_zip, ↓w_rng1, ↓w_rng2, ↓w_never, ↓w_kNil, ↓w_kCons, ↓w_disp, ↓w_mg0, ↓w_mg1, ↓w_put0, ↓w_keyS, ↓w_keyI, ↓w_sset, ↓w_dicT, ↓w_inT, ↓w_ixT, ↓w_listT, ↓w_stoT, ↓w_stoU, ↓w_enDt, ↓w_onDt, ↓w_enOw, ↓w_onOw, ↓w_stoL, ↓w_stoD, ↓w_enZ, ↓g_min2, ↓g_minL, ↓g_minT, ↓g_max2, ↓g_maxL, ↓g_maxT, ↓g_sum, ↓g_all, ↓g_any, ↓v_use_d, ↓v_arg_d, ↓v_sto_d, ↓v_rd_d, ↓v_frz_d, ↓v_src_d, ↓v_use_own, ↓v_arg_own, ↓v_sto_own, ↓v_rd_own, ↓v_src_own, ↓v_use_bor, ↓v_arg_bor, ↓v_sto_bor, ↓v_rd_bor, ↓v_frz_bor, ↓v_src_bor, ↓v_use_scr, ↓v_arg_scr, ↓v_sto_scr, ↓v_rd_scr, ↓v_frz_scr, ↓v_src_scr, ↓v_use_box, ↓v_arg_box, ↓v_sto_box, ↓v_rd_box, ↓v_frz_box, ↓v_src_box, ↓v_bl, ↓v_frz_L, ↓v_frz_D, ↓v_frz_T, ↓v_rd_L, ↓v_rd_D, ↓v_dat_l, ↓v_dat_d, ↓v_onD, ↓v_onI, ↓v_onL, ↓v_on1, ↓v_on2, ↓v_on3, ↓v_all0, ↓v_all1, ↓v_seqL, ↓v_seqT, ↓v_gNm, ↓v_gNil, ↓v_gCons, ↓v_gTup, ↓g_add, ↓g_addS, ↓g_addT, ↓g_addL, ↓g_sub, ↓g_mul, ↓g_fdiv, ↓g_mod, ↓g_pow, ↓g_eq, ↓g_ne, ↓g_lt, ↓g_gt, ↓g_le, ↓g_ge, ↓g_ltT, ↓g_gtT, ↓g_leT, ↓g_geT, ↓g_inT, ↓g_inL, ↓g_is, ↓g_neg, ↓g_not, ↓g_lenL, ↓g_lenT, ↓g_lenD, ↓g_intI, ↓g_intB, ↓g_abs, ↓g_gcd, ↓g_repr, ↓g_listL, ↓g_listT, ↓g_tupL, ↓g_tupT, ↓g_ixL0, ↓g_ixL1, ↓g_ixL2, ↓g_ixL3, ↓g_ixT0, ↓g_ixT1, ↓g_ixT2, ↓g_ixT3, ↓g_ixL, ↓g_ixT, ↓g_slL, ↓g_slT, ↓g_revL, ↓g_revT, n_non, n_int, n_tup, n_str, n_bl, n_lst, ↓n_enLst, ↓n_onOwn, ↓en0, ↓enS, eqOk_int, eqOk_str, eqv_int, eqv_str, exists_eq_left', atI0, atI1, atI2, atI3, isa, Int.cast_ofNat_Int, List.length_cons, List.length_nil, List.set_cons_zero, List.set_cons_succ, Option.some.injEq, true_and, and_true, if_true, if_false, Bool.not_true, Bool.not_false, Bool.xor_false, Bool.false_xor, Bool.true_xor, decide_eq_true_eq, Bool.not_eq_true', decide_eq_false_iff_not, Nat.reduceAdd, Nat.zero_add, w_err, fnEnds, shaped_c0, shaped_c1, shaped_c2, shaped_c3, List.map_cons, List.map_nil, Bool.false_eq_true, reduceIte, decide_true, decide_false, Bool.not_eq_true, decide_not, Bool.not_not, ne_eq, Nat.reduceLeDiff, sizeBig, Int.reduceAbs, Int.reduceLE, Int.reduceLT, Int.reduceAdd, Int.reduceSub, Int.reduceMul, Int.reduceNeg, Int.reduceToNat, Int.reducePow, Int.reduceEq, Nat.reducePow, Nat.reduceLT, ofString_inj, String.reduceEq, shaped_lit, shaped_int, shaped_bool, shaped_none, sm_lt, mb_lit_l, mb_lit_r, ↓w_pick, ↓w_pickT, ↓w_draw, w_wipe0, w_wipe1, List.nil_append, List.cons_append, reduceCtorEq, Bool.true_eq_false, eq_self, not_true_eq_false, not_false_eq_true, List.any_cons, List.any_nil, Bool.or_false, Bool.false_or, Bool.or_true, Bool.true_or, Bool.and_true, Bool.true_and, Bool.and_false, Bool.false_and, ↓sp__law_draw, ↓sp__law_pick, gKw_0_ap, gKw_1_0_ap, cutT0, cutT1, cutT2, cutT3, cutT4, cutF0, cutF1, cutF2, cutF3, cutF4, List.take_succ_cons, List.take_zero, List.take_nil, List.drop_succ_cons, List.drop_zero, List.drop_nil]
    exact hK
  · rw [List.filterMap_eq_map']
    simp only [↓w_seq, ↓w_set, ↓w_ret, ↓w_retN, ↓w_retV, ↓w_if, ↓w_drop, ↓w_asg, ↓w_par, ↓w_par3, ↓w_nx, ↓w_bk, ↓w_ct, ↓w_frz, ↓w_for, ↓w_app, ↓w_ext, ↓w_bin, ↓w_un, ↓w_var, ↓w_con, ↓w_callB, ↓w_nilU, ↓w_consU, ↓w_consS, ↓w_nilD, ↓w_consD, ↓w_consO, ↓w_tup, ↓w_lst, ↓w_dic0, ↓w_and, ↓w_or, ↓w_not, ↓w_ite, ↓w_chain, ↓w_isa, ↓w_fn, ↓w_fnK, ↓w_sl, ↓w_noO, ↓w_someO, ↓w_yes, ↓w_tst, ↓w_lc, ↓w_it, ↓w_enum, ↓w_zip, ↓w_rng1, ↓w_rng2, ↓w_never, ↓w_kNil, ↓w_kCons, ↓w_disp, ↓w_mg0, ↓w_mg1, ↓w_put0, ↓w_keyS, ↓w_keyI, ↓w_sset, ↓w_dicT, ↓w_inT, ↓w_ixT, ↓w_listT, ↓w_stoT, ↓w_stoU, ↓w_enDt, ↓w_onDt, ↓w_enOw, ↓w_onOw, ↓w_stoL, ↓w_stoD, ↓w_enZ, ↓g_min2, ↓g_minL, ↓g_minT, ↓g_max2, ↓g_maxL, ↓g_maxT, ↓g_sum, ↓g_all, ↓g_any, ↓v_use_d, ↓v_arg_d, ↓v_sto_d, ↓v_rd_d, ↓v_frz_d, ↓v_src_d, ↓v_use_own, ↓v_arg_own, ↓v_sto_own, ↓v_rd_own, ↓v_src_own, ↓v_use_bor, ↓v_arg_bor, ↓v_sto_bor, ↓v_rd_bor, ↓v_frz_bor, ↓v_src_bor, ↓v_use_scr, ↓v_arg_scr, ↓v_sto_scr, ↓v_rd_scr, ↓v_frz_scr, ↓v_src_scr, ↓v_use_box, ↓v_arg_box, ↓v_sto_box, ↓v_rd_box, ↓v_frz_box, ↓v_src_box, ↓v_bl, ↓v_frz_L, ↓v_frz_D, ↓v_frz_T, ↓v_rd_L, ↓v_rd_D, ↓v_dat_l, ↓v_dat_d, ↓v_onD, ↓v_onI, ↓v_onL, ↓v_on1, ↓v_on2, ↓v_on3, ↓v_all0, ↓v_all1, ↓v_seqL, ↓v_seqT, ↓v_gNm, ↓v_gNil, ↓v_gCons, ↓v_gTup, ↓g_add, ↓g_addS, ↓g_addT, ↓g_addL, ↓g_sub, ↓g_mul, ↓g_fdiv, ↓g_mod, ↓g_pow, ↓g_eq, ↓g_ne, ↓g_lt, ↓g_gt, ↓g_le, ↓g_ge, ↓g_ltT, ↓g_gtT, ↓g_leT, ↓g_geT, ↓g_inT, ↓g_inL, ↓g_is, ↓g_neg, ↓g_not, ↓g_lenL, ↓g_lenT, ↓g_lenD, ↓g_intI, ↓g_intB, ↓g_abs, ↓g_gcd, ↓g_repr, ↓g_listL, ↓g_listT, ↓g_tupL, ↓g_tupT, ↓g_ixL0, ↓g_ixL1, ↓g_ixL2, ↓g_ixL3, ↓g_ixT0, ↓g_ixT1, ↓g_ixT2, ↓g_ixT3, ↓g_ixL, ↓g_ixT, ↓g_slL, ↓g_slT, ↓g_revL, ↓g_revT, n_non, n_int, n_tup, n_str, n_bl, n_lst, ↓n_enLst, ↓n_onOwn, ↓en0, ↓enS, eqOk_int, eqOk_str, eqv_int, eqv_str, exists_eq_left', atI0, atI1, atI2, atI3, isa, Int.cast_ofNat_Int, List.length_cons, List.length_nil, List.set_cons_zero, List.set_cons_succ, Option.some.injEq, true_and, and_true, if_true, if_false, Bool.not_true, Bool.not_false, Bool.xor_false, Bool.false_xor, Bool.true_xor, decide_eq_true_eq, Bool.not_eq_true', decide_eq_false_iff_not, Nat.reduceAdd, Nat.zero_add, w_err, fnEnds, shaped_c0, shaped_c1, shaped_c2, shaped_c3, List.map_cons, List.map_nil, Bool.false_eq_true, reduceIte, decide_true, decide_false, Bool.not_eq_true, decide_not, Bool.not_not, ne_eq, Nat.reduceLeDiff, sizeBig, Int.reduceAbs, Int.reduceLE, Int.reduceLT, Int.reduceAdd, Int.reduceSub, Int.reduceMul, Int.reduceNeg, Int.reduceToNat, Int.reducePow, Int.reduceEq, Nat.reducePow, Nat.reduceLT, ofString_inj, String.reduceEq, shaped_lit, shaped_int, shaped_bool, shaped_none, sm_lt, mb_lit_l, mb_lit_r, ↓w_pick, ↓w_pickT, ↓w_draw, w_wipe0, w_wipe1, List.nil_append, List.cons_append, reduceCtorEq, Bool.true_eq_false, eq_self, not_true_eq_false, not_false_eq_true, List.any_cons, List.any_nil, Bool.or_false, Bool.false_or, Bool.or_true, Bool.true_or, Bool.and_true, Bool.true_and, Bool.and_false, Bool.false_and, ↓sp__law_draw, ↓sp__law_pick, gKw_0_ap, gKw_1_0_ap]
    refine sset_vs hl hok ?_
    simp only [↓w_seq, ↓w_set, ↓w_ret, ↓w_retN, ↓w_retV, ↓w_if, ↓w_drop, ↓w_asg, ↓w_par, ↓w_par3, ↓w_nx, ↓w_bk, ↓w_ct, ↓w_frz, ↓w_for, ↓w_app, ↓w_ext, ↓w_bin, ↓w_un, ↓w_var, ↓w_con, ↓w_callB, ↓w_nilU, ↓w_consU, ↓w_consS, ↓w_nilD, ↓w_consD, ↓w_consO, ↓w_tup, ↓w_lst, ↓w_dic0, ↓w_and, ↓w_or, ↓w_not, ↓w_ite, ↓w_chain, ↓w_isa, ↓w_fn, ↓w_fnK, ↓w_sl, ↓w_noO, ↓w_someO, ↓w_yes, ↓w_tst, ↓w_lc, ↓w_it, ↓w_enum, ↓w_zip, ↓w_rng1, ↓w_rng2, ↓w_never, ↓w_kNil, ↓w_kCons, ↓w_disp, ↓w_mg0, ↓w_mg1, ↓w_put0, ↓w_keyS, ↓w_keyI, ↓w_sset, ↓w_dicT, ↓w_inT, ↓w_ixT, ↓w_listT, ↓w_stoT, ↓w_stoU, ↓w_enDt, ↓w_onDt, ↓w_enOw, ↓w_onOw, ↓w_stoL, ↓w_stoD, ↓w_enZ, ↓g_min2, ↓g_minL, ↓g_minT, ↓g_max2, ↓g_maxL, ↓g_maxT, ↓g_sum, ↓g_all, ↓g_any, ↓v_use_d, ↓v_arg_d, ↓v_sto_d, ↓v_rd_d, ↓v_frz_d, ↓v_src_d, ↓v_use_own, ↓v_arg_own, ↓v_sto_own, ↓v_rd_own, ↓v_src_own, ↓v_use_bor, ↓v_arg_bor, ↓v_sto_bor, ↓v_rd_bor, ↓v_frz_bor, ↓v_src_bor, ↓v_use_scr, ↓v_arg_scr, ↓v_sto_scr, ↓v_rd_scr, ↓v_frz_scr, ↓v_src_scr, ↓v_use_box, ↓v_arg_box, ↓v_sto_box, ↓v_rd_box, ↓v_frz_box, ↓v_src_box, ↓v_bl, ↓v_frz_L, ↓v_frz_D, ↓v_frz_T, ↓v_rd_L, ↓v_rd_D, ↓v_dat_l, ↓v_dat_d, ↓v_onD, ↓v_onI, ↓v_onL, ↓v_on1, ↓v_on2, ↓v_on3, ↓v_all0, ↓v_all1, ↓v_seqL, ↓v_seqT, ↓v_gNm, ↓v_gNil, ↓v_gCons, ↓v_gTup, ↓g_add, ↓g_addS, ↓g_addT, ↓g_addL, ↓g_sub, ↓g_mul, ↓g_fdiv, ↓g_mod, ↓g_pow, ↓g_eq, ↓g_ne, ↓g_lt, ↓g_gt, ↓g_le, ↓g_ge, ↓g_ltT, ↓g_gtT, ↓g_leT, ↓g_geT, ↓g_inT, ↓g_inL, ↓g_is, ↓g_neg, ↓g_not, ↓g_lenL, ↓g_lenT, ↓g_lenD, ↓g_intI, ↓g_intB, ↓g_abs, ↓g_gcd, ↓g_repr, ↓g_listL, ↓g_listT, ↓g_tupL, ↓g_tupT, ↓g_ixL0, ↓g_ixL1, ↓g_ixL2, ↓g_ixL3, ↓g_ixT0, ↓g_ixT1, ↓g_ixT2, ↓g_ixT3, ↓g_ixL, ↓g_ixT, ↓g_slL, ↓g_slT, ↓g_revL, ↓g_revT, n_non, n_int, n_tup, n_str, n_bl, n_lst, ↓n_enLst, ↓n_onOwn, ↓en0, ↓enS, eqOk_int, eqOk_str, eqv_int, eqv_str, exists_eq_left', atI0, atI1, atI2, atI3, isa, Int.cast_ofNat_Int, List.length_cons, List.length_nil, List.set_cons_zero, List.set_cons_succ, Option.some.injEq, true_and, and_true, if_true, if_false, Bool.not_true, Bool.not_false, Bool.xor_false, Bool.false_xor, Bool.true_xor, decide_eq_true_eq, Bool.not_eq_true', decide_eq_false_iff_not, Nat.reduceAdd, Nat.zero_add, w_err, fnEnds, shaped_c0, shaped_c1, shaped_c2, shaped_c3, List.map_cons, List.map_nil, Bool.false_eq_true, reduceIte, decide_true, decide_false, Bool.not_eq_true, decide_not, Bool.not_not, ne_eq, Nat.reduceLeDiff, sizeBig, Int.reduceAbs, Int.reduceLE, Int.reduceLT, Int.reduceAdd, Int.reduceSub, Int.reduceMul, Int.reduceNeg, Int.reduceToNat, Int.reducePow, Int.reduceEq, Nat.reducePow, Nat.reduceLT, ofString_inj, String.reduceEq, shaped_lit, shaped_int, shaped_bool, shaped_none, sm_lt, mb_lit_l, mb_lit_r, ↓w_pick, ↓w_pickT, ↓w_draw, w_wipe0, w_wipe1, List.nil_append, List.cons_append, reduceCtorEq, Bool.true_eq_false, eq_self, not_true_eq_false, not_false_eq_true, List.any_cons, List.any_nil, Bool.or_false, Bool.false_or, Bool.or_true, Bool.true_or, Bool.and_true, Bool.true_and, Bool.and_false, Bool.false_and, ↓sp__law_draw, ↓sp__law_pick, gKw_0_ap, gKw_1_0_ap]
    exact q


theorem h_notes_at : ∀ rs Q Ex, rs.length = 2 → sp_notes_at rs Q Ex → d_notes_at (fnEnds Q Ex) (startD 3 rs) := by
  rintro rs Q Ex - ⟨ns, p, rfl, hl, q⟩
  show d_notes_at (fnEnds Q Ex) [some (.d (.tuple (ns.map eN))), some (.d (eP p)), none]
  simp only [d_notes_at, ↓w_seq, ↓w_set, ↓w_ret, ↓w_retN, ↓w_retV, ↓w_if, ↓w_drop, ↓w_asg, ↓w_par, ↓w_par3, ↓w_nx, ↓w_bk, ↓w_ct, ↓w_frz, ↓w_for, ↓w_app, ↓w_ext, ↓w_bin, ↓w_un, ↓w_var, ↓w_con, ↓w_callB, ↓w_nilU, ↓w_consU, ↓w_consS, ↓w_nilD, ↓w_consD, ↓w_consO, ↓w_tup, ↓w_lst, ↓w_dic0, ↓w_and, ↓w_or, ↓w_not, ↓w_ite, ↓w_chain, ↓w_isa, ↓w_fn, ↓w_fnK, ↓w_sl, ↓w_noO, ↓w_someO, ↓w_yes, ↓w_tst, ↓w_lc, ↓w_it, ↓w_enum, ↓w_zip, ↓w_rng1, ↓w_rng2, ↓w_never, ↓w_kNil, ↓w_kCons, ↓w_disp, ↓w_mg0, ↓w_mg1, ↓w_put0, ↓w_keyS, ↓w_keyI, ↓w_sset, ↓w_dicT, ↓w_inT, ↓w_ixT, ↓w_listT, ↓w_stoT, ↓w_stoU, ↓w_enDt, ↓w_onDt, ↓w_enOw, ↓w_onOw, ↓w_stoL, ↓w_stoD, ↓w_enZ, ↓g_min2, ↓g_minL, ↓g_minT, ↓g_max2, ↓g_maxL, ↓g_maxT, ↓g_sum, ↓g_all, ↓g_any, ↓v_use_d, ↓v_arg_d, ↓v_sto_d, ↓v_rd_d, ↓v_frz_d, ↓v_src_d, ↓v_use_own, ↓v_arg_own, ↓v_sto_own, ↓v_rd_own, ↓v_src_own, ↓v_use_bor, ↓v_arg_bor, ↓v_sto_bor, ↓v_rd_bor, ↓v_frz_bor, ↓v_src_bor, ↓v_use_scr, ↓v_arg_scr, ↓v_sto_scr, ↓v_rd_scr, ↓v_frz_scr, ↓v_src_scr, ↓v_use_box, ↓v_arg_box, ↓v_sto_box, ↓v_rd_box, ↓v_frz_box, ↓v_src_box, ↓v_bl, ↓v_frz_L, ↓v_frz_D, ↓v_frz_T, ↓v_rd_L, ↓v_rd_D, ↓v_dat_l, ↓v_dat_d, ↓v_onD, ↓v_onI, ↓v_onL, ↓v_on1, ↓v_on2, ↓v_on3, ↓v_all0, ↓v_all1, ↓v_seqL, ↓v_seqT, ↓v_gNm, ↓v_gNil, ↓v_gCons, ↓v_gTup, ↓g_add, ↓g_addS, ↓g_addT, ↓g_addL, ↓g_sub, ↓g_mul, ↓g_fdiv, ↓g_mod, ↓g_pow, ↓g_eq, ↓g_ne, ↓g_lt, ↓g_gt, ↓g_le, ↓g_ge, ↓g_ltT, ↓g_gtT, ↓g_leT, ↓g_geT, ↓g_inT, ↓g_inL, ↓g_is, ↓g_neg, ↓g_not, ↓g_lenL, ↓g_lenT, ↓g_lenD, ↓g_intI, ↓g_intB, ↓g_abs, ↓g_gcd, ↓g_repr, ↓g_listL, ↓g_listT, ↓g_tupL, ↓g_tupT, ↓g_ixL0, ↓g_ixL1, ↓g_ixL2, ↓g_ixL3, ↓g_ixT0, ↓g_ixT1, ↓g_ixT2, ↓g_ixT3, ↓g_ixL, ↓g_ixT, ↓g_slL, ↓g_slT, ↓g_revL, ↓g_revT, n_non, n_int, n_tup, n_str, n_bl, n_lst, ↓n_enLst, ↓n_onOwn, ↓en0, ↓enS, eqOk_int, eqOk_str, eqv_int, eqv_str, exists_eq_left', atI0, atI1, atI2, atI3, isa, Int.cast_ofNat_Int, List.length_cons, List.length_nil, List.set_cons_zero, List.set_cons_succ, Option.some.injEq, true_and, and_true, if_true, if_false, Bool.not_true, Bool.not_false, Bool.xor_false, Bool.false_xor, Bool.true_xor, decide_eq_true_eq, Bool.not_eq_true', decide_eq_false_iff_not, Nat.reduceAdd, Nat.zero_add, w_err, fnEnds, shaped_c0, shaped_c1, shaped_c2, shaped_c3, List.map_cons, List.map_nil, Bool.false_eq_true, reduceIte, decide_true, decide_false, Bool.not_eq_true, decide_not, Bool.not_not, ne_eq, Nat.reduceLeDiff, sizeBig, Int.reduceAbs, Int.reduceLE, Int.reduceLT, Int.reduceAdd, Int.reduceSub, Int.reduceMul, Int.reduceNeg, Int.reduceToNat, Int.reducePow, Int.reduceEq, Nat.reducePow, Nat.reduceLT, ofString_inj, String.reduceEq, shaped_lit, shaped_int, shaped_bool, shaped_none, sm_lt, mb_lit_l, mb_lit_r, ↓w_pick, ↓w_pickT, ↓w_draw, w_wipe0, w_wipe1, List.nil_append, List.cons_append, reduceCtorEq, Bool.true_eq_false, eq_self, not_true_eq_false, not_false_eq_true, List.any_cons, List.any_nil, Bool.or_false, Bool.false_or, Bool.or_true, Bool.true_or, Bool.and_true, Bool.true_and, Bool.and_false, Bool.false_and, ↓sp__law_draw, ↓sp__law_pick, gKw_0_ap, gKw_1_0_ap]
  refine lc_det eN (fun n => if n.pt = p then some (eN n) else none) ns [] (by rw [sizeLine_eq, List.length_nil]; omega) (fun n _ K hK => ?_) ?_
  · simp only [lcStep, eN, eP, ↓w_seq, ↓w_set, ↓w_ret, ↓w_retN, ↓w_retV, ↓w_if, ↓w_drop, ↓w_asg, ↓w_par, ↓w_par3, ↓w_nx, ↓w_bk, ↓w_ct, ↓w_frz, ↓w_for, ↓w_app, ↓w_ext, ↓w_bin, ↓w_un, ↓w_var, ↓w_con, ↓w_callB, ↓w_nilU, ↓w_consU, ↓w_consS, ↓w_nilD, ↓w_consD, ↓w_consO, ↓w_tup, ↓w_lst, ↓w_dic0, ↓w_and, ↓w_or, ↓w_not, ↓w_ite, ↓w_chain, ↓w_isa, ↓w_fn, ↓w_fnK, ↓w_sl, ↓w_noO, ↓w_someO, ↓w_yes, ↓w_tst, ↓w_lc, ↓w_it, ↓w_enum, ↓w_zip, ↓w_rng1, ↓w_rng2, ↓w_never, ↓w_kNil, ↓w_kCons, ↓w_disp, ↓w_mg0, ↓w_mg1, ↓w_put0, ↓w_keyS, ↓w_keyI, ↓w_sset, ↓w_dicT, ↓w_inT, ↓w_ixT, ↓w_listT, ↓w_stoT, ↓w_stoU, ↓w_enDt, ↓w_onDt, ↓w_enOw, ↓w_onOw, ↓w_stoL, ↓w_stoD, ↓w_enZ, ↓g_min2, ↓g_minL, ↓g_minT, ↓g_max2, ↓g_maxL, ↓g_maxT, ↓g_sum, ↓g_all, ↓g_any, ↓v_use_d, ↓v_arg_d, ↓v_sto_d, ↓v_rd_d, ↓v_frz_d, ↓v_src_d, ↓v_use_own, ↓v_arg_own, ↓v_sto_own, ↓v_rd_own, ↓v_src_own, ↓v_use_bor, ↓v_arg_bor, ↓v_sto_bor, ↓v_rd_bor, ↓v_frz_bor, ↓v_src_bor, ↓v_use_scr, ↓v_arg_scr, ↓v_sto_scr, ↓v_rd_scr, ↓v_frz_scr, ↓v_src_scr, ↓v_use_box, ↓v_arg_box, ↓v_sto_box, ↓v_rd_box, ↓v_frz_box, ↓v_src_box, ↓v_bl, ↓v_frz_L, ↓v_frz_D, ↓v_frz_T, ↓v_rd_L, ↓v_rd_D, ↓v_dat_l, ↓v_dat_d, ↓v_onD, ↓v_onI, ↓v_onL, ↓v_on1, ↓v_on2, ↓v_on3, ↓v_all0, ↓v_all1, ↓v_seqL, ↓v_seqT, ↓v_gNm, ↓v_gNil, ↓v_gCons, ↓v_gTup, ↓g_add, ↓g_addS, ↓g_addT, ↓g_addL, ↓g_sub, ↓g_mul, ↓g_fdiv, ↓g_mod, ↓g_pow, ↓g_eq, ↓g_ne, ↓g_lt, ↓g_gt, ↓g_le, ↓g_ge, ↓g_ltT, ↓g_gtT, ↓g_leT, ↓g_geT, ↓g_inT, ↓g_inL, ↓g_is, ↓g_neg, ↓g_not, ↓g_lenL, ↓g_lenT, ↓g_lenD, ↓g_intI, ↓g_intB, ↓g_abs, ↓g_gcd, ↓g_repr, ↓g_listL, ↓g_listT, ↓g_tupL, ↓g_tupT, ↓g_ixL0, ↓g_ixL1, ↓g_ixL2, ↓g_ixL3, ↓g_ixT0, ↓g_ixT1, ↓g_ixT2, ↓g_ixT3, ↓g_ixL, ↓g_ixT, ↓g_slL, ↓g_slT, ↓g_revL, ↓g_revT, n_non, n_int, n_tup, n_str, n_bl, n_lst, ↓n_enLst, ↓n_onOwn, ↓en0, ↓enS, eqOk_int, eqOk_str, eqv_int, eqv_str, exists_eq_left', atI0, atI1, atI2, atI3, isa, Int.cast_ofNat_Int, List.length_cons, List.length_nil, List.set_cons_zero, List.set_cons_succ, Option.some.injEq, true_and, and_true, if_true, if_false, Bool.not_true, Bool.not_false, Bool.xor_false, Bool.false_xor, Bool.true_xor, decide_eq_true_eq, Bool.not_eq_true', decide_eq_false_iff_not, Nat.reduceAdd, Nat.zero_add, w_err, fnEnds, shaped_c0, shaped_c1, shaped_c2, shaped_c3, List.map_cons, List.map_nil, Bool.false_eq_true, reduceIte, decide_true, decide_false, Bool.not_eq_true, decide_not, Bool.not_not, ne_eq, Nat.reduceLeDiff, sizeBig, Int.reduceAbs, Int.reduceLE, Int.reduceLT, Int.reduceAdd, Int.reduceSub, Int.reduceMul, Int.reduceNeg, Int.reduceToNat, Int.reducePow, Int.reduceEq, Nat.reducePow, Nat.reduceLT, ofString_inj, String.reduceEq, shaped_lit, shaped_int, shaped_bool, shaped_none, sm_lt, mb_lit_l, mb_lit_r, ↓w_pick, ↓w_pickT, ↓w_draw, w_wipe0, w_wipe1, List.nil_append, List.cons_append, reduceCtorEq, Bool.true_eq_false, eq_self, not_true_eq_false, not_false_eq_true, List.any_cons, List.any_nil, Bool.or_false, Bool.false_or, Bool.or_true, Bool.true_or, Bool.and_true, Bool.true_and, Bool.and_false, Bool.false_and, ↓sp__law_draw, ↓sp__law_pick, gKw_0_ap, gKw_1_0_ap, cutT0, cutT1, cutT2, cutT3, cutT4, cutF0, cutF1, cutF2, cutF3, cutF4, List.take_succ_cons, List.take_zero, List.take_nil, List.drop_succ_cons, List.drop_zero, List.drop_nil]
    have e2 : PyData.eqv (.tuple [.int n.o, .int n.p]) (.tuple [.int p.1, .int p.2]) = decide (n.pt = p) := eqv_P n.pt p
    rw [e2]
    refine ⟨eqOk_P n.pt p, ?_⟩
    by_cases h : n.pt = p
    · rw [if_pos h] at hK
      rw [if_pos (decide_eq_true h)]
      exact hK
    · rw [if_neg h] at hK
      rw [if_neg (by rw [decide_eq_false h]; exact nofun)]
      exact hK
  · rw [fm_if]
    simp only [↓w_seq, ↓w_set, ↓w_ret, ↓w_retN, ↓w_retV, ↓w_if, ↓w_drop, ↓w_asg, ↓w_par, ↓w_par3, ↓w_nx, ↓w_bk, ↓w_ct, ↓w_frz, ↓w_for, ↓w_app, ↓w_ext, ↓w_bin, ↓w_un, ↓w_var, ↓w_con, ↓w_callB, ↓w_nilU, ↓w_consU, ↓w_consS, ↓w_nilD, ↓w_consD, ↓w_consO, ↓w_tup, ↓w_lst, ↓w_dic0, ↓w_and, ↓w_or, ↓w_not, ↓w_ite, ↓w_chain, ↓w_isa, ↓w_fn, ↓w_fnK, ↓w_sl, ↓w_noO, ↓w_someO, ↓w_yes, ↓w_tst, ↓w_lc, ↓w_it, ↓w_enum, ↓w_zip, ↓w_rng1, ↓w_rng2, ↓w_never, ↓w_kNil, ↓w_kCons, ↓w_disp, ↓w_mg0, ↓w_mg1, ↓w_put0, ↓w_keyS, ↓w_keyI, ↓w_sset, ↓w_dicT, ↓w_inT, ↓w_ixT, ↓w_listT, ↓w_stoT, ↓w_stoU, ↓w_enDt, ↓w_onDt, ↓w_enOw, ↓w_onOw, ↓w_stoL, ↓w_stoD, ↓w_enZ, ↓g_min2, ↓g_minL, ↓g_minT, ↓g_max2, ↓g_maxL, ↓g_maxT, ↓g_sum, ↓g_all, ↓g_any, ↓v_use_d, ↓v_arg_d, ↓v_sto_d, ↓v_rd_d, ↓v_frz_d, ↓v_src_d, ↓v_use_own, ↓v_arg_own, ↓v_sto_own, ↓v_rd_own, ↓v_src_own, ↓v_use_bor, ↓v_arg_bor, ↓v_sto_bor, ↓v_rd_bor, ↓v_frz_bor, ↓v_src_bor, ↓v_use_scr, ↓v_arg_scr, ↓v_sto_scr, ↓v_rd_scr, ↓v_frz_scr, ↓v_src_scr, ↓v_use_box, ↓v_arg_box, ↓v_sto_box, ↓v_rd_box, ↓v_frz_box, ↓v_src_box, ↓v_bl, ↓v_frz_L, ↓v_frz_D, ↓v_frz_T, ↓v_rd_L, ↓v_rd_D, ↓v_dat_l, ↓v_dat_d, ↓v_onD, ↓v_onI, ↓v_onL, ↓v_on1, ↓v_on2, ↓v_on3, ↓v_all0, ↓v_all1, ↓v_seqL, ↓v_seqT, ↓v_gNm, ↓v_gNil, ↓v_gCons, ↓v_gTup, ↓g_add, ↓g_addS, ↓g_addT, ↓g_addL, ↓g_sub, ↓g_mul, ↓g_fdiv, ↓g_mod, ↓g_pow, ↓g_eq, ↓g_ne, ↓g_lt, ↓g_gt, ↓g_le, ↓g_ge, ↓g_ltT, ↓g_gtT, ↓g_leT, ↓g_geT, ↓g_inT, ↓g_inL, ↓g_is, ↓g_neg, ↓g_not, ↓g_lenL, ↓g_lenT, ↓g_lenD, ↓g_intI, ↓g_intB, ↓g_abs, ↓g_gcd, ↓g_repr, ↓g_listL, ↓g_listT, ↓g_tupL, ↓g_tupT, ↓g_ixL0, ↓g_ixL1, ↓g_ixL2, ↓g_ixL3, ↓g_ixT0, ↓g_ixT1, ↓g_ixT2, ↓g_ixT3, ↓g_ixL, ↓g_ixT, ↓g_slL, ↓g_slT, ↓g_revL, ↓g_revT, n_non, n_int, n_tup, n_str, n_bl, n_lst, ↓n_enLst, ↓n_onOwn, ↓en0, ↓enS, eqOk_int, eqOk_str, eqv_int, eqv_str, exists_eq_left', atI0, atI1, atI2, atI3, isa, Int.cast_ofNat_Int, List.length_cons, List.length_nil, List.set_cons_zero, List.set_cons_succ, Option.some.injEq, true_and, and_true, if_true, if_false, Bool.not_true, Bool.not_false, Bool.xor_false, Bool.false_xor, Bool.true_xor, decide_eq_true_eq, Bool.not_eq_true', decide_eq_false_iff_not, Nat.reduceAdd, Nat.zero_add, w_err, fnEnds, shaped_c0, shaped_c1, shaped_c2, shaped_c3, List.map_cons, List.map_nil, Bool.false_eq_true, reduceIte, decide_true, decide_false, Bool.not_eq_true, decide_not, Bool.not_not, ne_eq, Nat.reduceLeDiff, sizeBig, Int.reduceAbs, Int.reduceLE, Int.reduceLT, Int.reduceAdd, Int.reduceSub, Int.reduceMul, Int.reduceNeg, Int.reduceToNat, Int.reducePow, Int.reduceEq, Nat.reducePow, Nat.reduceLT, ofString_inj, String.reduceEq, shaped_lit, shaped_int, shaped_bool, shaped_none, sm_lt, mb_lit_l, mb_lit_r, ↓w_pick, ↓w_pickT, ↓w_draw, w_wipe0, w_wipe1, List.nil_append, List.cons_append, reduceCtorEq, Bool.true_eq_false, eq_self, not_true_eq_false, not_false_eq_true, List.any_cons, List.any_nil, Bool.or_false, Bool.false_or, Bool.or_true, Bool.true_or, Bool.and_true, Bool.true_and, Bool.and_false, Bool.false_and, ↓sp__law_draw, ↓sp__law_pick, gKw_0_ap, gKw_1_0_ap]
    exact q


/-! ### the box is made -/
theorem cut63 (ns : List Int) (h : ns.length ≤ 63) : HA.cutD (ns.map PyData.int) none (some 63) = ns.map PyData.int := by
  unfold HA.cutD
  have e1 : HT.sIx (ns.map PyData.int).length 0 none = 0 := rfl
  have e2 : HT.sIx (ns.map PyData.int).length (ns.map PyData.int).length (some 63) = ns.length := by
    rw [List.length_map]
    have e3 : HT.sIx ns.length ns.length (some 63) = min 63 ns.length := HT.sIx_nat ns.length ns.length 63
    rw [e3]
    omega
  rw [e1, e2, List.drop_zero, Nat.sub_zero]
  exact List.take_of_length_le (by rw [List.length_map]; exact Nat.le_refl _)
/-- the numbers of the script, folded over to naturals -/
theorem lc_marks {env : En} {Q : RV → Prop} : ∀ (ns : List Int) (zs : List Int), (∀ z ∈ zs, 0 ≤ z) → zs.length + ns.length ≤ 63 → (∀ zs : List Int, (∀ z ∈ zs, 0 ≤ z) → zs.length ≤ 63 → Q (.own (.lst (zs.map PyData.int)))) →
    lcD (gNmD 3) tYesD (tBinD gAdd (tBinD gMul (tConD (.int 2)) (tCallB gAbs (tConsU (tVarD 3) tNilU))) (tCallB gInt (tConsU (tBinD gLt (tVarD 3) (tConD (.int 0))) tNilU))) [3] ([env[0]?.getD none, env[1]?.getD none, env[2]?.getD none, env[3]?.getD none, env[4]?.getD none]) Q (ns.map PyData.int) (zs.map PyData.int)
  | [], zs, h0, hl, q => q zs h0 (by simpa using hl)
  | n :: ns, zs, h0, hl, q => by
    refine ⟨.inl (by decide), ?_⟩
    rw [List.length_cons] at hl
    refine ⟨by rw [List.length_map, sizeLine_eq]; omega, ?_⟩
    have e : zs.map PyData.int ++ [PyData.int (2 * (if n < 0 then -n else n) + (if decide (n < 0) = true then 1 else 0))] = (zs ++ [2 * (if n < 0 then -n else n) + (if decide (n < 0) = true then 1 else 0)]).map PyData.int := by rw [List.map_append]; rfl
    show lcD _ _ _ _ _ _ _ (zs.map PyData.int ++ [PyData.int (2 * (if n < 0 then -n else n) + (if decide (n < 0) = true then 1 else 0))])
    rw [e]
    refine lc_marks ns _ (fun z hz => ?_) (by rw [List.length_append, List.length_singleton]; omega) q
    rcases List.mem_append.mp hz with hz | hz
    · exact h0 z hz
    · simp only [List.mem_cons, List.not_mem_nil, or_false] at hz
      subst hz
      split <;> split <;> omega
theorem for_stir {ns : List Int} {D : SE} {x3 : Option RV} {ms : List PyData} (q : ∀ (st : Int) (x4 : Option RV), D.nx [some (.scr ns), some (.d (.list ms)), some (.d (.int st)), x3, x4]) : ∀ (zs : List Int) (st : Int) (x4 : Option RV),
    forD (gNmD 4) (tSeqD (tSetD 2 (tBinD gMod (tCallB gInt (tConsU (tBinD gAdd (tBinD gMul (tVarD 2) (tConD (.int 69069))) (tVarD 4)) tNilU)) (tConD (.int 4294967291)))) tNxD) D (zs.map PyData.int) [some (.scr ns), some (.d (.list ms)), some (.d (.int st)), x3, x4]
  | [], st, x4 => q st x4
  | z :: zs, st, x4 => by
    refine ⟨.inr (.inl (by decide)), by decide, ?_⟩
    exact for_stir q zs _ _
theorem lc_great {env : En} {Q : RV → Prop} : ∀ (ns : List Int) (zs : List Int), (∀ z ∈ ns, 0 ≤ z) → (∀ z ∈ zs, 0 ≤ z) → zs.length + ns.length ≤ 63 → (∀ zs : List Int, (∀ z ∈ zs, 0 ≤ z) → zs.length ≤ 63 → Q (.own (.lst (zs.map PyData.int)))) →
    lcD (gNmD 4) (tTst (tBinD gGt (tVarD 4) (tBinD gPow (tConD (.int 10)) (tConD (.int 15))))) (tVarD 4) [4] ([env[0]?.getD none, env[1]?.getD none, env[2]?.getD none, env[3]?.getD none, env[4]?.getD none]) Q (ns.map PyData.int) (zs.map PyData.int)
  | [], zs, _, h0, hl, q => q zs h0 (by simpa using hl)
  | n :: ns, zs, hn, h0, hl, q => by
    rw [List.length_cons] at hl
    refine ⟨by decide, by decide, by decide, ?_⟩
    refine ite2 (fun _ => ?_) fun _ => ?_
    · refine ⟨by rw [List.length_map, sizeLine_eq]; omega, ?_⟩
      have e : zs.map PyData.int ++ [PyData.int n] = (zs ++ [n]).map PyData.int := by rw [List.map_append]; rfl
      rw [e]
      refine lc_great ns _ (fun z hz => hn z (List.mem_cons_of_mem _ hz)) (fun z hz => ?_) (by rw [List.length_append, List.length_singleton]; omega) q
      rcases List.mem_append.mp hz with hz | hz
      · exact h0 z hz
      · simp only [List.mem_cons, List.not_mem_nil, or_false] at hz
        subst hz
        exact hn _ List.mem_cons_self
    · exact lc_great ns zs (fun z hz => hn z (List.mem_cons_of_mem _ hz)) h0 (by omega) q
theorem box_inv {rs : List RV} {Q : RV → Prop} {Ex : Err → Prop} (h : sp__law_box rs Q Ex) : ∃ ns, rs = [.scr ns] ∧ ns.length ≤ 63 ∧ ∀ o, boxOk1 o → Q (.own o) := by
  unfold sp__law_box at h
  split at h
  · exact ⟨_, rfl, h⟩
  · exact h.elim
theorem h__law_box : ∀ rs Q Ex, rs.length = 1 → sp__law_box rs Q Ex → d__law_box (fnEnds Q Ex) (startD 5 rs) := by
  intro rs Q Ex _ h
  obtain ⟨ns, rfl, hl, q⟩ := box_inv h
  clear h
  unfold d__law_box
  show lcD _ _ _ _ _ _ (HA.cutD (ns.map PyData.int) none (some 63)) []
  rw [cut63 ns hl]
  refine lc_marks (env := [some (.scr ns), none, none, none, none]) ns [] (fun z hz => by cases hz) (by simpa using hl) fun zs hz hzl => ?_
  refine for_stir (ns := ns) (ms := zs.map PyData.int) (fun st x4 => ?_) zs _ none
  refine ⟨rfl, ?_⟩
  refine lc_great (env := [some (.scr ns), some (.d (.list (zs.map PyData.int))), some (.d (.int st)), none, x4]) zs [] hz (fun z hz => by cases hz) (by simpa using hzl) fun gs hg hgl => ?_
  exact ⟨rfl, rfl, q _ ⟨gs, st, 0, hg, rfl⟩⟩





theorem h__law_once : ∀ rs Q Ex, rs.length = 1 → sp__law_once rs Q Ex → d__law_once (fnEnds Q Ex) (startD 3 rs) := by
  rintro rs Q Ex - ⟨ps, rfl, hl, q⟩
  show d__law_once (fnEnds Q Ex) [some (.d (.list (ps.map eP))), none, none]
  simp only [d__law_once, d__law_once_2, ↓w_seq, ↓w_set, ↓w_ret, ↓w_retN, ↓w_retV, ↓w_if, ↓w_drop, ↓w_asg, ↓w_par, ↓w_par3, ↓w_nx, ↓w_bk, ↓w_ct, ↓w_frz, ↓w_for, ↓w_app, ↓w_ext, ↓w_bin, ↓w_un, ↓w_var, ↓w_con, ↓w_callB, ↓w_nilU, ↓w_consU, ↓w_consS, ↓w_nilD, ↓w_consD, ↓w_consO, ↓w_tup, ↓w_lst, ↓w_dic0, ↓w_and, ↓w_or, ↓w_not, ↓w_ite, ↓w_chain, ↓w_isa, ↓w_fn, ↓w_fnK, ↓w_sl, ↓w_noO, ↓w_someO, ↓w_yes, ↓w_tst, ↓w_lc, ↓w_it, ↓w_enum, ↓w_zip, ↓w_rng1, ↓w_rng2, ↓w_never, ↓w_kNil, ↓w_kCons, ↓w_disp, ↓w_mg0, ↓w_mg1, ↓w_put0, ↓w_keyS, ↓w_keyI, ↓w_sset, ↓w_dicT, ↓w_inT, ↓w_ixT, ↓w_listT, ↓w_stoT, ↓w_stoU, ↓w_enDt, ↓w_onDt, ↓w_enOw, ↓w_onOw, ↓w_stoL, ↓w_stoD, ↓w_enZ, ↓g_min2, ↓g_minL, ↓g_minT, ↓g_max2, ↓g_maxL, ↓g_maxT, ↓g_sum, ↓g_all, ↓g_any, ↓v_use_d, ↓v_arg_d, ↓v_sto_d, ↓v_rd_d, ↓v_frz_d, ↓v_src_d, ↓v_use_own, ↓v_arg_own, ↓v_sto_own, ↓v_rd_own, ↓v_src_own, ↓v_use_bor, ↓v_arg_bor, ↓v_sto_bor, ↓v_rd_bor, ↓v_frz_bor, ↓v_src_bor, ↓v_use_scr, ↓v_arg_scr, ↓v_sto_scr, ↓v_rd_scr, ↓v_frz_scr, ↓v_src_scr, ↓v_use_box, ↓v_arg_box, ↓v_sto_box, ↓v_rd_box, ↓v_frz_box, ↓v_src_box, ↓v_bl, ↓v_frz_L, ↓v_frz_D, ↓v_frz_T, ↓v_rd_L, ↓v_rd_D, ↓v_dat_l, ↓v_dat_d, ↓v_onD, ↓v_onI, ↓v_onL, ↓v_on1, ↓v_on2, ↓v_on3, ↓v_all0, ↓v_all1, ↓v_seqL, ↓v_seqT, ↓v_gNm, ↓v_gNil, ↓v_gCons, ↓v_gTup, ↓g_add, ↓g_addS, ↓g_addT, ↓g_addL, ↓g_sub, ↓g_mul, ↓g_fdiv, ↓g_mod, ↓g_pow, ↓g_eq, ↓g_ne, ↓g_lt, ↓g_gt, ↓g_le, ↓g_ge, ↓g_ltT, ↓g_gtT, ↓g_leT, ↓g_geT, ↓g_inT, ↓g_inL, ↓g_is, ↓g_neg, ↓g_not, ↓g_lenL, ↓g_lenT, ↓g_lenD, ↓g_intI, ↓g_intB, ↓g_abs, ↓g_gcd, ↓g_repr, ↓g_listL, ↓g_listT, ↓g_tupL, ↓g_tupT, ↓g_ixL0, ↓g_ixL1, ↓g_ixL2, ↓g_ixL3, ↓g_ixT0, ↓g_ixT1, ↓g_ixT2, ↓g_ixT3, ↓g_ixL, ↓g_ixT, ↓g_slL, ↓g_slT, ↓g_revL, ↓g_revT, n_non, n_int, n_tup, n_str, n_bl, n_lst, ↓n_enLst, ↓n_onOwn, ↓en0, ↓enS, eqOk_int, eqOk_str, eqv_int, eqv_str, exists_eq_left', atI0, atI1, atI2, atI3, isa, Int.cast_ofNat_Int, List.length_cons, List.length_nil, List.set_cons_zero, List.set_cons_succ, Option.some.injEq, true_and, and_true, if_true, if_false, Bool.not_true, Bool.not_false, Bool.xor_false, Bool.false_xor, Bool.true_xor, decide_eq_true_eq, Bool.not_eq_true', decide_eq_false_iff_not, Nat.reduceAdd, Nat.zero_add, w_err, fnEnds, shaped_c0, shaped_c1, shaped_c2, shaped_c3, List.map_cons, List.map_nil, Bool.false_eq_true, reduceIte, decide_true, decide_false, Bool.not_eq_true, decide_not, Bool.not_not, ne_eq, Nat.reduceLeDiff, sizeBig, Int.reduceAbs, Int.reduceLE, Int.reduceLT, Int.reduceAdd, Int.reduceSub, Int.reduceMul, Int.reduceNeg, Int.reduceToNat, Int.reducePow, Int.reduceEq, Nat.reducePow, Nat.reduceLT, ofString_inj, String.reduceEq, shaped_lit, shaped_int, shaped_bool, shaped_none, sm_lt, mb_lit_l, mb_lit_r, ↓w_pick, ↓w_pickT, ↓w_draw, w_wipe0, w_wipe1, List.nil_append, List.cons_append, reduceCtorEq, Bool.true_eq_false, eq_self, not_true_eq_false, not_false_eq_true, List.any_cons, List.any_nil, Bool.or_false, Bool.false_or, Bool.or_true, Bool.true_or, Bool.and_true, Bool.true_and, Bool.and_false, Bool.false_and, ↓sp__law_draw, ↓sp__law_pick, gKw_0_ap, gKw_1_0_ap]
  refine for_ind eP (fun qs env => ∃ acc x2, env = [some (.d (.list (ps.map eP))), some (.own (.lst (acc.map eP))), x2] ∧ onceP acc qs = onceP [] ps ∧ acc.length + qs.length ≤ ps.length) ?_ ?_ _ _ ⟨[], _, rfl, rfl, by rw [List.length_nil]; omega⟩
  · rintro env ⟨acc, x2, rfl, h, -⟩
    simp only [d__law_once_3, ↓w_seq, ↓w_set, ↓w_ret, ↓w_retN, ↓w_retV, ↓w_if, ↓w_drop, ↓w_asg, ↓w_par, ↓w_par3, ↓w_nx, ↓w_bk, ↓w_ct, ↓w_frz, ↓w_for, ↓w_app, ↓w_ext, ↓w_bin, ↓w_un, ↓w_var, ↓w_con, ↓w_callB, ↓w_nilU, ↓w_consU, ↓w_consS, ↓w_nilD, ↓w_consD, ↓w_consO, ↓w_tup, ↓w_lst, ↓w_dic0, ↓w_and, ↓w_or, ↓w_not, ↓w_ite, ↓w_chain, ↓w_isa, ↓w_fn, ↓w_fnK, ↓w_sl, ↓w_noO, ↓w_someO, ↓w_yes, ↓w_tst, ↓w_lc, ↓w_it, ↓w_enum, ↓w_zip, ↓w_rng1, ↓w_rng2, ↓w_never, ↓w_kNil, ↓w_kCons, ↓w_disp, ↓w_mg0, ↓w_mg1, ↓w_put0, ↓w_keyS, ↓w_keyI, ↓w_sset, ↓w_dicT, ↓w_inT, ↓w_ixT, ↓w_listT, ↓w_stoT, ↓w_stoU, ↓w_enDt, ↓w_onDt, ↓w_enOw, ↓w_onOw, ↓w_stoL, ↓w_stoD, ↓w_enZ, ↓g_min2, ↓g_minL, ↓g_minT, ↓g_max2, ↓g_maxL, ↓g_maxT, ↓g_sum, ↓g_all, ↓g_any, ↓v_use_d, ↓v_arg_d, ↓v_sto_d, ↓v_rd_d, ↓v_frz_d, ↓v_src_d, ↓v_use_own, ↓v_arg_own, ↓v_sto_own, ↓v_rd_own, ↓v_src_own, ↓v_use_bor, ↓v_arg_bor, ↓v_sto_bor, ↓v_rd_bor, ↓v_frz_bor, ↓v_src_bor, ↓v_use_scr, ↓v_arg_scr, ↓v_sto_scr, ↓v_rd_scr, ↓v_frz_scr, ↓v_src_scr, ↓v_use_box, ↓v_arg_box, ↓v_sto_box, ↓v_rd_box, ↓v_frz_box, ↓v_src_box, ↓v_bl, ↓v_frz_L, ↓v_frz_D, ↓v_frz_T, ↓v_rd_L, ↓v_rd_D, ↓v_dat_l, ↓v_dat_d, ↓v_onD, ↓v_onI, ↓v_onL, ↓v_on1, ↓v_on2, ↓v_on3, ↓v_all0, ↓v_all1, ↓v_seqL, ↓v_seqT, ↓v_gNm, ↓v_gNil, ↓v_gCons, ↓v_gTup, ↓g_add, ↓g_addS, ↓g_addT, ↓g_addL, ↓g_sub, ↓g_mul, ↓g_fdiv, ↓g_mod, ↓g_pow, ↓g_eq, ↓g_ne, ↓g_lt, ↓g_gt, ↓g_le, ↓g_ge, ↓g_ltT, ↓g_gtT, ↓g_leT, ↓g_geT, ↓g_inT, ↓g_inL, ↓g_is, ↓g_neg, ↓g_not, ↓g_lenL, ↓g_lenT, ↓g_lenD, ↓g_intI, ↓g_intB, ↓g_abs, ↓g_gcd, ↓g_repr, ↓g_listL, ↓g_listT, ↓g_tupL, ↓g_tupT, ↓g_ixL0, ↓g_ixL1, ↓g_ixL2, ↓g_ixL3, ↓g_ixT0, ↓g_ixT1, ↓g_ixT2, ↓g_ixT3, ↓g_ixL, ↓g_ixT, ↓g_slL, ↓g_slT, ↓g_revL, ↓g_revT, n_non, n_int, n_tup, n_str, n_bl, n_lst, ↓n_enLst, ↓n_onOwn, ↓en0, ↓enS, eqOk_int, eqOk_str, eqv_int, eqv_str, exists_eq_left', atI0, atI1, atI2, atI3, isa, Int.cast_ofNat_Int, List.length_cons, List.length_nil, List.set_cons_zero, List.set_cons_succ, Option.some.injEq, true_and, and_true, if_true, if_false, Bool.not_true, Bool.not_false, Bool.xor_false, Bool.false_xor, Bool.true_xor, decide_eq_true_eq, Bool.not_eq_true', decide_eq_false_iff_not, Nat.reduceAdd, Nat.zero_add, w_err, fnEnds, shaped_c0, shaped_c1, shaped_c2, shaped_c3, List.map_cons, List.map_nil, Bool.false_eq_true, reduceIte, decide_true, decide_false, Bool.not_eq_true, decide_not, Bool.not_not, ne_eq, Nat.reduceLeDiff, sizeBig, Int.reduceAbs, Int.reduceLE, Int.reduceLT, Int.reduceAdd, Int.reduceSub, Int.reduceMul, Int.reduceNeg, Int.reduceToNat, Int.reducePow, Int.reduceEq, Nat.reducePow, Nat.reduceLT, ofString_inj, String.reduceEq, shaped_lit, shaped_int, shaped_bool, shaped_none, sm_lt, mb_lit_l, mb_lit_r, ↓w_pick, ↓w_pickT, ↓w_draw, w_wipe0, w_wipe1, List.nil_append, List.cons_append, reduceCtorEq, Bool.true_eq_false, eq_self, not_true_eq_false, not_false_eq_true, List.any_cons, List.any_nil, Bool.or_false, Bool.false_or, Bool.or_true, Bool.true_or, Bool.and_true, Bool.true_and, Bool.and_false, Bool.false_and, ↓sp__law_draw, ↓sp__law_pick, gKw_0_ap, gKw_1_0_ap]
    rw [← h] at q
    exact q
  · rintro p qs env K hK ⟨acc, x2, rfl, h, hle⟩
    rw [List.length_cons] at hle
    simp only [d__law_once_L1, ↓w_seq, ↓w_set, ↓w_ret, ↓w_retN, ↓w_retV, ↓w_if, ↓w_drop, ↓w_asg, ↓w_par, ↓w_par3, ↓w_nx, ↓w_bk, ↓w_ct, ↓w_frz, ↓w_for, ↓w_app, ↓w_ext, ↓w_bin, ↓w_un, ↓w_var, ↓w_con, ↓w_callB, ↓w_nilU, ↓w_consU, ↓w_consS, ↓w_nilD, ↓w_consD, ↓w_consO, ↓w_tup, ↓w_lst, ↓w_dic0, ↓w_and, ↓w_or, ↓w_not, ↓w_ite, ↓w_chain, ↓w_isa, ↓w_fn, ↓w_fnK, ↓w_sl, ↓w_noO, ↓w_someO, ↓w_yes, ↓w_tst, ↓w_lc, ↓w_it, ↓w_enum, ↓w_zip, ↓w_rng1, ↓w_rng2, ↓w_never, ↓w_kNil, ↓w_kCons, ↓w_disp, ↓w_mg0, ↓w_mg1, ↓w_put0, ↓w_keyS, ↓w_keyI, ↓w_sset, ↓w_dicT, ↓w_inT, ↓w_ixT, ↓w_listT, ↓w_stoT, ↓w_stoU, ↓w_enDt, ↓w_onDt, ↓w_enOw, ↓w_onOw, ↓w_stoL, ↓w_stoD, ↓w_enZ, ↓g_min2, ↓g_minL, ↓g_minT, ↓g_max2, ↓g_maxL, ↓g_maxT, ↓g_sum, ↓g_all, ↓g_any, ↓v_use_d, ↓v_arg_d, ↓v_sto_d, ↓v_rd_d, ↓v_frz_d, ↓v_src_d, ↓v_use_own, ↓v_arg_own, ↓v_sto_own, ↓v_rd_own, ↓v_src_own, ↓v_use_bor, ↓v_arg_bor, ↓v_sto_bor, ↓v_rd_bor, ↓v_frz_bor, ↓v_src_bor, ↓v_use_scr, ↓v_arg_scr, ↓v_sto_scr, ↓v_rd_scr, ↓v_frz_scr, ↓v_src_scr, ↓v_use_box, ↓v_arg_box, ↓v_sto_box, ↓v_rd_box, ↓v_frz_box, ↓v_src_box, ↓v_bl, ↓v_frz_L, ↓v_frz_D, ↓v_frz_T, ↓v_rd_L, ↓v_rd_D, ↓v_dat_l, ↓v_dat_d, ↓v_onD, ↓v_onI, ↓v_onL, ↓v_on1, ↓v_on2, ↓v_on3, ↓v_all0, ↓v_all1, ↓v_seqL, ↓v_seqT, ↓v_gNm, ↓v_gNil, ↓v_gCons, ↓v_gTup, ↓g_add, ↓g_addS, ↓g_addT, ↓g_addL, ↓g_sub, ↓g_mul, ↓g_fdiv, ↓g_mod, ↓g_pow, ↓g_eq, ↓g_ne, ↓g_lt, ↓g_gt, ↓g_le, ↓g_ge, ↓g_ltT, ↓g_gtT, ↓g_leT, ↓g_geT, ↓g_inT, ↓g_inL, ↓g_is, ↓g_neg, ↓g_not, ↓g_lenL, ↓g_lenT, ↓g_lenD, ↓g_intI, ↓g_intB, ↓g_abs, ↓g_gcd, ↓g_repr, ↓g_listL, ↓g_listT, ↓g_tupL, ↓g_tupT, ↓g_ixL0, ↓g_ixL1, ↓g_ixL2, ↓g_ixL3, ↓g_ixT0, ↓g_ixT1, ↓g_ixT2, ↓g_ixT3, ↓g_ixL, ↓g_ixT, ↓g_slL, ↓g_slT, ↓g_revL, ↓g_revT, n_non, n_int, n_tup, n_str, n_bl, n_lst, ↓n_enLst, ↓n_onOwn, ↓en0, ↓enS, eqOk_int, eqOk_str, eqv_int, eqv_str, exists_eq_left', atI0, atI1, atI2, atI3, isa, Int.cast_ofNat_Int, List.length_cons, List.length_nil, List.set_cons_zero, List.set_cons_succ, Option.some.injEq, true_and, and_true, if_true, if_false, Bool.not_true, Bool.not_false, Bool.xor_false, Bool.false_xor, Bool.true_xor, decide_eq_true_eq, Bool.not_eq_true', decide_eq_false_iff_not, Nat.reduceAdd, Nat.zero_add, w_err, fnEnds, shaped_c0, shaped_c1, shaped_c2, shaped_c3, List.map_cons, List.map_nil, Bool.false_eq_true, reduceIte, decide_true, decide_false, Bool.not_eq_true, decide_not, Bool.not_not, ne_eq, Nat.reduceLeDiff, sizeBig, Int.reduceAbs, Int.reduceLE, Int.reduceLT, Int.reduceAdd, Int.reduceSub, Int.reduceMul, Int.reduceNeg, Int.reduceToNat, Int.reducePow, Int.reduceEq, Nat.reducePow, Nat.reduceLT, ofString_inj, String.reduceEq, shaped_lit, shaped_int, shaped_bool, shaped_none, sm_lt, mb_lit_l, mb_lit_r, ↓w_pick, ↓w_pickT, ↓w_draw, w_wipe0, w_wipe1, List.nil_append, List.cons_append, reduceCtorEq, Bool.true_eq_false, eq_self, not_true_eq_false, not_false_eq_true, List.any_cons, List.any_nil, Bool.or_false, Bool.false_or, Bool.or_true, Bool.true_or, Bool.and_true, Bool.true_and, Bool.and_false, Bool.false_and, ↓sp__law_draw, ↓sp__law_pick, gKw_0_ap, gKw_1_0_ap]
    have h : onceP (if acc.getLast? = some p then acc else acc ++ [p]) qs = onceP [] ps := h
    have fl : ∀ l : List Pt, SeqAt.shaped (.list (l.map eP)) = true := fun l => (flat.lst (n := 1) fun x hx => by
      obtain ⟨p, _, rfl⟩ := List.mem_map.mp hx
      exact flat_P p).sh
    refine ⟨.inr ⟨fl acc, rfl⟩, ?_⟩
    have put : acc.getLast? ≠ some p → (acc.map eP).length < 16777216 ∧ K [some (.d (.list (ps.map eP))), some (.own (.lst (acc.map eP ++ [eP p]))), some (.d (eP p))] := fun hne => by
      rw [if_neg hne] at h
      refine ⟨by rw [List.length_map]; omega, hK _ ⟨acc ++ [p], _, by rw [List.map_append]; rfl, h, by rw [List.length_append, List.length_singleton]; omega⟩⟩
    cases acc with
    | nil => exact put nofun
    | cons a acc =>
      rw [if_neg (by exact nofun), atI_end _ (by exact nofun), List.getLast?_map]
      obtain ⟨z, hz⟩ : ∃ z, (a :: acc).getLast? = some z := ⟨_, List.getLast?_eq_some_getLast (by exact nofun)⟩
      rw [hz]
      refine ⟨_, rfl, eqOk_P z p, ?_⟩
      rw [eqv_P]
      split
      · rename_i hd
        exact put (by rw [hz]; exact fun e => of_decide_eq_false hd (Option.some.inj e))
      · rename_i hd
        have e : z = p := by simpa using hd
        rw [hz, e, if_pos rfl] at h
        exact hK _ ⟨_, _, rfl, h, by omega⟩


theorem h__law_pick : ∀ rs Q Ex, rs.length = 2 → sp__law_pick rs Q Ex → d__law_pick (fnEnds Q Ex) (startD 2 rs) := by
  intro rs Q Ex _ h
  replace h : spPick rs Q Ex := h
  unfold spPick at h
  split at h
  · rename_i xs
    obtain ⟨h1, h2, h3⟩ := h
    refine ⟨rfl, by omega, Sm.of (by have : (2 : Nat) ^ 64 = 18446744073709551616 := by decide
                                     omega), fun r r0 r1 => ?_⟩
    obtain ⟨x, e, m⟩ := atI_mem r0 r1
    exact ⟨x, e, h3 x m⟩
  · rename_i xs
    obtain ⟨h1, h2, h3⟩ := h
    refine ⟨rfl, by omega, Sm.of (by have : (2 : Nat) ^ 64 = 18446744073709551616 := by decide
                                     omega), fun r r0 r1 => ?_⟩
    obtain ⟨x, e, m⟩ := atI_mem r0 r1
    exact ⟨x, e, h3 x m⟩
  · exact h.elim


theorem h__law_is_right : ∀ rs Q Ex, rs.length = 2 → sp__law_is_right rs Q Ex → d__law_is_right (fnEnds Q Ex) (startD 17 rs) := by
  rintro rs Q Ex - ⟨ns, rfl, hs, q⟩
  show d__law_is_right (fnEnds Q Ex) [some .box, some (.d (.tuple (ns.map eN))), none, none, none, none, none, none, none, none, none, none, none, none, none, none, none]
  obtain ⟨hl, hok, -⟩ := id hs
  have tS : Tm 30000 2 (.tuple (ns.map eN)) := tm_sc hok (by omega)
  have tP : Tm 70000 5 (.tuple ((ptsOf ns).map eP)) := tm_ps (ptsOf_ok hok) (Nat.le_trans (ptsOf_len ns) (by omega))
  simp only [d__law_is_right, ↓w_seq, ↓w_set, ↓w_ret, ↓w_retN, ↓w_retV, ↓w_if, ↓w_drop, ↓w_asg, ↓w_par, ↓w_par3, ↓w_nx, ↓w_bk, ↓w_ct, ↓w_frz, ↓w_for, ↓w_app, ↓w_ext, ↓w_bin, ↓w_un, ↓w_var, ↓w_con, ↓w_callB, ↓w_nilU, ↓w_consU, ↓w_consS, ↓w_nilD, ↓w_consD, ↓w_consO, ↓w_tup, ↓w_lst, ↓w_dic0, ↓w_and, ↓w_or, ↓w_not, ↓w_ite, ↓w_chain, ↓w_isa, ↓w_fn, ↓w_fnK, ↓w_sl, ↓w_noO, ↓w_someO, ↓w_yes, ↓w_tst, ↓w_lc, ↓w_it, ↓w_enum, ↓w_zip, ↓w_rng1, ↓w_rng2, ↓w_never, ↓w_kNil, ↓w_kCons, ↓w_disp, ↓w_mg0, ↓w_mg1, ↓w_put0, ↓w_keyS, ↓w_keyI, ↓w_sset, ↓w_dicT, ↓w_inT, ↓w_ixT, ↓w_listT, ↓w_stoT, ↓w_stoU, ↓w_enDt, ↓w_onDt, ↓w_enOw, ↓w_onOw, ↓w_stoL, ↓w_stoD, ↓w_enZ, ↓g_min2, ↓g_minL, ↓g_minT, ↓g_max2, ↓g_maxL, ↓g_maxT, ↓g_sum, ↓g_all, ↓g_any, ↓v_use_d, ↓v_arg_d, ↓v_sto_d, ↓v_rd_d, ↓v_frz_d, ↓v_src_d, ↓v_use_own, ↓v_arg_own, ↓v_sto_own, ↓v_rd_own, ↓v_src_own, ↓v_use_bor, ↓v_arg_bor, ↓v_sto_bor, ↓v_rd_bor, ↓v_frz_bor, ↓v_src_bor, ↓v_use_scr, ↓v_arg_scr, ↓v_sto_scr, ↓v_rd_scr, ↓v_frz_scr, ↓v_src_scr, ↓v_use_box, ↓v_arg_box, ↓v_sto_box, ↓v_rd_box, ↓v_frz_box, ↓v_src_box, ↓v_bl, ↓v_frz_L, ↓v_frz_D, ↓v_frz_T, ↓v_rd_L, ↓v_rd_D, ↓v_dat_l, ↓v_dat_d, ↓v_onD, ↓v_onI, ↓v_onL, ↓v_on1, ↓v_on2, ↓v_on3, ↓v_all0, ↓v_all1, ↓v_seqL, ↓v_seqT, ↓v_gNm, ↓v_gNil, ↓v_gCons, ↓v_gTup, ↓g_add, ↓g_addS, ↓g_addT, ↓g_addL, ↓g_sub, ↓g_mul, ↓g_fdiv, ↓g_mod, ↓g_pow, ↓g_eq, ↓g_ne, ↓g_lt, ↓g_gt, ↓g_le, ↓g_ge, ↓g_ltT, ↓g_gtT, ↓g_leT, ↓g_geT, ↓g_inT, ↓g_inL, ↓g_is, ↓g_neg, ↓g_not, ↓g_lenL, ↓g_lenT, ↓g_lenD, ↓g_intI, ↓g_intB, ↓g_abs, ↓g_gcd, ↓g_repr, ↓g_listL, ↓g_listT, ↓g_tupL, ↓g_tupT, ↓g_ixL0, ↓g_ixL1, ↓g_ixL2, ↓g_ixL3, ↓g_ixT0, ↓g_ixT1, ↓g_ixT2, ↓g_ixT3, ↓g_ixL, ↓g_ixT, ↓g_slL, ↓g_slT, ↓g_revL, ↓g_revT, n_non, n_int, n_tup, n_str, n_bl, n_lst, ↓n_enLst, ↓n_onOwn, ↓en0, ↓enS, eqOk_int, eqOk_str, eqv_int, eqv_str, exists_eq_left', atI0, atI1, atI2, atI3, isa, Int.cast_ofNat_Int, List.length_cons, List.length_nil, List.set_cons_zero, List.set_cons_succ, Option.some.injEq, true_and, and_true, if_true, if_false, Bool.not_true, Bool.not_false, Bool.xor_false, Bool.false_xor, Bool.true_xor, decide_eq_true_eq, Bool.not_eq_true', decide_eq_false_iff_not, Nat.reduceAdd, Nat.zero_add, w_err, fnEnds, shaped_c0, shaped_c1, shaped_c2, shaped_c3, List.map_cons, List.map_nil, Bool.false_eq_true, reduceIte, decide_true, decide_false, Bool.not_eq_true, decide_not, Bool.not_not, ne_eq, Nat.reduceLeDiff, sizeBig, Int.reduceAbs, Int.reduceLE, Int.reduceLT, Int.reduceAdd, Int.reduceSub, Int.reduceMul, Int.reduceNeg, Int.reduceToNat, Int.reducePow, Int.reduceEq, Nat.reducePow, Nat.reduceLT, ofString_inj, String.reduceEq, shaped_lit, shaped_int, shaped_bool, shaped_none, sm_lt, mb_lit_l, mb_lit_r, ↓w_pick, ↓w_pickT, ↓w_draw, w_wipe0, w_wipe1, List.nil_append, List.cons_append, reduceCtorEq, Bool.true_eq_false, eq_self, not_true_eq_false, not_false_eq_true, List.any_cons, List.any_nil, Bool.or_false, Bool.false_or, Bool.or_true, Bool.true_or, Bool.and_true, Bool.true_and, Bool.and_false, Bool.false_and, ↓sp__law_draw, ↓sp__law_pick, gKw_0_ap, gKw_1_0_ap]
  refine ⟨tS.ok (by decide) (by decide), ?_⟩
  simp only [d__law_is_right_2, ↓w_seq, ↓w_set, ↓w_ret, ↓w_retN, ↓w_retV, ↓w_if, ↓w_drop, ↓w_asg, ↓w_par, ↓w_par3, ↓w_nx, ↓w_bk, ↓w_ct, ↓w_frz, ↓w_for, ↓w_app, ↓w_ext, ↓w_bin, ↓w_un, ↓w_var, ↓w_con, ↓w_callB, ↓w_nilU, ↓w_consU, ↓w_consS, ↓w_nilD, ↓w_consD, ↓w_consO, ↓w_tup, ↓w_lst, ↓w_dic0, ↓w_and, ↓w_or, ↓w_not, ↓w_ite, ↓w_chain, ↓w_isa, ↓w_fn, ↓w_fnK, ↓w_sl, ↓w_noO, ↓w_someO, ↓w_yes, ↓w_tst, ↓w_lc, ↓w_it, ↓w_enum, ↓w_zip, ↓w_rng1, ↓w_rng2, ↓w_never, ↓w_kNil, ↓w_kCons, ↓w_disp, ↓w_mg0, ↓w_mg1, ↓w_put0, ↓w_keyS, ↓w_keyI, ↓w_sset, ↓w_dicT, ↓w_inT, ↓w_ixT, ↓w_listT, ↓w_stoT, ↓w_stoU, ↓w_enDt, ↓w_onDt, ↓w_enOw, ↓w_onOw, ↓w_stoL, ↓w_stoD, ↓w_enZ, ↓g_min2, ↓g_minL, ↓g_minT, ↓g_max2, ↓g_maxL, ↓g_maxT, ↓g_sum, ↓g_all, ↓g_any, ↓v_use_d, ↓v_arg_d, ↓v_sto_d, ↓v_rd_d, ↓v_frz_d, ↓v_src_d, ↓v_use_own, ↓v_arg_own, ↓v_sto_own, ↓v_rd_own, ↓v_src_own, ↓v_use_bor, ↓v_arg_bor, ↓v_sto_bor, ↓v_rd_bor, ↓v_frz_bor, ↓v_src_bor, ↓v_use_scr, ↓v_arg_scr, ↓v_sto_scr, ↓v_rd_scr, ↓v_frz_scr, ↓v_src_scr, ↓v_use_box, ↓v_arg_box, ↓v_sto_box, ↓v_rd_box, ↓v_frz_box, ↓v_src_box, ↓v_bl, ↓v_frz_L, ↓v_frz_D, ↓v_frz_T, ↓v_rd_L, ↓v_rd_D, ↓v_dat_l, ↓v_dat_d, ↓v_onD, ↓v_onI, ↓v_onL, ↓v_on1, ↓v_on2, ↓v_on3, ↓v_all0, ↓v_all1, ↓v_seqL, ↓v_seqT, ↓v_gNm, ↓v_gNil, ↓v_gCons, ↓v_gTup, ↓g_add, ↓g_addS, ↓g_addT, ↓g_addL, ↓g_sub, ↓g_mul, ↓g_fdiv, ↓g_mod, ↓g_pow, ↓g_eq, ↓g_ne, ↓g_lt, ↓g_gt, ↓g_le, ↓g_ge, ↓g_ltT, ↓g_gtT, ↓g_leT, ↓g_geT, ↓g_inT, ↓g_inL, ↓g_is, ↓g_neg, ↓g_not, ↓g_lenL, ↓g_lenT, ↓g_lenD, ↓g_intI, ↓g_intB, ↓g_abs, ↓g_gcd, ↓g_repr, ↓g_listL, ↓g_listT, ↓g_tupL, ↓g_tupT, ↓g_ixL0, ↓g_ixL1, ↓g_ixL2, ↓g_ixL3, ↓g_ixT0, ↓g_ixT1, ↓g_ixT2, ↓g_ixT3, ↓g_ixL, ↓g_ixT, ↓g_slL, ↓g_slT, ↓g_revL, ↓g_revT, n_non, n_int, n_tup, n_str, n_bl, n_lst, ↓n_enLst, ↓n_onOwn, ↓en0, ↓enS, eqOk_int, eqOk_str, eqv_int, eqv_str, exists_eq_left', atI0, atI1, atI2, atI3, isa, Int.cast_ofNat_Int, List.length_cons, List.length_nil, List.set_cons_zero, List.set_cons_succ, Option.some.injEq, true_and, and_true, if_true, if_false, Bool.not_true, Bool.not_false, Bool.xor_false, Bool.false_xor, Bool.true_xor, decide_eq_true_eq, Bool.not_eq_true', decide_eq_false_iff_not, Nat.reduceAdd, Nat.zero_add, w_err, fnEnds, shaped_c0, shaped_c1, shaped_c2, shaped_c3, List.map_cons, List.map_nil, Bool.false_eq_true, reduceIte, decide_true, decide_false, Bool.not_eq_true, decide_not, Bool.not_not, ne_eq, Nat.reduceLeDiff, sizeBig, Int.reduceAbs, Int.reduceLE, Int.reduceLT, Int.reduceAdd, Int.reduceSub, Int.reduceMul, Int.reduceNeg, Int.reduceToNat, Int.reducePow, Int.reduceEq, Nat.reducePow, Nat.reduceLT, ofString_inj, String.reduceEq, shaped_lit, shaped_int, shaped_bool, shaped_none, sm_lt, mb_lit_l, mb_lit_r, ↓w_pick, ↓w_pickT, ↓w_draw, w_wipe0, w_wipe1, List.nil_append, List.cons_append, reduceCtorEq, Bool.true_eq_false, eq_self, not_true_eq_false, not_false_eq_true, List.any_cons, List.any_nil, Bool.or_false, Bool.false_or, Bool.or_true, Bool.true_or, Bool.and_true, Bool.true_and, Bool.and_false, Bool.false_and, ↓sp__law_draw, ↓sp__law_pick, gKw_0_ap, gKw_1_0_ap]
  refine lc_det eN (fun n => some (eP n.pt)) ns [] (by rw [sizeLine_eq, List.length_nil]; omega) (fun n _ K hK => ?_) ?_
  · simp only [lcStep, eN, ↓w_seq, ↓w_set, ↓w_ret, ↓w_retN, ↓w_retV, ↓w_if, ↓w_drop, ↓w_asg, ↓w_par, ↓w_par3, ↓w_nx, ↓w_bk, ↓w_ct, ↓w_frz, ↓w_for, ↓w_app, ↓w_ext, ↓w_bin, ↓w_un, ↓w_var, ↓w_con, ↓w_callB, ↓w_nilU, ↓w_consU, ↓w_consS, ↓w_nilD, ↓w_consD, ↓w_consO, ↓w_tup, ↓w_lst, ↓w_dic0, ↓w_and, ↓w_or, ↓w_not, ↓w_ite, ↓w_chain, ↓w_isa, ↓w_fn, ↓w_fnK, ↓w_sl, ↓w_noO, ↓w_someO, ↓w_yes, ↓w_tst, ↓w_lc, ↓w_it, ↓w_enum, ↓w_zip, ↓w_rng1, ↓w_rng2, ↓w_never, ↓w_kNil, ↓w_kCons, ↓w_disp, ↓w_mg0, ↓w_mg1, ↓w_put0, ↓w_keyS, ↓w_keyI, ↓w_sset, ↓w_dicT, ↓w_inT, ↓w_ixT, ↓w_listT, ↓w_stoT, ↓w_stoU, ↓w_enDt, ↓w_onDt, ↓w_enOw, ↓w_onOw, ↓w_stoL, ↓w_stoD, ↓w_enZ, ↓g_min2, ↓g_minL, ↓g_minT, ↓g_max2, ↓g_maxL, ↓g_maxT, ↓g_sum, ↓g_all, ↓g_any, ↓v_use_d, ↓v_arg_d, ↓v_sto_d, ↓v_rd_d, ↓v_frz_d, ↓v_src_d, ↓v_use_own, ↓v_arg_own, ↓v_sto_own, ↓v_rd_own, ↓v_src_own, ↓v_use_bor, ↓v_arg_bor, ↓v_sto_bor, ↓v_rd_bor, ↓v_frz_bor, ↓v_src_bor, ↓v_use_scr, ↓v_arg_scr, ↓v_sto_scr, ↓v_rd_scr, ↓v_frz_scr, ↓v_src_scr, ↓v_use_box, ↓v_arg_box, ↓v_sto_box, ↓v_rd_box, ↓v_frz_box, ↓v_src_box, ↓v_bl, ↓v_frz_L, ↓v_frz_D, ↓v_frz_T, ↓v_rd_L, ↓v_rd_D, ↓v_dat_l, ↓v_dat_d, ↓v_onD, ↓v_onI, ↓v_onL, ↓v_on1, ↓v_on2, ↓v_on3, ↓v_all0, ↓v_all1, ↓v_seqL, ↓v_seqT, ↓v_gNm, ↓v_gNil, ↓v_gCons, ↓v_gTup, ↓g_add, ↓g_addS, ↓g_addT, ↓g_addL, ↓g_sub, ↓g_mul, ↓g_fdiv, ↓g_mod, ↓g_pow, ↓g_eq, ↓g_ne, ↓g_lt, ↓g_gt, ↓g_le, ↓g_ge, ↓g_ltT, ↓g_gtT, ↓g_leT, ↓g_geT, ↓g_inT, ↓g_inL, ↓g_is, ↓g_neg, ↓g_not, ↓g_lenL, ↓g_lenT, ↓g_lenD, ↓g_intI, ↓g_intB, ↓g_abs, ↓g_gcd, ↓g_repr, ↓g_listL, ↓g_listT, ↓g_tupL, ↓g_tupT, ↓g_ixL0, ↓g_ixL1, ↓g_ixL2, ↓g_ixL3, ↓g_ixT0, ↓g_ixT1, ↓g_ixT2, ↓g_ixT3, ↓g_ixL, ↓g_ixT, ↓g_slL, ↓g_slT, ↓g_revL, ↓g_revT, n_non, n_int, n_tup, n_str, n_bl, n_lst, ↓n_enLst, ↓n_onOwn, ↓en0, ↓enS, eqOk_int, eqOk_str, eqv_int, eqv_str, exists_eq_left', atI0, atI1, atI2, atI3, isa, Int.cast_ofNat_Int, List.length_cons, List.length_nil, List.set_cons_zero, List.set_cons_succ, Option.some.injEq, true_and, and_true, if_true, if_false, Bool.not_true, Bool.not_false, Bool.xor_false, Bool.false_xor, Bool.true_xor, decide_eq_true_eq, Bool.not_eq_true', decide_eq_false_iff_not, Nat.reduceAdd, Nat.zero_add, w_err, fnEnds, shaped_c0, shaped_c1, shaped_c2, shaped_c3, List.map_cons, List.map_nil, Bool.false_eq_true, reduceIte, decide_true, decide_false, Bool.not_eq_true, decide_not, Bool.not_not, ne_eq, Nat.reduceLeDiff, sizeBig, Int.reduceAbs, Int.reduceLE, Int.reduceLT, Int.reduceAdd, Int.reduceSub, Int.reduceMul, Int.reduceNeg, Int.reduceToNat, Int.reducePow, Int.reduceEq, Nat.reducePow, Nat.reduceLT, ofString_inj, String.reduceEq, shaped_lit, shaped_int, shaped_bool, shaped_none, sm_lt, mb_lit_l, mb_lit_r, ↓w_pick, ↓w_pickT, ↓w_draw, w_wipe0, w_wipe1, List.nil_append, List.cons_append, reduceCtorEq, Bool.true_eq_false, eq_self, not_true_eq_false, not_false_eq_true, List.any_cons, List.any_nil, Bool.or_false, Bool.false_or, Bool.or_true, Bool.true_or, Bool.and_true, Bool.true_and, Bool.and_false, Bool.false_and, ↓sp__law_draw, ↓sp__law_pick, gKw_0_ap, gKw_1_0_ap, cutT0, cutT1, cutT2, cutT3, cutT4, cutF0, cutF1, cutF2, cutF3, cutF4, List.take_succ_cons, List.take_zero, List.take_nil, List.drop_succ_cons, List.drop_zero, List.drop_nil]
    exact hK
  rw [List.filterMap_eq_map']
  simp only [↓w_seq, ↓w_set, ↓w_ret, ↓w_retN, ↓w_retV, ↓w_if, ↓w_drop, ↓w_asg, ↓w_par, ↓w_par3, ↓w_nx, ↓w_bk, ↓w_ct, ↓w_frz, ↓w_for, ↓w_app, ↓w_ext, ↓w_bin, ↓w_un, ↓w_var, ↓w_con, ↓w_callB, ↓w_nilU, ↓w_consU, ↓w_consS, ↓w_nilD, ↓w_consD, ↓w_consO, ↓w_tup, ↓w_lst, ↓w_dic0, ↓w_and, ↓w_or, ↓w_not, ↓w_ite, ↓w_chain, ↓w_isa, ↓w_fn, ↓w_fnK, ↓w_sl, ↓w_noO, ↓w_someO, ↓w_yes, ↓w_tst, ↓w_lc, ↓w_it, ↓w_enum, ↓w_zip, ↓w_rng1, ↓w_rng2, ↓w_never, ↓w_kNil, ↓w_kCons, ↓w_disp, ↓w_mg0, ↓w_mg1, ↓w_put0, ↓w_keyS, ↓w_keyI, ↓w_sset, ↓w_dicT, ↓w_inT, ↓w_ixT, ↓w_listT, ↓w_stoT, ↓w_stoU, ↓w_enDt, ↓w_onDt, ↓w_enOw, ↓w_onOw, ↓w_stoL, ↓w_stoD, ↓w_enZ, ↓g_min2, ↓g_minL, ↓g_minT, ↓g_max2, ↓g_maxL, ↓g_maxT, ↓g_sum, ↓g_all, ↓g_any, ↓v_use_d, ↓v_arg_d, ↓v_sto_d, ↓v_rd_d, ↓v_frz_d, ↓v_src_d, ↓v_use_own, ↓v_arg_own, ↓v_sto_own, ↓v_rd_own, ↓v_src_own, ↓v_use_bor, ↓v_arg_bor, ↓v_sto_bor, ↓v_rd_bor, ↓v_frz_bor, ↓v_src_bor, ↓v_use_scr, ↓v_arg_scr, ↓v_sto_scr, ↓v_rd_scr, ↓v_frz_scr, ↓v_src_scr, ↓v_use_box, ↓v_arg_box, ↓v_sto_box, ↓v_rd_box, ↓v_frz_box, ↓v_src_box, ↓v_bl, ↓v_frz_L, ↓v_frz_D, ↓v_frz_T, ↓v_rd_L, ↓v_rd_D, ↓v_dat_l, ↓v_dat_d, ↓v_onD, ↓v_onI, ↓v_onL, ↓v_on1, ↓v_on2, ↓v_on3, ↓v_all0, ↓v_all1, ↓v_seqL, ↓v_seqT, ↓v_gNm, ↓v_gNil, ↓v_gCons, ↓v_gTup, ↓g_add, ↓g_addS, ↓g_addT, ↓g_addL, ↓g_sub, ↓g_mul, ↓g_fdiv, ↓g_mod, ↓g_pow, ↓g_eq, ↓g_ne, ↓g_lt, ↓g_gt, ↓g_le, ↓g_ge, ↓g_ltT, ↓g_gtT, ↓g_leT, ↓g_geT, ↓g_inT, ↓g_inL, ↓g_is, ↓g_neg, ↓g_not, ↓g_lenL, ↓g_lenT, ↓g_lenD, ↓g_intI, ↓g_intB, ↓g_abs, ↓g_gcd, ↓g_repr, ↓g_listL, ↓g_listT, ↓g_tupL, ↓g_tupT, ↓g_ixL0, ↓g_ixL1, ↓g_ixL2, ↓g_ixL3, ↓g_ixT0, ↓g_ixT1, ↓g_ixT2, ↓g_ixT3, ↓g_ixL, ↓g_ixT, ↓g_slL, ↓g_slT, ↓g_revL, ↓g_revT, n_non, n_int, n_tup, n_str, n_bl, n_lst, ↓n_enLst, ↓n_onOwn, ↓en0, ↓enS, eqOk_int, eqOk_str, eqv_int, eqv_str, exists_eq_left', atI0, atI1, atI2, atI3, isa, Int.cast_ofNat_Int, List.length_cons, List.length_nil, List.set_cons_zero, List.set_cons_succ, Option.some.injEq, true_and, and_true, if_true, if_false, Bool.not_true, Bool.not_false, Bool.xor_false, Bool.false_xor, Bool.true_xor, decide_eq_true_eq, Bool.not_eq_true', decide_eq_false_iff_not, Nat.reduceAdd, Nat.zero_add, w_err, fnEnds, shaped_c0, shaped_c1, shaped_c2, shaped_c3, List.map_cons, List.map_nil, Bool.false_eq_true, reduceIte, decide_true, decide_false, Bool.not_eq_true, decide_not, Bool.not_not, ne_eq, Nat.reduceLeDiff, sizeBig, Int.reduceAbs, Int.reduceLE, Int.reduceLT, Int.reduceAdd, Int.reduceSub, Int.reduceMul, Int.reduceNeg, Int.reduceToNat, Int.reducePow, Int.reduceEq, Nat.reducePow, Nat.reduceLT, ofString_inj, String.reduceEq, shaped_lit, shaped_int, shaped_bool, shaped_none, sm_lt, mb_lit_l, mb_lit_r, ↓w_pick, ↓w_pickT, ↓w_draw, w_wipe0, w_wipe1, List.nil_append, List.cons_append, reduceCtorEq, Bool.true_eq_false, eq_self, not_true_eq_false, not_false_eq_true, List.any_cons, List.any_nil, Bool.or_false, Bool.false_or, Bool.or_true, Bool.true_or, Bool.and_true, Bool.true_and, Bool.and_false, Bool.false_and, ↓sp__law_draw, ↓sp__law_pick, gKw_0_ap, gKw_1_0_ap]
  have em : ns.map (fun n => eP n.pt) = (ns.map Nt.pt).map eP := by rw [List.map_map]; rfl
  rw [em]
  refine ⟨ns.map Nt.pt, rfl, by rw [List.length_map]; omega, ?_⟩
  rw [once_pts hs]
  simp only [d__law_is_right_3, ↓w_seq, ↓w_set, ↓w_ret, ↓w_retN, ↓w_retV, ↓w_if, ↓w_drop, ↓w_asg, ↓w_par, ↓w_par3, ↓w_nx, ↓w_bk, ↓w_ct, ↓w_frz, ↓w_for, ↓w_app, ↓w_ext, ↓w_bin, ↓w_un, ↓w_var, ↓w_con, ↓w_callB, ↓w_nilU, ↓w_consU, ↓w_consS, ↓w_nilD, ↓w_consD, ↓w_consO, ↓w_tup, ↓w_lst, ↓w_dic0, ↓w_and, ↓w_or, ↓w_not, ↓w_ite, ↓w_chain, ↓w_isa, ↓w_fn, ↓w_fnK, ↓w_sl, ↓w_noO, ↓w_someO, ↓w_yes, ↓w_tst, ↓w_lc, ↓w_it, ↓w_enum, ↓w_zip, ↓w_rng1, ↓w_rng2, ↓w_never, ↓w_kNil, ↓w_kCons, ↓w_disp, ↓w_mg0, ↓w_mg1, ↓w_put0, ↓w_keyS, ↓w_keyI, ↓w_sset, ↓w_dicT, ↓w_inT, ↓w_ixT, ↓w_listT, ↓w_stoT, ↓w_stoU, ↓w_enDt, ↓w_onDt, ↓w_enOw, ↓w_onOw, ↓w_stoL, ↓w_stoD, ↓w_enZ, ↓g_min2, ↓g_minL, ↓g_minT, ↓g_max2, ↓g_maxL, ↓g_maxT, ↓g_sum, ↓g_all, ↓g_any, ↓v_use_d, ↓v_arg_d, ↓v_sto_d, ↓v_rd_d, ↓v_frz_d, ↓v_src_d, ↓v_use_own, ↓v_arg_own, ↓v_sto_own, ↓v_rd_own, ↓v_src_own, ↓v_use_bor, ↓v_arg_bor, ↓v_sto_bor, ↓v_rd_bor, ↓v_frz_bor, ↓v_src_bor, ↓v_use_scr, ↓v_arg_scr, ↓v_sto_scr, ↓v_rd_scr, ↓v_frz_scr, ↓v_src_scr, ↓v_use_box, ↓v_arg_box, ↓v_sto_box, ↓v_rd_box, ↓v_frz_box, ↓v_src_box, ↓v_bl, ↓v_frz_L, ↓v_frz_D, ↓v_frz_T, ↓v_rd_L, ↓v_rd_D, ↓v_dat_l, ↓v_dat_d, ↓v_onD, ↓v_onI, ↓v_onL, ↓v_on1, ↓v_on2, ↓v_on3, ↓v_all0, ↓v_all1, ↓v_seqL, ↓v_seqT, ↓v_gNm, ↓v_gNil, ↓v_gCons, ↓v_gTup, ↓g_add, ↓g_addS, ↓g_addT, ↓g_addL, ↓g_sub, ↓g_mul, ↓g_fdiv, ↓g_mod, ↓g_pow, ↓g_eq, ↓g_ne, ↓g_lt, ↓g_gt, ↓g_le, ↓g_ge, ↓g_ltT, ↓g_gtT, ↓g_leT, ↓g_geT, ↓g_inT, ↓g_inL, ↓g_is, ↓g_neg, ↓g_not, ↓g_lenL, ↓g_lenT, ↓g_lenD, ↓g_intI, ↓g_intB, ↓g_abs, ↓g_gcd, ↓g_repr, ↓g_listL, ↓g_listT, ↓g_tupL, ↓g_tupT, ↓g_ixL0, ↓g_ixL1, ↓g_ixL2, ↓g_ixL3, ↓g_ixT0, ↓g_ixT1, ↓g_ixT2, ↓g_ixT3, ↓g_ixL, ↓g_ixT, ↓g_slL, ↓g_slT, ↓g_revL, ↓g_revT, n_non, n_int, n_tup, n_str, n_bl, n_lst, ↓n_enLst, ↓n_onOwn, ↓en0, ↓enS, eqOk_int, eqOk_str, eqv_int, eqv_str, exists_eq_left', atI0, atI1, atI2, atI3, isa, Int.cast_ofNat_Int, List.length_cons, List.length_nil, List.set_cons_zero, List.set_cons_succ, Option.some.injEq, true_and, and_true, if_true, if_false, Bool.not_true, Bool.not_false, Bool.xor_false, Bool.false_xor, Bool.true_xor, decide_eq_true_eq, Bool.not_eq_true', decide_eq_false_iff_not, Nat.reduceAdd, Nat.zero_add, w_err, fnEnds, shaped_c0, shaped_c1, shaped_c2, shaped_c3, List.map_cons, List.map_nil, Bool.false_eq_true, reduceIte, decide_true, decide_false, Bool.not_eq_true, decide_not, Bool.not_not, ne_eq, Nat.reduceLeDiff, sizeBig, Int.reduceAbs, Int.reduceLE, Int.reduceLT, Int.reduceAdd, Int.reduceSub, Int.reduceMul, Int.reduceNeg, Int.reduceToNat, Int.reducePow, Int.reduceEq, Nat.reducePow, Nat.reduceLT, ofString_inj, String.reduceEq, shaped_lit, shaped_int, shaped_bool, shaped_none, sm_lt, mb_lit_l, mb_lit_r, ↓w_pick, ↓w_pickT, ↓w_draw, w_wipe0, w_wipe1, List.nil_append, List.cons_append, reduceCtorEq, Bool.true_eq_false, eq_self, not_true_eq_false, not_false_eq_true, List.any_cons, List.any_nil, Bool.or_false, Bool.false_or, Bool.or_true, Bool.true_or, Bool.and_true, Bool.true_and, Bool.and_false, Bool.false_and, ↓sp__law_draw, ↓sp__law_pick, gKw_0_ap, gKw_1_0_ap]
  refine ⟨⟨by decide, by decide⟩, ?_⟩
  show lcD _ _ _ _ _ _ (rngL 0 8) []
  rw [rngL_map]
  refine lc_det (fun i : Nat => PyData.int (i : Nat)) (fun v => if (ns.any fun n => decide (n.v = (v : Nat))) = true then some (.int (v : Nat)) else none) (List.range 8) [] (by rw [sizeLine_eq, List.length_nil, List.length_range]; omega) (fun v _ K hK => ?_) ?_
  · simp only [lcStep, ↓w_seq, ↓w_set, ↓w_ret, ↓w_retN, ↓w_retV, ↓w_if, ↓w_drop, ↓w_asg, ↓w_par, ↓w_par3, ↓w_nx, ↓w_bk, ↓w_ct, ↓w_frz, ↓w_for, ↓w_app, ↓w_ext, ↓w_bin, ↓w_un, ↓w_var, ↓w_con, ↓w_callB, ↓w_nilU, ↓w_consU, ↓w_consS, ↓w_nilD, ↓w_consD, ↓w_consO, ↓w_tup, ↓w_lst, ↓w_dic0, ↓w_and, ↓w_or, ↓w_not, ↓w_ite, ↓w_chain, ↓w_isa, ↓w_fn, ↓w_fnK, ↓w_sl, ↓w_noO, ↓w_someO, ↓w_yes, ↓w_tst, ↓w_lc, ↓w_it, ↓w_enum, ↓w_zip, ↓w_rng1, ↓w_rng2, ↓w_never, ↓w_kNil, ↓w_kCons, ↓w_disp, ↓w_mg0, ↓w_mg1, ↓w_put0, ↓w_keyS, ↓w_keyI, ↓w_sset, ↓w_dicT, ↓w_inT, ↓w_ixT, ↓w_listT, ↓w_stoT, ↓w_stoU, ↓w_enDt, ↓w_onDt, ↓w_enOw, ↓w_onOw, ↓w_stoL, ↓w_stoD, ↓w_enZ, ↓g_min2, ↓g_minL, ↓g_minT, ↓g_max2, ↓g_maxL, ↓g_maxT, ↓g_sum, ↓g_all, ↓g_any, ↓v_use_d, ↓v_arg_d, ↓v_sto_d, ↓v_rd_d, ↓v_frz_d, ↓v_src_d, ↓v_use_own, ↓v_arg_own, ↓v_sto_own, ↓v_rd_own, ↓v_src_own, ↓v_use_bor, ↓v_arg_bor, ↓v_sto_bor, ↓v_rd_bor, ↓v_frz_bor, ↓v_src_bor, ↓v_use_scr, ↓v_arg_scr, ↓v_sto_scr, ↓v_rd_scr, ↓v_frz_scr, ↓v_src_scr, ↓v_use_box, ↓v_arg_box, ↓v_sto_box, ↓v_rd_box, ↓v_frz_box, ↓v_src_box, ↓v_bl, ↓v_frz_L, ↓v_frz_D, ↓v_frz_T, ↓v_rd_L, ↓v_rd_D, ↓v_dat_l, ↓v_dat_d, ↓v_onD, ↓v_onI, ↓v_onL, ↓v_on1, ↓v_on2, ↓v_on3, ↓v_all0, ↓v_all1, ↓v_seqL, ↓v_seqT, ↓v_gNm, ↓v_gNil, ↓v_gCons, ↓v_gTup, ↓g_add, ↓g_addS, ↓g_addT, ↓g_addL, ↓g_sub, ↓g_mul, ↓g_fdiv, ↓g_mod, ↓g_pow, ↓g_eq, ↓g_ne, ↓g_lt, ↓g_gt, ↓g_le, ↓g_ge, ↓g_ltT, ↓g_gtT, ↓g_leT, ↓g_geT, ↓g_inT, ↓g_inL, ↓g_is, ↓g_neg, ↓g_not, ↓g_lenL, ↓g_lenT, ↓g_lenD, ↓g_intI, ↓g_intB, ↓g_abs, ↓g_gcd, ↓g_repr, ↓g_listL, ↓g_listT, ↓g_tupL, ↓g_tupT, ↓g_ixL0, ↓g_ixL1, ↓g_ixL2, ↓g_ixL3, ↓g_ixT0, ↓g_ixT1, ↓g_ixT2, ↓g_ixT3, ↓g_ixL, ↓g_ixT, ↓g_slL, ↓g_slT, ↓g_revL, ↓g_revT, n_non, n_int, n_tup, n_str, n_bl, n_lst, ↓n_enLst, ↓n_onOwn, ↓en0, ↓enS, eqOk_int, eqOk_str, eqv_int, eqv_str, exists_eq_left', atI0, atI1, atI2, atI3, isa, Int.cast_ofNat_Int, List.length_cons, List.length_nil, List.set_cons_zero, List.set_cons_succ, Option.some.injEq, true_and, and_true, if_true, if_false, Bool.not_true, Bool.not_false, Bool.xor_false, Bool.false_xor, Bool.true_xor, decide_eq_true_eq, Bool.not_eq_true', decide_eq_false_iff_not, Nat.reduceAdd, Nat.zero_add, w_err, fnEnds, shaped_c0, shaped_c1, shaped_c2, shaped_c3, List.map_cons, List.map_nil, Bool.false_eq_true, reduceIte, decide_true, decide_false, Bool.not_eq_true, decide_not, Bool.not_not, ne_eq, Nat.reduceLeDiff, sizeBig, Int.reduceAbs, Int.reduceLE, Int.reduceLT, Int.reduceAdd, Int.reduceSub, Int.reduceMul, Int.reduceNeg, Int.reduceToNat, Int.reducePow, Int.reduceEq, Nat.reducePow, Nat.reduceLT, ofString_inj, String.reduceEq, shaped_lit, shaped_int, shaped_bool, shaped_none, sm_lt, mb_lit_l, mb_lit_r, ↓w_pick, ↓w_pickT, ↓w_draw, w_wipe0, w_wipe1, List.nil_append, List.cons_append, reduceCtorEq, Bool.true_eq_false, eq_self, not_true_eq_false, not_false_eq_true, List.any_cons, List.any_nil, Bool.or_false, Bool.false_or, Bool.or_true, Bool.true_or, Bool.and_true, Bool.true_and, Bool.and_false, Bool.false_and, ↓sp__law_draw, ↓sp__law_pick, gKw_0_ap, gKw_1_0_ap]
    refine lc_det eN (fun n => if n.v = (v : Nat) then some (.int 1) else none) ns [] (by rw [sizeLine_eq, List.length_nil]; omega) (fun n _ K2 hK2 => ?_) ?_
    · simp only [lcStep, eN, ↓w_seq, ↓w_set, ↓w_ret, ↓w_retN, ↓w_retV, ↓w_if, ↓w_drop, ↓w_asg, ↓w_par, ↓w_par3, ↓w_nx, ↓w_bk, ↓w_ct, ↓w_frz, ↓w_for, ↓w_app, ↓w_ext, ↓w_bin, ↓w_un, ↓w_var, ↓w_con, ↓w_callB, ↓w_nilU, ↓w_consU, ↓w_consS, ↓w_nilD, ↓w_consD, ↓w_consO, ↓w_tup, ↓w_lst, ↓w_dic0, ↓w_and, ↓w_or, ↓w_not, ↓w_ite, ↓w_chain, ↓w_isa, ↓w_fn, ↓w_fnK, ↓w_sl, ↓w_noO, ↓w_someO, ↓w_yes, ↓w_tst, ↓w_lc, ↓w_it, ↓w_enum, ↓w_zip, ↓w_rng1, ↓w_rng2, ↓w_never, ↓w_kNil, ↓w_kCons, ↓w_disp, ↓w_mg0, ↓w_mg1, ↓w_put0, ↓w_keyS, ↓w_keyI, ↓w_sset, ↓w_dicT, ↓w_inT, ↓w_ixT, ↓w_listT, ↓w_stoT, ↓w_stoU, ↓w_enDt, ↓w_onDt, ↓w_enOw, ↓w_onOw, ↓w_stoL, ↓w_stoD, ↓w_enZ, ↓g_min2, ↓g_minL, ↓g_minT, ↓g_max2, ↓g_maxL, ↓g_maxT, ↓g_sum, ↓g_all, ↓g_any, ↓v_use_d, ↓v_arg_d, ↓v_sto_d, ↓v_rd_d, ↓v_frz_d, ↓v_src_d, ↓v_use_own, ↓v_arg_own, ↓v_sto_own, ↓v_rd_own, ↓v_src_own, ↓v_use_bor, ↓v_arg_bor, ↓v_sto_bor, ↓v_rd_bor, ↓v_frz_bor, ↓v_src_bor, ↓v_use_scr, ↓v_arg_scr, ↓v_sto_scr, ↓v_rd_scr, ↓v_frz_scr, ↓v_src_scr, ↓v_use_box, ↓v_arg_box, ↓v_sto_box, ↓v_rd_box, ↓v_frz_box, ↓v_src_box, ↓v_bl, ↓v_frz_L, ↓v_frz_D, ↓v_frz_T, ↓v_rd_L, ↓v_rd_D, ↓v_dat_l, ↓v_dat_d, ↓v_onD, ↓v_onI, ↓v_onL, ↓v_on1, ↓v_on2, ↓v_on3, ↓v_all0, ↓v_all1, ↓v_seqL, ↓v_seqT, ↓v_gNm, ↓v_gNil, ↓v_gCons, ↓v_gTup, ↓g_add, ↓g_addS, ↓g_addT, ↓g_addL, ↓g_sub, ↓g_mul, ↓g_fdiv, ↓g_mod, ↓g_pow, ↓g_eq, ↓g_ne, ↓g_lt, ↓g_gt, ↓g_le, ↓g_ge, ↓g_ltT, ↓g_gtT, ↓g_leT, ↓g_geT, ↓g_inT, ↓g_inL, ↓g_is, ↓g_neg, ↓g_not, ↓g_lenL, ↓g_lenT, ↓g_lenD, ↓g_intI, ↓g_intB, ↓g_abs, ↓g_gcd, ↓g_repr, ↓g_listL, ↓g_listT, ↓g_tupL, ↓g_tupT, ↓g_ixL0, ↓g_ixL1, ↓g_ixL2, ↓g_ixL3, ↓g_ixT0, ↓g_ixT1, ↓g_ixT2, ↓g_ixT3, ↓g_ixL, ↓g_ixT, ↓g_slL, ↓g_slT, ↓g_revL, ↓g_revT, n_non, n_int, n_tup, n_str, n_bl, n_lst, ↓n_enLst, ↓n_onOwn, ↓en0, ↓enS, eqOk_int, eqOk_str, eqv_int, eqv_str, exists_eq_left', atI0, atI1, atI2, atI3, isa, Int.cast_ofNat_Int, List.length_cons, List.length_nil, List.set_cons_zero, List.set_cons_succ, Option.some.injEq, true_and, and_true, if_true, if_false, Bool.not_true, Bool.not_false, Bool.xor_false, Bool.false_xor, Bool.true_xor, decide_eq_true_eq, Bool.not_eq_true', decide_eq_false_iff_not, Nat.reduceAdd, Nat.zero_add, w_err, fnEnds, shaped_c0, shaped_c1, shaped_c2, shaped_c3, List.map_cons, List.map_nil, Bool.false_eq_true, reduceIte, decide_true, decide_false, Bool.not_eq_true, decide_not, Bool.not_not, ne_eq, Nat.reduceLeDiff, sizeBig, Int.reduceAbs, Int.reduceLE, Int.reduceLT, Int.reduceAdd, Int.reduceSub, Int.reduceMul, Int.reduceNeg, Int.reduceToNat, Int.reducePow, Int.reduceEq, Nat.reducePow, Nat.reduceLT, ofString_inj, String.reduceEq, shaped_lit, shaped_int, shaped_bool, shaped_none, sm_lt, mb_lit_l, mb_lit_r, ↓w_pick, ↓w_pickT, ↓w_draw, w_wipe0, w_wipe1, List.nil_append, List.cons_append, reduceCtorEq, Bool.true_eq_false, eq_self, not_true_eq_false, not_false_eq_true, List.any_cons, List.any_nil, Bool.or_false, Bool.false_or, Bool.or_true, Bool.true_or, Bool.and_true, Bool.true_and, Bool.and_false, Bool.false_and, ↓sp__law_draw, ↓sp__law_pick, gKw_0_ap, gKw_1_0_ap]
      split
      · rename_i h
        rw [if_pos h] at hK2
        exact hK2
      · rename_i h
        rw [if_neg h] at hK2
        exact hK2
    · obtain ⟨o1, o2⟩ := ones (fun n : Nt => n.v = (v : Nat)) ns
      simp only [↓w_seq, ↓w_set, ↓w_ret, ↓w_retN, ↓w_retV, ↓w_if, ↓w_drop, ↓w_asg, ↓w_par, ↓w_par3, ↓w_nx, ↓w_bk, ↓w_ct, ↓w_frz, ↓w_for, ↓w_app, ↓w_ext, ↓w_bin, ↓w_un, ↓w_var, ↓w_con, ↓w_callB, ↓w_nilU, ↓w_consU, ↓w_consS, ↓w_nilD, ↓w_consD, ↓w_consO, ↓w_tup, ↓w_lst, ↓w_dic0, ↓w_and, ↓w_or, ↓w_not, ↓w_ite, ↓w_chain, ↓w_isa, ↓w_fn, ↓w_fnK, ↓w_sl, ↓w_noO, ↓w_someO, ↓w_yes, ↓w_tst, ↓w_lc, ↓w_it, ↓w_enum, ↓w_zip, ↓w_rng1, ↓w_rng2, ↓w_never, ↓w_kNil, ↓w_kCons, ↓w_disp, ↓w_mg0, ↓w_mg1, ↓w_put0, ↓w_keyS, ↓w_keyI, ↓w_sset, ↓w_dicT, ↓w_inT, ↓w_ixT, ↓w_listT, ↓w_stoT, ↓w_stoU, ↓w_enDt, ↓w_onDt, ↓w_enOw, ↓w_onOw, ↓w_stoL, ↓w_stoD, ↓w_enZ, ↓g_min2, ↓g_minL, ↓g_minT, ↓g_max2, ↓g_maxL, ↓g_maxT, ↓g_sum, ↓g_all, ↓g_any, ↓v_use_d, ↓v_arg_d, ↓v_sto_d, ↓v_rd_d, ↓v_frz_d, ↓v_src_d, ↓v_use_own, ↓v_arg_own, ↓v_sto_own, ↓v_rd_own, ↓v_src_own, ↓v_use_bor, ↓v_arg_bor, ↓v_sto_bor, ↓v_rd_bor, ↓v_frz_bor, ↓v_src_bor, ↓v_use_scr, ↓v_arg_scr, ↓v_sto_scr, ↓v_rd_scr, ↓v_frz_scr, ↓v_src_scr, ↓v_use_box, ↓v_arg_box, ↓v_sto_box, ↓v_rd_box, ↓v_frz_box, ↓v_src_box, ↓v_bl, ↓v_frz_L, ↓v_frz_D, ↓v_frz_T, ↓v_rd_L, ↓v_rd_D, ↓v_dat_l, ↓v_dat_d, ↓v_onD, ↓v_onI, ↓v_onL, ↓v_on1, ↓v_on2, ↓v_on3, ↓v_all0, ↓v_all1, ↓v_seqL, ↓v_seqT, ↓v_gNm, ↓v_gNil, ↓v_gCons, ↓v_gTup, ↓g_add, ↓g_addS, ↓g_addT, ↓g_addL, ↓g_sub, ↓g_mul, ↓g_fdiv, ↓g_mod, ↓g_pow, ↓g_eq, ↓g_ne, ↓g_lt, ↓g_gt, ↓g_le, ↓g_ge, ↓g_ltT, ↓g_gtT, ↓g_leT, ↓g_geT, ↓g_inT, ↓g_inL, ↓g_is, ↓g_neg, ↓g_not, ↓g_lenL, ↓g_lenT, ↓g_lenD, ↓g_intI, ↓g_intB, ↓g_abs, ↓g_gcd, ↓g_repr, ↓g_listL, ↓g_listT, ↓g_tupL, ↓g_tupT, ↓g_ixL0, ↓g_ixL1, ↓g_ixL2, ↓g_ixL3, ↓g_ixT0, ↓g_ixT1, ↓g_ixT2, ↓g_ixT3, ↓g_ixL, ↓g_ixT, ↓g_slL, ↓g_slT, ↓g_revL, ↓g_revT, n_non, n_int, n_tup, n_str, n_bl, n_lst, ↓n_enLst, ↓n_onOwn, ↓en0, ↓enS, eqOk_int, eqOk_str, eqv_int, eqv_str, exists_eq_left', atI0, atI1, atI2, atI3, isa, Int.cast_ofNat_Int, List.length_cons, List.length_nil, List.set_cons_zero, List.set_cons_succ, Option.some.injEq, true_and, and_true, if_true, if_false, Bool.not_true, Bool.not_false, Bool.xor_false, Bool.false_xor, Bool.true_xor, decide_eq_true_eq, Bool.not_eq_true', decide_eq_false_iff_not, Nat.reduceAdd, Nat.zero_add, w_err, fnEnds, shaped_c0, shaped_c1, shaped_c2, shaped_c3, List.map_cons, List.map_nil, Bool.false_eq_true, reduceIte, decide_true, decide_false, Bool.not_eq_true, decide_not, Bool.not_not, ne_eq, Nat.reduceLeDiff, sizeBig, Int.reduceAbs, Int.reduceLE, Int.reduceLT, Int.reduceAdd, Int.reduceSub, Int.reduceMul, Int.reduceNeg, Int.reduceToNat, Int.reducePow, Int.reduceEq, Nat.reducePow, Nat.reduceLT, ofString_inj, String.reduceEq, shaped_lit, shaped_int, shaped_bool, shaped_none, sm_lt, mb_lit_l, mb_lit_r, ↓w_pick, ↓w_pickT, ↓w_draw, w_wipe0, w_wipe1, List.nil_append, List.cons_append, reduceCtorEq, Bool.true_eq_false, eq_self, not_true_eq_false, not_false_eq_true, List.any_cons, List.any_nil, Bool.or_false, Bool.false_or, Bool.or_true, Bool.true_or, Bool.and_true, Bool.true_and, Bool.and_false, Bool.false_and, ↓sp__law_draw, ↓sp__law_pick, gKw_0_ap, gKw_1_0_ap]
      refine ⟨.inr ⟨o2, rfl⟩, ?_⟩
      split
      · rename_i h
        rw [o1] at h
        rw [if_pos (by simpa using h)] at hK
        exact hK
      · rename_i h
        rw [o1] at h
        rw [if_neg (by simpa using h)] at hK
        exact hK
  rw [fm_if]
  rw [vs_data]
  simp only [↓w_seq, ↓w_set, ↓w_ret, ↓w_retN, ↓w_retV, ↓w_if, ↓w_drop, ↓w_asg, ↓w_par, ↓w_par3, ↓w_nx, ↓w_bk, ↓w_ct, ↓w_frz, ↓w_for, ↓w_app, ↓w_ext, ↓w_bin, ↓w_un, ↓w_var, ↓w_con, ↓w_callB, ↓w_nilU, ↓w_consU, ↓w_consS, ↓w_nilD, ↓w_consD, ↓w_consO, ↓w_tup, ↓w_lst, ↓w_dic0, ↓w_and, ↓w_or, ↓w_not, ↓w_ite, ↓w_chain, ↓w_isa, ↓w_fn, ↓w_fnK, ↓w_sl, ↓w_noO, ↓w_someO, ↓w_yes, ↓w_tst, ↓w_lc, ↓w_it, ↓w_enum, ↓w_zip, ↓w_rng1, ↓w_rng2, ↓w_never, ↓w_kNil, ↓w_kCons, ↓w_disp, ↓w_mg0, ↓w_mg1, ↓w_put0, ↓w_keyS, ↓w_keyI, ↓w_sset, ↓w_dicT, ↓w_inT, ↓w_ixT, ↓w_listT, ↓w_stoT, ↓w_stoU, ↓w_enDt, ↓w_onDt, ↓w_enOw, ↓w_onOw, ↓w_stoL, ↓w_stoD, ↓w_enZ, ↓g_min2, ↓g_minL, ↓g_minT, ↓g_max2, ↓g_maxL, ↓g_maxT, ↓g_sum, ↓g_all, ↓g_any, ↓v_use_d, ↓v_arg_d, ↓v_sto_d, ↓v_rd_d, ↓v_frz_d, ↓v_src_d, ↓v_use_own, ↓v_arg_own, ↓v_sto_own, ↓v_rd_own, ↓v_src_own, ↓v_use_bor, ↓v_arg_bor, ↓v_sto_bor, ↓v_rd_bor, ↓v_frz_bor, ↓v_src_bor, ↓v_use_scr, ↓v_arg_scr, ↓v_sto_scr, ↓v_rd_scr, ↓v_frz_scr, ↓v_src_scr, ↓v_use_box, ↓v_arg_box, ↓v_sto_box, ↓v_rd_box, ↓v_frz_box, ↓v_src_box, ↓v_bl, ↓v_frz_L, ↓v_frz_D, ↓v_frz_T, ↓v_rd_L, ↓v_rd_D, ↓v_dat_l, ↓v_dat_d, ↓v_onD, ↓v_onI, ↓v_onL, ↓v_on1, ↓v_on2, ↓v_on3, ↓v_all0, ↓v_all1, ↓v_seqL, ↓v_seqT, ↓v_gNm, ↓v_gNil, ↓v_gCons, ↓v_gTup, ↓g_add, ↓g_addS, ↓g_addT, ↓g_addL, ↓g_sub, ↓g_mul, ↓g_fdiv, ↓g_mod, ↓g_pow, ↓g_eq, ↓g_ne, ↓g_lt, ↓g_gt, ↓g_le, ↓g_ge, ↓g_ltT, ↓g_gtT, ↓g_leT, ↓g_geT, ↓g_inT, ↓g_inL, ↓g_is, ↓g_neg, ↓g_not, ↓g_lenL, ↓g_lenT, ↓g_lenD, ↓g_intI, ↓g_intB, ↓g_abs, ↓g_gcd, ↓g_repr, ↓g_listL, ↓g_listT, ↓g_tupL, ↓g_tupT, ↓g_ixL0, ↓g_ixL1, ↓g_ixL2, ↓g_ixL3, ↓g_ixT0, ↓g_ixT1, ↓g_ixT2, ↓g_ixT3, ↓g_ixL, ↓g_ixT, ↓g_slL, ↓g_slT, ↓g_revL, ↓g_revT, n_non, n_int, n_tup, n_str, n_bl, n_lst, ↓n_enLst, ↓n_onOwn, ↓en0, ↓enS, eqOk_int, eqOk_str, eqv_int, eqv_str, exists_eq_left', atI0, atI1, atI2, atI3, isa, Int.cast_ofNat_Int, List.length_cons, List.length_nil, List.set_cons_zero, List.set_cons_succ, Option.some.injEq, true_and, and_true, if_true, if_false, Bool.not_true, Bool.not_false, Bool.xor_false, Bool.false_xor, Bool.true_xor, decide_eq_true_eq, Bool.not_eq_true', decide_eq_false_iff_not, Nat.reduceAdd, Nat.zero_add, w_err, fnEnds, shaped_c0, shaped_c1, shaped_c2, shaped_c3, List.map_cons, List.map_nil, Bool.false_eq_true, reduceIte, decide_true, decide_false, Bool.not_eq_true, decide_not, Bool.not_not, ne_eq, Nat.reduceLeDiff, sizeBig, Int.reduceAbs, Int.reduceLE, Int.reduceLT, Int.reduceAdd, Int.reduceSub, Int.reduceMul, Int.reduceNeg, Int.reduceToNat, Int.reducePow, Int.reduceEq, Nat.reducePow, Nat.reduceLT, ofString_inj, String.reduceEq, shaped_lit, shaped_int, shaped_bool, shaped_none, sm_lt, mb_lit_l, mb_lit_r, ↓w_pick, ↓w_pickT, ↓w_draw, w_wipe0, w_wipe1, List.nil_append, List.cons_append, reduceCtorEq, Bool.true_eq_false, eq_self, not_true_eq_false, not_false_eq_true, List.any_cons, List.any_nil, Bool.or_false, Bool.false_or, Bool.or_true, Bool.true_or, Bool.and_true, Bool.true_and, Bool.and_false, Bool.false_and, ↓sp__law_draw, ↓sp__law_pick, gKw_0_ap, gKw_1_0_ap]
  have tV : Tm 1000 1 (.tuple ((vsOf ns).map .int)) := tm_vs ns
  simp only [d__law_is_right_4, ↓w_seq, ↓w_set, ↓w_ret, ↓w_retN, ↓w_retV, ↓w_if, ↓w_drop, ↓w_asg, ↓w_par, ↓w_par3, ↓w_nx, ↓w_bk, ↓w_ct, ↓w_frz, ↓w_for, ↓w_app, ↓w_ext, ↓w_bin, ↓w_un, ↓w_var, ↓w_con, ↓w_callB, ↓w_nilU, ↓w_consU, ↓w_consS, ↓w_nilD, ↓w_consD, ↓w_consO, ↓w_tup, ↓w_lst, ↓w_dic0, ↓w_and, ↓w_or, ↓w_not, ↓w_ite, ↓w_chain, ↓w_isa, ↓w_fn, ↓w_fnK, ↓w_sl, ↓w_noO, ↓w_someO, ↓w_yes, ↓w_tst, ↓w_lc, ↓w_it, ↓w_enum, ↓w_zip, ↓w_rng1, ↓w_rng2, ↓w_never, ↓w_kNil, ↓w_kCons, ↓w_disp, ↓w_mg0, ↓w_mg1, ↓w_put0, ↓w_keyS, ↓w_keyI, ↓w_sset, ↓w_dicT, ↓w_inT, ↓w_ixT, ↓w_listT, ↓w_stoT, ↓w_stoU, ↓w_enDt, ↓w_onDt, ↓w_enOw, ↓w_onOw, ↓w_stoL, ↓w_stoD, ↓w_enZ, ↓g_min2, ↓g_minL, ↓g_minT, ↓g_max2, ↓g_maxL, ↓g_maxT, ↓g_sum, ↓g_all, ↓g_any, ↓v_use_d, ↓v_arg_d, ↓v_sto_d, ↓v_rd_d, ↓v_frz_d, ↓v_src_d, ↓v_use_own, ↓v_arg_own, ↓v_sto_own, ↓v_rd_own, ↓v_src_own, ↓v_use_bor, ↓v_arg_bor, ↓v_sto_bor, ↓v_rd_bor, ↓v_frz_bor, ↓v_src_bor, ↓v_use_scr, ↓v_arg_scr, ↓v_sto_scr, ↓v_rd_scr, ↓v_frz_scr, ↓v_src_scr, ↓v_use_box, ↓v_arg_box, ↓v_sto_box, ↓v_rd_box, ↓v_frz_box, ↓v_src_box, ↓v_bl, ↓v_frz_L, ↓v_frz_D, ↓v_frz_T, ↓v_rd_L, ↓v_rd_D, ↓v_dat_l, ↓v_dat_d, ↓v_onD, ↓v_onI, ↓v_onL, ↓v_on1, ↓v_on2, ↓v_on3, ↓v_all0, ↓v_all1, ↓v_seqL, ↓v_seqT, ↓v_gNm, ↓v_gNil, ↓v_gCons, ↓v_gTup, ↓g_add, ↓g_addS, ↓g_addT, ↓g_addL, ↓g_sub, ↓g_mul, ↓g_fdiv, ↓g_mod, ↓g_pow, ↓g_eq, ↓g_ne, ↓g_lt, ↓g_gt, ↓g_le, ↓g_ge, ↓g_ltT, ↓g_gtT, ↓g_leT, ↓g_geT, ↓g_inT, ↓g_inL, ↓g_is, ↓g_neg, ↓g_not, ↓g_lenL, ↓g_lenT, ↓g_lenD, ↓g_intI, ↓g_intB, ↓g_abs, ↓g_gcd, ↓g_repr, ↓g_listL, ↓g_listT, ↓g_tupL, ↓g_tupT, ↓g_ixL0, ↓g_ixL1, ↓g_ixL2, ↓g_ixL3, ↓g_ixT0, ↓g_ixT1, ↓g_ixT2, ↓g_ixT3, ↓g_ixL, ↓g_ixT, ↓g_slL, ↓g_slT, ↓g_revL, ↓g_revT, n_non, n_int, n_tup, n_str, n_bl, n_lst, ↓n_enLst, ↓n_onOwn, ↓en0, ↓enS, eqOk_int, eqOk_str, eqv_int, eqv_str, exists_eq_left', atI0, atI1, atI2, atI3, isa, Int.cast_ofNat_Int, List.length_cons, List.length_nil, List.set_cons_zero, List.set_cons_succ, Option.some.injEq, true_and, and_true, if_true, if_false, Bool.not_true, Bool.not_false, Bool.xor_false, Bool.false_xor, Bool.true_xor, decide_eq_true_eq, Bool.not_eq_true', decide_eq_false_iff_not, Nat.reduceAdd, Nat.zero_add, w_err, fnEnds, shaped_c0, shaped_c1, shaped_c2, shaped_c3, List.map_cons, List.map_nil, Bool.false_eq_true, reduceIte, decide_true, decide_false, Bool.not_eq_true, decide_not, Bool.not_not, ne_eq, Nat.reduceLeDiff, sizeBig, Int.reduceAbs, Int.reduceLE, Int.reduceLT, Int.reduceAdd, Int.reduceSub, Int.reduceMul, Int.reduceNeg, Int.reduceToNat, Int.reducePow, Int.reduceEq, Nat.reducePow, Nat.reduceLT, ofString_inj, String.reduceEq, shaped_lit, shaped_int, shaped_bool, shaped_none, sm_lt, mb_lit_l, mb_lit_r, ↓w_pick, ↓w_pickT, ↓w_draw, w_wipe0, w_wipe1, List.nil_append, List.cons_append, reduceCtorEq, Bool.true_eq_false, eq_self, not_true_eq_false, not_false_eq_true, List.any_cons, List.any_nil, Bool.or_false, Bool.false_or, Bool.or_true, Bool.true_or, Bool.and_true, Bool.true_and, Bool.and_false, Bool.false_and, ↓sp__law_draw, ↓sp__law_pick, gKw_0_ap, gKw_1_0_ap]
  refine ⟨ns, rfl, by omega, ?_⟩
  simp only [↓w_seq, ↓w_set, ↓w_ret, ↓w_retN, ↓w_retV, ↓w_if, ↓w_drop, ↓w_asg, ↓w_par, ↓w_par3, ↓w_nx, ↓w_bk, ↓w_ct, ↓w_frz, ↓w_for, ↓w_app, ↓w_ext, ↓w_bin, ↓w_un, ↓w_var, ↓w_con, ↓w_callB, ↓w_nilU, ↓w_consU, ↓w_consS, ↓w_nilD, ↓w_consD, ↓w_consO, ↓w_tup, ↓w_lst, ↓w_dic0, ↓w_and, ↓w_or, ↓w_not, ↓w_ite, ↓w_chain, ↓w_isa, ↓w_fn, ↓w_fnK, ↓w_sl, ↓w_noO, ↓w_someO, ↓w_yes, ↓w_tst, ↓w_lc, ↓w_it, ↓w_enum, ↓w_zip, ↓w_rng1, ↓w_rng2, ↓w_never, ↓w_kNil, ↓w_kCons, ↓w_disp, ↓w_mg0, ↓w_mg1, ↓w_put0, ↓w_keyS, ↓w_keyI, ↓w_sset, ↓w_dicT, ↓w_inT, ↓w_ixT, ↓w_listT, ↓w_stoT, ↓w_stoU, ↓w_enDt, ↓w_onDt, ↓w_enOw, ↓w_onOw, ↓w_stoL, ↓w_stoD, ↓w_enZ, ↓g_min2, ↓g_minL, ↓g_minT, ↓g_max2, ↓g_maxL, ↓g_maxT, ↓g_sum, ↓g_all, ↓g_any, ↓v_use_d, ↓v_arg_d, ↓v_sto_d, ↓v_rd_d, ↓v_frz_d, ↓v_src_d, ↓v_use_own, ↓v_arg_own, ↓v_sto_own, ↓v_rd_own, ↓v_src_own, ↓v_use_bor, ↓v_arg_bor, ↓v_sto_bor, ↓v_rd_bor, ↓v_frz_bor, ↓v_src_bor, ↓v_use_scr, ↓v_arg_scr, ↓v_sto_scr, ↓v_rd_scr, ↓v_frz_scr, ↓v_src_scr, ↓v_use_box, ↓v_arg_box, ↓v_sto_box, ↓v_rd_box, ↓v_frz_box, ↓v_src_box, ↓v_bl, ↓v_frz_L, ↓v_frz_D, ↓v_frz_T, ↓v_rd_L, ↓v_rd_D, ↓v_dat_l, ↓v_dat_d, ↓v_onD, ↓v_onI, ↓v_onL, ↓v_on1, ↓v_on2, ↓v_on3, ↓v_all0, ↓v_all1, ↓v_seqL, ↓v_seqT, ↓v_gNm, ↓v_gNil, ↓v_gCons, ↓v_gTup, ↓g_add, ↓g_addS, ↓g_addT, ↓g_addL, ↓g_sub, ↓g_mul, ↓g_fdiv, ↓g_mod, ↓g_pow, ↓g_eq, ↓g_ne, ↓g_lt, ↓g_gt, ↓g_le, ↓g_ge, ↓g_ltT, ↓g_gtT, ↓g_leT, ↓g_geT, ↓g_inT, ↓g_inL, ↓g_is, ↓g_neg, ↓g_not, ↓g_lenL, ↓g_lenT, ↓g_lenD, ↓g_intI, ↓g_intB, ↓g_abs, ↓g_gcd, ↓g_repr, ↓g_listL, ↓g_listT, ↓g_tupL, ↓g_tupT, ↓g_ixL0, ↓g_ixL1, ↓g_ixL2, ↓g_ixL3, ↓g_ixT0, ↓g_ixT1, ↓g_ixT2, ↓g_ixT3, ↓g_ixL, ↓g_ixT, ↓g_slL, ↓g_slT, ↓g_revL, ↓g_revT, n_non, n_int, n_tup, n_str, n_bl, n_lst, ↓n_enLst, ↓n_onOwn, ↓en0, ↓enS, eqOk_int, eqOk_str, eqv_int, eqv_str, exists_eq_left', atI0, atI1, atI2, atI3, isa, Int.cast_ofNat_Int, List.length_cons, List.length_nil, List.set_cons_zero, List.set_cons_succ, Option.some.injEq, true_and, and_true, if_true, if_false, Bool.not_true, Bool.not_false, Bool.xor_false, Bool.false_xor, Bool.true_xor, decide_eq_true_eq, Bool.not_eq_true', decide_eq_false_iff_not, Nat.reduceAdd, Nat.zero_add, w_err, fnEnds, shaped_c0, shaped_c1, shaped_c2, shaped_c3, List.map_cons, List.map_nil, Bool.false_eq_true, reduceIte, decide_true, decide_false, Bool.not_eq_true, decide_not, Bool.not_not, ne_eq, Nat.reduceLeDiff, sizeBig, Int.reduceAbs, Int.reduceLE, Int.reduceLT, Int.reduceAdd, Int.reduceSub, Int.reduceMul, Int.reduceNeg, Int.reduceToNat, Int.reducePow, Int.reduceEq, Nat.reducePow, Nat.reduceLT, ofString_inj, String.reduceEq, shaped_lit, shaped_int, shaped_bool, shaped_none, sm_lt, mb_lit_l, mb_lit_r, ↓w_pick, ↓w_pickT, ↓w_draw, w_wipe0, w_wipe1, List.nil_append, List.cons_append, reduceCtorEq, Bool.true_eq_false, eq_self, not_true_eq_false, not_false_eq_true, List.any_cons, List.any_nil, Bool.or_false, Bool.false_or, Bool.or_true, Bool.true_or, Bool.and_true, Bool.true_and, Bool.and_false, Bool.false_and, ↓sp__law_draw, ↓sp__law_pick, gKw_0_ap, gKw_1_0_ap]
  refine ⟨ns, rfl, by omega, ?_⟩
  simp only [↓w_seq, ↓w_set, ↓w_ret, ↓w_retN, ↓w_retV, ↓w_if, ↓w_drop, ↓w_asg, ↓w_par, ↓w_par3, ↓w_nx, ↓w_bk, ↓w_ct, ↓w_frz, ↓w_for, ↓w_app, ↓w_ext, ↓w_bin, ↓w_un, ↓w_var, ↓w_con, ↓w_callB, ↓w_nilU, ↓w_consU, ↓w_consS, ↓w_nilD, ↓w_consD, ↓w_consO, ↓w_tup, ↓w_lst, ↓w_dic0, ↓w_and, ↓w_or, ↓w_not, ↓w_ite, ↓w_chain, ↓w_isa, ↓w_fn, ↓w_fnK, ↓w_sl, ↓w_noO, ↓w_someO, ↓w_yes, ↓w_tst, ↓w_lc, ↓w_it, ↓w_enum, ↓w_zip, ↓w_rng1, ↓w_rng2, ↓w_never, ↓w_kNil, ↓w_kCons, ↓w_disp, ↓w_mg0, ↓w_mg1, ↓w_put0, ↓w_keyS, ↓w_keyI, ↓w_sset, ↓w_dicT, ↓w_inT, ↓w_ixT, ↓w_listT, ↓w_stoT, ↓w_stoU, ↓w_enDt, ↓w_onDt, ↓w_enOw, ↓w_onOw, ↓w_stoL, ↓w_stoD, ↓w_enZ, ↓g_min2, ↓g_minL, ↓g_minT, ↓g_max2, ↓g_maxL, ↓g_maxT, ↓g_sum, ↓g_all, ↓g_any, ↓v_use_d, ↓v_arg_d, ↓v_sto_d, ↓v_rd_d, ↓v_frz_d, ↓v_src_d, ↓v_use_own, ↓v_arg_own, ↓v_sto_own, ↓v_rd_own, ↓v_src_own, ↓v_use_bor, ↓v_arg_bor, ↓v_sto_bor, ↓v_rd_bor, ↓v_frz_bor, ↓v_src_bor, ↓v_use_scr, ↓v_arg_scr, ↓v_sto_scr, ↓v_rd_scr, ↓v_frz_scr, ↓v_src_scr, ↓v_use_box, ↓v_arg_box, ↓v_sto_box, ↓v_rd_box, ↓v_frz_box, ↓v_src_box, ↓v_bl, ↓v_frz_L, ↓v_frz_D, ↓v_frz_T, ↓v_rd_L, ↓v_rd_D, ↓v_dat_l, ↓v_dat_d, ↓v_onD, ↓v_onI, ↓v_onL, ↓v_on1, ↓v_on2, ↓v_on3, ↓v_all0, ↓v_all1, ↓v_seqL, ↓v_seqT, ↓v_gNm, ↓v_gNil, ↓v_gCons, ↓v_gTup, ↓g_add, ↓g_addS, ↓g_addT, ↓g_addL, ↓g_sub, ↓g_mul, ↓g_fdiv, ↓g_mod, ↓g_pow, ↓g_eq, ↓g_ne, ↓g_lt, ↓g_gt, ↓g_le, ↓g_ge, ↓g_ltT, ↓g_gtT, ↓g_leT, ↓g_geT, ↓g_inT, ↓g_inL, ↓g_is, ↓g_neg, ↓g_not, ↓g_lenL, ↓g_lenT, ↓g_lenD, ↓g_intI, ↓g_intB, ↓g_abs, ↓g_gcd, ↓g_repr, ↓g_listL, ↓g_listT, ↓g_tupL, ↓g_tupT, ↓g_ixL0, ↓g_ixL1, ↓g_ixL2, ↓g_ixL3, ↓g_ixT0, ↓g_ixT1, ↓g_ixT2, ↓g_ixT3, ↓g_ixL, ↓g_ixT, ↓g_slL, ↓g_slT, ↓g_revL, ↓g_revT, n_non, n_int, n_tup, n_str, n_bl, n_lst, ↓n_enLst, ↓n_onOwn, ↓en0, ↓enS, eqOk_int, eqOk_str, eqv_int, eqv_str, exists_eq_left', atI0, atI1, atI2, atI3, isa, Int.cast_ofNat_Int, List.length_cons, List.length_nil, List.set_cons_zero, List.set_cons_succ, Option.some.injEq, true_and, and_true, if_true, if_false, Bool.not_true, Bool.not_false, Bool.xor_false, Bool.false_xor, Bool.true_xor, decide_eq_true_eq, Bool.not_eq_true', decide_eq_false_iff_not, Nat.reduceAdd, Nat.zero_add, w_err, fnEnds, shaped_c0, shaped_c1, shaped_c2, shaped_c3, List.map_cons, List.map_nil, Bool.false_eq_true, reduceIte, decide_true, decide_false, Bool.not_eq_true, decide_not, Bool.not_not, ne_eq, Nat.reduceLeDiff, sizeBig, Int.reduceAbs, Int.reduceLE, Int.reduceLT, Int.reduceAdd, Int.reduceSub, Int.reduceMul, Int.reduceNeg, Int.reduceToNat, Int.reducePow, Int.reduceEq, Nat.reducePow, Nat.reduceLT, ofString_inj, String.reduceEq, shaped_lit, shaped_int, shaped_bool, shaped_none, sm_lt, mb_lit_l, mb_lit_r, ↓w_pick, ↓w_pickT, ↓w_draw, w_wipe0, w_wipe1, List.nil_append, List.cons_append, reduceCtorEq, Bool.true_eq_false, eq_self, not_true_eq_false, not_false_eq_true, List.any_cons, List.any_nil, Bool.or_false, Bool.false_or, Bool.or_true, Bool.true_or, Bool.and_true, Bool.true_and, Bool.and_false, Bool.false_and, ↓sp__law_draw, ↓sp__law_pick, gKw_0_ap, gKw_1_0_ap]
  refine ⟨ns, rfl, by omega, hok, ?_⟩
  have sh : showOk (.list [.tuple ((ptsOf ns).map eP), .tuple ((ptsOf ns).map eP), .tuple ((vsOf ns).map .int)]) := (Tm.lst (n := 70000) (k := 5) (c := 3) (n' := 300000) (k' := 6) (fal tP (fal tP (fal (tV.mono (by decide) (by decide)) fan))) (Nat.le_refl _)).ok (by decide) (by decide)
  simp only [↓w_seq, ↓w_set, ↓w_ret, ↓w_retN, ↓w_retV, ↓w_if, ↓w_drop, ↓w_asg, ↓w_par, ↓w_par3, ↓w_nx, ↓w_bk, ↓w_ct, ↓w_frz, ↓w_for, ↓w_app, ↓w_ext, ↓w_bin, ↓w_un, ↓w_var, ↓w_con, ↓w_callB, ↓w_nilU, ↓w_consU, ↓w_consS, ↓w_nilD, ↓w_consD, ↓w_consO, ↓w_tup, ↓w_lst, ↓w_dic0, ↓w_and, ↓w_or, ↓w_not, ↓w_ite, ↓w_chain, ↓w_isa, ↓w_fn, ↓w_fnK, ↓w_sl, ↓w_noO, ↓w_someO, ↓w_yes, ↓w_tst, ↓w_lc, ↓w_it, ↓w_enum, ↓w_zip, ↓w_rng1, ↓w_rng2, ↓w_never, ↓w_kNil, ↓w_kCons, ↓w_disp, ↓w_mg0, ↓w_mg1, ↓w_put0, ↓w_keyS, ↓w_keyI, ↓w_sset, ↓w_dicT, ↓w_inT, ↓w_ixT, ↓w_listT, ↓w_stoT, ↓w_stoU, ↓w_enDt, ↓w_onDt, ↓w_enOw, ↓w_onOw, ↓w_stoL, ↓w_stoD, ↓w_enZ, ↓g_min2, ↓g_minL, ↓g_minT, ↓g_max2, ↓g_maxL, ↓g_maxT, ↓g_sum, ↓g_all, ↓g_any, ↓v_use_d, ↓v_arg_d, ↓v_sto_d, ↓v_rd_d, ↓v_frz_d, ↓v_src_d, ↓v_use_own, ↓v_arg_own, ↓v_sto_own, ↓v_rd_own, ↓v_src_own, ↓v_use_bor, ↓v_arg_bor, ↓v_sto_bor, ↓v_rd_bor, ↓v_frz_bor, ↓v_src_bor, ↓v_use_scr, ↓v_arg_scr, ↓v_sto_scr, ↓v_rd_scr, ↓v_frz_scr, ↓v_src_scr, ↓v_use_box, ↓v_arg_box, ↓v_sto_box, ↓v_rd_box, ↓v_frz_box, ↓v_src_box, ↓v_bl, ↓v_frz_L, ↓v_frz_D, ↓v_frz_T, ↓v_rd_L, ↓v_rd_D, ↓v_dat_l, ↓v_dat_d, ↓v_onD, ↓v_onI, ↓v_onL, ↓v_on1, ↓v_on2, ↓v_on3, ↓v_all0, ↓v_all1, ↓v_seqL, ↓v_seqT, ↓v_gNm, ↓v_gNil, ↓v_gCons, ↓v_gTup, ↓g_add, ↓g_addS, ↓g_addT, ↓g_addL, ↓g_sub, ↓g_mul, ↓g_fdiv, ↓g_mod, ↓g_pow, ↓g_eq, ↓g_ne, ↓g_lt, ↓g_gt, ↓g_le, ↓g_ge, ↓g_ltT, ↓g_gtT, ↓g_leT, ↓g_geT, ↓g_inT, ↓g_inL, ↓g_is, ↓g_neg, ↓g_not, ↓g_lenL, ↓g_lenT, ↓g_lenD, ↓g_intI, ↓g_intB, ↓g_abs, ↓g_gcd, ↓g_repr, ↓g_listL, ↓g_listT, ↓g_tupL, ↓g_tupT, ↓g_ixL0, ↓g_ixL1, ↓g_ixL2, ↓g_ixL3, ↓g_ixT0, ↓g_ixT1, ↓g_ixT2, ↓g_ixT3, ↓g_ixL, ↓g_ixT, ↓g_slL, ↓g_slT, ↓g_revL, ↓g_revT, n_non, n_int, n_tup, n_str, n_bl, n_lst, ↓n_enLst, ↓n_onOwn, ↓en0, ↓enS, eqOk_int, eqOk_str, eqv_int, eqv_str, exists_eq_left', atI0, atI1, atI2, atI3, isa, Int.cast_ofNat_Int, List.length_cons, List.length_nil, List.set_cons_zero, List.set_cons_succ, Option.some.injEq, true_and, and_true, if_true, if_false, Bool.not_true, Bool.not_false, Bool.xor_false, Bool.false_xor, Bool.true_xor, decide_eq_true_eq, Bool.not_eq_true', decide_eq_false_iff_not, Nat.reduceAdd, Nat.zero_add, w_err, fnEnds, shaped_c0, shaped_c1, shaped_c2, shaped_c3, List.map_cons, List.map_nil, Bool.false_eq_true, reduceIte, decide_true, decide_false, Bool.not_eq_true, decide_not, Bool.not_not, ne_eq, Nat.reduceLeDiff, sizeBig, Int.reduceAbs, Int.reduceLE, Int.reduceLT, Int.reduceAdd, Int.reduceSub, Int.reduceMul, Int.reduceNeg, Int.reduceToNat, Int.reducePow, Int.reduceEq, Nat.reducePow, Nat.reduceLT, ofString_inj, String.reduceEq, shaped_lit, shaped_int, shaped_bool, shaped_none, sm_lt, mb_lit_l, mb_lit_r, ↓w_pick, ↓w_pickT, ↓w_draw, w_wipe0, w_wipe1, List.nil_append, List.cons_append, reduceCtorEq, Bool.true_eq_false, eq_self, not_true_eq_false, not_false_eq_true, List.any_cons, List.any_nil, Bool.or_false, Bool.false_or, Bool.or_true, Bool.true_or, Bool.and_true, Bool.true_and, Bool.and_false, Bool.false_and, ↓sp__law_draw, ↓sp__law_pick, gKw_0_ap, gKw_1_0_ap]
  refine ⟨sh, sh, ?_⟩
  simp only [d__law_is_right_5, ↓w_seq, ↓w_set, ↓w_ret, ↓w_retN, ↓w_retV, ↓w_if, ↓w_drop, ↓w_asg, ↓w_par, ↓w_par3, ↓w_nx, ↓w_bk, ↓w_ct, ↓w_frz, ↓w_for, ↓w_app, ↓w_ext, ↓w_bin, ↓w_un, ↓w_var, ↓w_con, ↓w_callB, ↓w_nilU, ↓w_consU, ↓w_consS, ↓w_nilD, ↓w_consD, ↓w_consO, ↓w_tup, ↓w_lst, ↓w_dic0, ↓w_and, ↓w_or, ↓w_not, ↓w_ite, ↓w_chain, ↓w_isa, ↓w_fn, ↓w_fnK, ↓w_sl, ↓w_noO, ↓w_someO, ↓w_yes, ↓w_tst, ↓w_lc, ↓w_it, ↓w_enum, ↓w_zip, ↓w_rng1, ↓w_rng2, ↓w_never, ↓w_kNil, ↓w_kCons, ↓w_disp, ↓w_mg0, ↓w_mg1, ↓w_put0, ↓w_keyS, ↓w_keyI, ↓w_sset, ↓w_dicT, ↓w_inT, ↓w_ixT, ↓w_listT, ↓w_stoT, ↓w_stoU, ↓w_enDt, ↓w_onDt, ↓w_enOw, ↓w_onOw, ↓w_stoL, ↓w_stoD, ↓w_enZ, ↓g_min2, ↓g_minL, ↓g_minT, ↓g_max2, ↓g_maxL, ↓g_maxT, ↓g_sum, ↓g_all, ↓g_any, ↓v_use_d, ↓v_arg_d, ↓v_sto_d, ↓v_rd_d, ↓v_frz_d, ↓v_src_d, ↓v_use_own, ↓v_arg_own, ↓v_sto_own, ↓v_rd_own, ↓v_src_own, ↓v_use_bor, ↓v_arg_bor, ↓v_sto_bor, ↓v_rd_bor, ↓v_frz_bor, ↓v_src_bor, ↓v_use_scr, ↓v_arg_scr, ↓v_sto_scr, ↓v_rd_scr, ↓v_frz_scr, ↓v_src_scr, ↓v_use_box, ↓v_arg_box, ↓v_sto_box, ↓v_rd_box, ↓v_frz_box, ↓v_src_box, ↓v_bl, ↓v_frz_L, ↓v_frz_D, ↓v_frz_T, ↓v_rd_L, ↓v_rd_D, ↓v_dat_l, ↓v_dat_d, ↓v_onD, ↓v_onI, ↓v_onL, ↓v_on1, ↓v_on2, ↓v_on3, ↓v_all0, ↓v_all1, ↓v_seqL, ↓v_seqT, ↓v_gNm, ↓v_gNil, ↓v_gCons, ↓v_gTup, ↓g_add, ↓g_addS, ↓g_addT, ↓g_addL, ↓g_sub, ↓g_mul, ↓g_fdiv, ↓g_mod, ↓g_pow, ↓g_eq, ↓g_ne, ↓g_lt, ↓g_gt, ↓g_le, ↓g_ge, ↓g_ltT, ↓g_gtT, ↓g_leT, ↓g_geT, ↓g_inT, ↓g_inL, ↓g_is, ↓g_neg, ↓g_not, ↓g_lenL, ↓g_lenT, ↓g_lenD, ↓g_intI, ↓g_intB, ↓g_abs, ↓g_gcd, ↓g_repr, ↓g_listL, ↓g_listT, ↓g_tupL, ↓g_tupT, ↓g_ixL0, ↓g_ixL1, ↓g_ixL2, ↓g_ixL3, ↓g_ixT0, ↓g_ixT1, ↓g_ixT2, ↓g_ixT3, ↓g_ixL, ↓g_ixT, ↓g_slL, ↓g_slT, ↓g_revL, ↓g_revT, n_non, n_int, n_tup, n_str, n_bl, n_lst, ↓n_enLst, ↓n_onOwn, ↓en0, ↓enS, eqOk_int, eqOk_str, eqv_int, eqv_str, exists_eq_left', atI0, atI1, atI2, atI3, isa, Int.cast_ofNat_Int, List.length_cons, List.length_nil, List.set_cons_zero, List.set_cons_succ, Option.some.injEq, true_and, and_true, if_true, if_false, Bool.not_true, Bool.not_false, Bool.xor_false, Bool.false_xor, Bool.true_xor, decide_eq_true_eq, Bool.not_eq_true', decide_eq_false_iff_not, Nat.reduceAdd, Nat.zero_add, w_err, fnEnds, shaped_c0, shaped_c1, shaped_c2, shaped_c3, List.map_cons, List.map_nil, Bool.false_eq_true, reduceIte, decide_true, decide_false, Bool.not_eq_true, decide_not, Bool.not_not, ne_eq, Nat.reduceLeDiff, sizeBig, Int.reduceAbs, Int.reduceLE, Int.reduceLT, Int.reduceAdd, Int.reduceSub, Int.reduceMul, Int.reduceNeg, Int.reduceToNat, Int.reducePow, Int.reduceEq, Nat.reducePow, Nat.reduceLT, ofString_inj, String.reduceEq, shaped_lit, shaped_int, shaped_bool, shaped_none, sm_lt, mb_lit_l, mb_lit_r, ↓w_pick, ↓w_pickT, ↓w_draw, w_wipe0, w_wipe1, List.nil_append, List.cons_append, reduceCtorEq, Bool.true_eq_false, eq_self, not_true_eq_false, not_false_eq_true, List.any_cons, List.any_nil, Bool.or_false, Bool.false_or, Bool.or_true, Bool.true_or, Bool.and_true, Bool.true_and, Bool.and_false, Bool.false_and, ↓sp__law_draw, ↓sp__law_pick, gKw_0_ap, gKw_1_0_ap]
  simp only [d__law_is_right_6, ↓w_seq, ↓w_set, ↓w_ret, ↓w_retN, ↓w_retV, ↓w_if, ↓w_drop, ↓w_asg, ↓w_par, ↓w_par3, ↓w_nx, ↓w_bk, ↓w_ct, ↓w_frz, ↓w_for, ↓w_app, ↓w_ext, ↓w_bin, ↓w_un, ↓w_var, ↓w_con, ↓w_callB, ↓w_nilU, ↓w_consU, ↓w_consS, ↓w_nilD, ↓w_consD, ↓w_consO, ↓w_tup, ↓w_lst, ↓w_dic0, ↓w_and, ↓w_or, ↓w_not, ↓w_ite, ↓w_chain, ↓w_isa, ↓w_fn, ↓w_fnK, ↓w_sl, ↓w_noO, ↓w_someO, ↓w_yes, ↓w_tst, ↓w_lc, ↓w_it, ↓w_enum, ↓w_zip, ↓w_rng1, ↓w_rng2, ↓w_never, ↓w_kNil, ↓w_kCons, ↓w_disp, ↓w_mg0, ↓w_mg1, ↓w_put0, ↓w_keyS, ↓w_keyI, ↓w_sset, ↓w_dicT, ↓w_inT, ↓w_ixT, ↓w_listT, ↓w_stoT, ↓w_stoU, ↓w_enDt, ↓w_onDt, ↓w_enOw, ↓w_onOw, ↓w_stoL, ↓w_stoD, ↓w_enZ, ↓g_min2, ↓g_minL, ↓g_minT, ↓g_max2, ↓g_maxL, ↓g_maxT, ↓g_sum, ↓g_all, ↓g_any, ↓v_use_d, ↓v_arg_d, ↓v_sto_d, ↓v_rd_d, ↓v_frz_d, ↓v_src_d, ↓v_use_own, ↓v_arg_own, ↓v_sto_own, ↓v_rd_own, ↓v_src_own, ↓v_use_bor, ↓v_arg_bor, ↓v_sto_bor, ↓v_rd_bor, ↓v_frz_bor, ↓v_src_bor, ↓v_use_scr, ↓v_arg_scr, ↓v_sto_scr, ↓v_rd_scr, ↓v_frz_scr, ↓v_src_scr, ↓v_use_box, ↓v_arg_box, ↓v_sto_box, ↓v_rd_box, ↓v_frz_box, ↓v_src_box, ↓v_bl, ↓v_frz_L, ↓v_frz_D, ↓v_frz_T, ↓v_rd_L, ↓v_rd_D, ↓v_dat_l, ↓v_dat_d, ↓v_onD, ↓v_onI, ↓v_onL, ↓v_on1, ↓v_on2, ↓v_on3, ↓v_all0, ↓v_all1, ↓v_seqL, ↓v_seqT, ↓v_gNm, ↓v_gNil, ↓v_gCons, ↓v_gTup, ↓g_add, ↓g_addS, ↓g_addT, ↓g_addL, ↓g_sub, ↓g_mul, ↓g_fdiv, ↓g_mod, ↓g_pow, ↓g_eq, ↓g_ne, ↓g_lt, ↓g_gt, ↓g_le, ↓g_ge, ↓g_ltT, ↓g_gtT, ↓g_leT, ↓g_geT, ↓g_inT, ↓g_inL, ↓g_is, ↓g_neg, ↓g_not, ↓g_lenL, ↓g_lenT, ↓g_lenD, ↓g_intI, ↓g_intB, ↓g_abs, ↓g_gcd, ↓g_repr, ↓g_listL, ↓g_listT, ↓g_tupL, ↓g_tupT, ↓g_ixL0, ↓g_ixL1, ↓g_ixL2, ↓g_ixL3, ↓g_ixT0, ↓g_ixT1, ↓g_ixT2, ↓g_ixT3, ↓g_ixL, ↓g_ixT, ↓g_slL, ↓g_slT, ↓g_revL, ↓g_revT, n_non, n_int, n_tup, n_str, n_bl, n_lst, ↓n_enLst, ↓n_onOwn, ↓en0, ↓enS, eqOk_int, eqOk_str, eqv_int, eqv_str, exists_eq_left', atI0, atI1, atI2, atI3, isa, Int.cast_ofNat_Int, List.length_cons, List.length_nil, List.set_cons_zero, List.set_cons_succ, Option.some.injEq, true_and, and_true, if_true, if_false, Bool.not_true, Bool.not_false, Bool.xor_false, Bool.false_xor, Bool.true_xor, decide_eq_true_eq, Bool.not_eq_true', decide_eq_false_iff_not, Nat.reduceAdd, Nat.zero_add, w_err, fnEnds, shaped_c0, shaped_c1, shaped_c2, shaped_c3, List.map_cons, List.map_nil, Bool.false_eq_true, reduceIte, decide_true, decide_false, Bool.not_eq_true, decide_not, Bool.not_not, ne_eq, Nat.reduceLeDiff, sizeBig, Int.reduceAbs, Int.reduceLE, Int.reduceLT, Int.reduceAdd, Int.reduceSub, Int.reduceMul, Int.reduceNeg, Int.reduceToNat, Int.reducePow, Int.reduceEq, Nat.reducePow, Nat.reduceLT, ofString_inj, String.reduceEq, shaped_lit, shaped_int, shaped_bool, shaped_none, sm_lt, mb_lit_l, mb_lit_r, ↓w_pick, ↓w_pickT, ↓w_draw, w_wipe0, w_wipe1, List.nil_append, List.cons_append, reduceCtorEq, Bool.true_eq_false, eq_self, not_true_eq_false, not_false_eq_true, List.any_cons, List.any_nil, Bool.or_false, Bool.false_or, Bool.or_true, Bool.true_or, Bool.and_true, Bool.true_and, Bool.and_false, Bool.false_and, ↓sp__law_draw, ↓sp__law_pick, gKw_0_ap, gKw_1_0_ap]
  rw [enum_map]
  refine for_ind (fun e : Pt × Nat => .tuple [.int (e.2 : Nat), eP e.1]) (fun es env => ∃ acc x9 x11 x12 x13 x14 x15 x16, env = [some .box, some (.d (.tuple (ns.map eN))), some (.d (.str (PyData.tuple (ns.map eN)).shown)), some (.d (.tuple ((ptsOf ns).map eP))), none, none, none, none, some (.d (.tuple ((vsOf ns).map .int))), x9, some (.d (.tuple (acc.map eN))), x11, x12, x13, x14, x15, x16] ∧ acc ++ (es.map (·.1)).flatMap (ntsAt ns) = ns) ?_ ?_ _ _ ⟨[], _, _, _, _, _, _, _, rfl, by rw [List.nil_append, List.zipIdx_map_fst]; exact all_nts hs⟩
  · rintro env ⟨acc, x9, x11, x12, x13, x14, x15, x16, rfl, ha⟩
    rw [List.map_nil, List.flatMap_nil, List.append_nil] at ha
    subst ha
    simp only [d__law_is_right_7, ↓w_seq, ↓w_set, ↓w_ret, ↓w_retN, ↓w_retV, ↓w_if, ↓w_drop, ↓w_asg, ↓w_par, ↓w_par3, ↓w_nx, ↓w_bk, ↓w_ct, ↓w_frz, ↓w_for, ↓w_app, ↓w_ext, ↓w_bin, ↓w_un, ↓w_var, ↓w_con, ↓w_callB, ↓w_nilU, ↓w_consU, ↓w_consS, ↓w_nilD, ↓w_consD, ↓w_consO, ↓w_tup, ↓w_lst, ↓w_dic0, ↓w_and, ↓w_or, ↓w_not, ↓w_ite, ↓w_chain, ↓w_isa, ↓w_fn, ↓w_fnK, ↓w_sl, ↓w_noO, ↓w_someO, ↓w_yes, ↓w_tst, ↓w_lc, ↓w_it, ↓w_enum, ↓w_zip, ↓w_rng1, ↓w_rng2, ↓w_never, ↓w_kNil, ↓w_kCons, ↓w_disp, ↓w_mg0, ↓w_mg1, ↓w_put0, ↓w_keyS, ↓w_keyI, ↓w_sset, ↓w_dicT, ↓w_inT, ↓w_ixT, ↓w_listT, ↓w_stoT, ↓w_stoU, ↓w_enDt, ↓w_onDt, ↓w_enOw, ↓w_onOw, ↓w_stoL, ↓w_stoD, ↓w_enZ, ↓g_min2, ↓g_minL, ↓g_minT, ↓g_max2, ↓g_maxL, ↓g_maxT, ↓g_sum, ↓g_all, ↓g_any, ↓v_use_d, ↓v_arg_d, ↓v_sto_d, ↓v_rd_d, ↓v_frz_d, ↓v_src_d, ↓v_use_own, ↓v_arg_own, ↓v_sto_own, ↓v_rd_own, ↓v_src_own, ↓v_use_bor, ↓v_arg_bor, ↓v_sto_bor, ↓v_rd_bor, ↓v_frz_bor, ↓v_src_bor, ↓v_use_scr, ↓v_arg_scr, ↓v_sto_scr, ↓v_rd_scr, ↓v_frz_scr, ↓v_src_scr, ↓v_use_box, ↓v_arg_box, ↓v_sto_box, ↓v_rd_box, ↓v_frz_box, ↓v_src_box, ↓v_bl, ↓v_frz_L, ↓v_frz_D, ↓v_frz_T, ↓v_rd_L, ↓v_rd_D, ↓v_dat_l, ↓v_dat_d, ↓v_onD, ↓v_onI, ↓v_onL, ↓v_on1, ↓v_on2, ↓v_on3, ↓v_all0, ↓v_all1, ↓v_seqL, ↓v_seqT, ↓v_gNm, ↓v_gNil, ↓v_gCons, ↓v_gTup, ↓g_add, ↓g_addS, ↓g_addT, ↓g_addL, ↓g_sub, ↓g_mul, ↓g_fdiv, ↓g_mod, ↓g_pow, ↓g_eq, ↓g_ne, ↓g_lt, ↓g_gt, ↓g_le, ↓g_ge, ↓g_ltT, ↓g_gtT, ↓g_leT, ↓g_geT, ↓g_inT, ↓g_inL, ↓g_is, ↓g_neg, ↓g_not, ↓g_lenL, ↓g_lenT, ↓g_lenD, ↓g_intI, ↓g_intB, ↓g_abs, ↓g_gcd, ↓g_repr, ↓g_listL, ↓g_listT, ↓g_tupL, ↓g_tupT, ↓g_ixL0, ↓g_ixL1, ↓g_ixL2, ↓g_ixL3, ↓g_ixT0, ↓g_ixT1, ↓g_ixT2, ↓g_ixT3, ↓g_ixL, ↓g_ixT, ↓g_slL, ↓g_slT, ↓g_revL, ↓g_revT, n_non, n_int, n_tup, n_str, n_bl, n_lst, ↓n_enLst, ↓n_onOwn, ↓en0, ↓enS, eqOk_int, eqOk_str, eqv_int, eqv_str, exists_eq_left', atI0, atI1, atI2, atI3, isa, Int.cast_ofNat_Int, List.length_cons, List.length_nil, List.set_cons_zero, List.set_cons_succ, Option.some.injEq, true_and, and_true, if_true, if_false, Bool.not_true, Bool.not_false, Bool.xor_false, Bool.false_xor, Bool.true_xor, decide_eq_true_eq, Bool.not_eq_true', decide_eq_false_iff_not, Nat.reduceAdd, Nat.zero_add, w_err, fnEnds, shaped_c0, shaped_c1, shaped_c2, shaped_c3, List.map_cons, List.map_nil, Bool.false_eq_true, reduceIte, decide_true, decide_false, Bool.not_eq_true, decide_not, Bool.not_not, ne_eq, Nat.reduceLeDiff, sizeBig, Int.reduceAbs, Int.reduceLE, Int.reduceLT, Int.reduceAdd, Int.reduceSub, Int.reduceMul, Int.reduceNeg, Int.reduceToNat, Int.reducePow, Int.reduceEq, Nat.reducePow, Nat.reduceLT, ofString_inj, String.reduceEq, shaped_lit, shaped_int, shaped_bool, shaped_none, sm_lt, mb_lit_l, mb_lit_r, ↓w_pick, ↓w_pickT, ↓w_draw, w_wipe0, w_wipe1, List.nil_append, List.cons_append, reduceCtorEq, Bool.true_eq_false, eq_self, not_true_eq_false, not_false_eq_true, List.any_cons, List.any_nil, Bool.or_false, Bool.false_or, Bool.or_true, Bool.true_or, Bool.and_true, Bool.true_and, Bool.and_false, Bool.false_and, ↓sp__law_draw, ↓sp__law_pick, gKw_0_ap, gKw_1_0_ap]
    intro r r0 r1 s s0 s1
    simp only [d__law_is_right_8, ↓w_seq, ↓w_set, ↓w_ret, ↓w_retN, ↓w_retV, ↓w_if, ↓w_drop, ↓w_asg, ↓w_par, ↓w_par3, ↓w_nx, ↓w_bk, ↓w_ct, ↓w_frz, ↓w_for, ↓w_app, ↓w_ext, ↓w_bin, ↓w_un, ↓w_var, ↓w_con, ↓w_callB, ↓w_nilU, ↓w_consU, ↓w_consS, ↓w_nilD, ↓w_consD, ↓w_consO, ↓w_tup, ↓w_lst, ↓w_dic0, ↓w_and, ↓w_or, ↓w_not, ↓w_ite, ↓w_chain, ↓w_isa, ↓w_fn, ↓w_fnK, ↓w_sl, ↓w_noO, ↓w_someO, ↓w_yes, ↓w_tst, ↓w_lc, ↓w_it, ↓w_enum, ↓w_zip, ↓w_rng1, ↓w_rng2, ↓w_never, ↓w_kNil, ↓w_kCons, ↓w_disp, ↓w_mg0, ↓w_mg1, ↓w_put0, ↓w_keyS, ↓w_keyI, ↓w_sset, ↓w_dicT, ↓w_inT, ↓w_ixT, ↓w_listT, ↓w_stoT, ↓w_stoU, ↓w_enDt, ↓w_onDt, ↓w_enOw, ↓w_onOw, ↓w_stoL, ↓w_stoD, ↓w_enZ, ↓g_min2, ↓g_minL, ↓g_minT, ↓g_max2, ↓g_maxL, ↓g_maxT, ↓g_sum, ↓g_all, ↓g_any, ↓v_use_d, ↓v_arg_d, ↓v_sto_d, ↓v_rd_d, ↓v_frz_d, ↓v_src_d, ↓v_use_own, ↓v_arg_own, ↓v_sto_own, ↓v_rd_own, ↓v_src_own, ↓v_use_bor, ↓v_arg_bor, ↓v_sto_bor, ↓v_rd_bor, ↓v_frz_bor, ↓v_src_bor, ↓v_use_scr, ↓v_arg_scr, ↓v_sto_scr, ↓v_rd_scr, ↓v_frz_scr, ↓v_src_scr, ↓v_use_box, ↓v_arg_box, ↓v_sto_box, ↓v_rd_box, ↓v_frz_box, ↓v_src_box, ↓v_bl, ↓v_frz_L, ↓v_frz_D, ↓v_frz_T, ↓v_rd_L, ↓v_rd_D, ↓v_dat_l, ↓v_dat_d, ↓v_onD, ↓v_onI, ↓v_onL, ↓v_on1, ↓v_on2, ↓v_on3, ↓v_all0, ↓v_all1, ↓v_seqL, ↓v_seqT, ↓v_gNm, ↓v_gNil, ↓v_gCons, ↓v_gTup, ↓g_add, ↓g_addS, ↓g_addT, ↓g_addL, ↓g_sub, ↓g_mul, ↓g_fdiv, ↓g_mod, ↓g_pow, ↓g_eq, ↓g_ne, ↓g_lt, ↓g_gt, ↓g_le, ↓g_ge, ↓g_ltT, ↓g_gtT, ↓g_leT, ↓g_geT, ↓g_inT, ↓g_inL, ↓g_is, ↓g_neg, ↓g_not, ↓g_lenL, ↓g_lenT, ↓g_lenD, ↓g_intI, ↓g_intB, ↓g_abs, ↓g_gcd, ↓g_repr, ↓g_listL, ↓g_listT, ↓g_tupL, ↓g_tupT, ↓g_ixL0, ↓g_ixL1, ↓g_ixL2, ↓g_ixL3, ↓g_ixT0, ↓g_ixT1, ↓g_ixT2, ↓g_ixT3, ↓g_ixL, ↓g_ixT, ↓g_slL, ↓g_slT, ↓g_revL, ↓g_revT, n_non, n_int, n_tup, n_str, n_bl, n_lst, ↓n_enLst, ↓n_onOwn, ↓en0, ↓enS, eqOk_int, eqOk_str, eqv_int, eqv_str, exists_eq_left', atI0, atI1, atI2, atI3, isa, Int.cast_ofNat_Int, List.length_cons, List.length_nil, List.set_cons_zero, List.set_cons_succ, Option.some.injEq, true_and, and_true, if_true, if_false, Bool.not_true, Bool.not_false, Bool.xor_false, Bool.false_xor, Bool.true_xor, decide_eq_true_eq, Bool.not_eq_true', decide_eq_false_iff_not, Nat.reduceAdd, Nat.zero_add, w_err, fnEnds, shaped_c0, shaped_c1, shaped_c2, shaped_c3, List.map_cons, List.map_nil, Bool.false_eq_true, reduceIte, decide_true, decide_false, Bool.not_eq_true, decide_not, Bool.not_not, ne_eq, Nat.reduceLeDiff, sizeBig, Int.reduceAbs, Int.reduceLE, Int.reduceLT, Int.reduceAdd, Int.reduceSub, Int.reduceMul, Int.reduceNeg, Int.reduceToNat, Int.reducePow, Int.reduceEq, Nat.reducePow, Nat.reduceLT, ofString_inj, String.reduceEq, shaped_lit, shaped_int, shaped_bool, shaped_none, sm_lt, mb_lit_l, mb_lit_r, ↓w_pick, ↓w_pickT, ↓w_draw, w_wipe0, w_wipe1, List.nil_append, List.cons_append, reduceCtorEq, Bool.true_eq_false, eq_self, not_true_eq_false, not_false_eq_true, List.any_cons, List.any_nil, Bool.or_false, Bool.false_or, Bool.or_true, Bool.true_or, Bool.and_true, Bool.true_and, Bool.and_false, Bool.false_and, ↓sp__law_draw, ↓sp__law_pick, gKw_0_ap, gKw_1_0_ap]
    refine for_mem1 (fun env => ∃ x9 x11 x12 x13 x14 x15 x16, env = [some .box, some (.d (.tuple (acc.map eN))), some (.d (.str (PyData.tuple (acc.map eN)).shown)), some (.d (.tuple ((ptsOf acc).map eP))), none, none, none, none, some (.d (.tuple ((vsOf acc).map .int))), x9, some (.d (.tuple (acc.map eN))), x11, x12, x13, x14, x15, x16]) _ ?_ ?_ _ ⟨_, _, _, _, _, _, _, rfl⟩
    · rintro env ⟨x9, x11, x12, x13, x14, x15, x16, rfl⟩
      simp only [d__law_is_right_9, ↓w_seq, ↓w_set, ↓w_ret, ↓w_retN, ↓w_retV, ↓w_if, ↓w_drop, ↓w_asg, ↓w_par, ↓w_par3, ↓w_nx, ↓w_bk, ↓w_ct, ↓w_frz, ↓w_for, ↓w_app, ↓w_ext, ↓w_bin, ↓w_un, ↓w_var, ↓w_con, ↓w_callB, ↓w_nilU, ↓w_consU, ↓w_consS, ↓w_nilD, ↓w_consD, ↓w_consO, ↓w_tup, ↓w_lst, ↓w_dic0, ↓w_and, ↓w_or, ↓w_not, ↓w_ite, ↓w_chain, ↓w_isa, ↓w_fn, ↓w_fnK, ↓w_sl, ↓w_noO, ↓w_someO, ↓w_yes, ↓w_tst, ↓w_lc, ↓w_it, ↓w_enum, ↓w_zip, ↓w_rng1, ↓w_rng2, ↓w_never, ↓w_kNil, ↓w_kCons, ↓w_disp, ↓w_mg0, ↓w_mg1, ↓w_put0, ↓w_keyS, ↓w_keyI, ↓w_sset, ↓w_dicT, ↓w_inT, ↓w_ixT, ↓w_listT, ↓w_stoT, ↓w_stoU, ↓w_enDt, ↓w_onDt, ↓w_enOw, ↓w_onOw, ↓w_stoL, ↓w_stoD, ↓w_enZ, ↓g_min2, ↓g_minL, ↓g_minT, ↓g_max2, ↓g_maxL, ↓g_maxT, ↓g_sum, ↓g_all, ↓g_any, ↓v_use_d, ↓v_arg_d, ↓v_sto_d, ↓v_rd_d, ↓v_frz_d, ↓v_src_d, ↓v_use_own, ↓v_arg_own, ↓v_sto_own, ↓v_rd_own, ↓v_src_own, ↓v_use_bor, ↓v_arg_bor, ↓v_sto_bor, ↓v_rd_bor, ↓v_frz_bor, ↓v_src_bor, ↓v_use_scr, ↓v_arg_scr, ↓v_sto_scr, ↓v_rd_scr, ↓v_frz_scr, ↓v_src_scr, ↓v_use_box, ↓v_arg_box, ↓v_sto_box, ↓v_rd_box, ↓v_frz_box, ↓v_src_box, ↓v_bl, ↓v_frz_L, ↓v_frz_D, ↓v_frz_T, ↓v_rd_L, ↓v_rd_D, ↓v_dat_l, ↓v_dat_d, ↓v_onD, ↓v_onI, ↓v_onL, ↓v_on1, ↓v_on2, ↓v_on3, ↓v_all0, ↓v_all1, ↓v_seqL, ↓v_seqT, ↓v_gNm, ↓v_gNil, ↓v_gCons, ↓v_gTup, ↓g_add, ↓g_addS, ↓g_addT, ↓g_addL, ↓g_sub, ↓g_mul, ↓g_fdiv, ↓g_mod, ↓g_pow, ↓g_eq, ↓g_ne, ↓g_lt, ↓g_gt, ↓g_le, ↓g_ge, ↓g_ltT, ↓g_gtT, ↓g_leT, ↓g_geT, ↓g_inT, ↓g_inL, ↓g_is, ↓g_neg, ↓g_not, ↓g_lenL, ↓g_lenT, ↓g_lenD, ↓g_intI, ↓g_intB, ↓g_abs, ↓g_gcd, ↓g_repr, ↓g_listL, ↓g_listT, ↓g_tupL, ↓g_tupT, ↓g_ixL0, ↓g_ixL1, ↓g_ixL2, ↓g_ixL3, ↓g_ixT0, ↓g_ixT1, ↓g_ixT2, ↓g_ixT3, ↓g_ixL, ↓g_ixT, ↓g_slL, ↓g_slT, ↓g_revL, ↓g_revT, n_non, n_int, n_tup, n_str, n_bl, n_lst, ↓n_enLst, ↓n_onOwn, ↓en0, ↓enS, eqOk_int, eqOk_str, eqv_int, eqv_str, exists_eq_left', atI0, atI1, atI2, atI3, isa, Int.cast_ofNat_Int, List.length_cons, List.length_nil, List.set_cons_zero, List.set_cons_succ, Option.some.injEq, true_and, and_true, if_true, if_false, Bool.not_true, Bool.not_false, Bool.xor_false, Bool.false_xor, Bool.true_xor, decide_eq_true_eq, Bool.not_eq_true', decide_eq_false_iff_not, Nat.reduceAdd, Nat.zero_add, w_err, fnEnds, shaped_c0, shaped_c1, shaped_c2, shaped_c3, List.map_cons, List.map_nil, Bool.false_eq_true, reduceIte, decide_true, decide_false, Bool.not_eq_true, decide_not, Bool.not_not, ne_eq, Nat.reduceLeDiff, sizeBig, Int.reduceAbs, Int.reduceLE, Int.reduceLT, Int.reduceAdd, Int.reduceSub, Int.reduceMul, Int.reduceNeg, Int.reduceToNat, Int.reducePow, Int.reduceEq, Nat.reducePow, Nat.reduceLT, ofString_inj, String.reduceEq, shaped_lit, shaped_int, shaped_bool, shaped_none, sm_lt, mb_lit_l, mb_lit_r, ↓w_pick, ↓w_pickT, ↓w_draw, w_wipe0, w_wipe1, List.nil_append, List.cons_append, reduceCtorEq, Bool.true_eq_false, eq_self, not_true_eq_false, not_false_eq_true, List.any_cons, List.any_nil, Bool.or_false, Bool.false_or, Bool.or_true, Bool.true_or, Bool.and_true, Bool.true_and, Bool.and_false, Bool.false_and, ↓sp__law_draw, ↓sp__law_pick, gKw_0_ap, gKw_1_0_ap]
      refine lc_rel eN (fun n y => ∃ l : Int, 1 ≤ l ∧ l ≤ 999 ∧ y = eN ⟨n.o, n.p, n.v, l⟩) acc [] (by rw [sizeLine_eq, List.length_nil]; omega) (fun n _ K hK => ?_) fun ys hys => ?_
      · simp only [lcStep, eN, ↓w_seq, ↓w_set, ↓w_ret, ↓w_retN, ↓w_retV, ↓w_if, ↓w_drop, ↓w_asg, ↓w_par, ↓w_par3, ↓w_nx, ↓w_bk, ↓w_ct, ↓w_frz, ↓w_for, ↓w_app, ↓w_ext, ↓w_bin, ↓w_un, ↓w_var, ↓w_con, ↓w_callB, ↓w_nilU, ↓w_consU, ↓w_consS, ↓w_nilD, ↓w_consD, ↓w_consO, ↓w_tup, ↓w_lst, ↓w_dic0, ↓w_and, ↓w_or, ↓w_not, ↓w_ite, ↓w_chain, ↓w_isa, ↓w_fn, ↓w_fnK, ↓w_sl, ↓w_noO, ↓w_someO, ↓w_yes, ↓w_tst, ↓w_lc, ↓w_it, ↓w_enum, ↓w_zip, ↓w_rng1, ↓w_rng2, ↓w_never, ↓w_kNil, ↓w_kCons, ↓w_disp, ↓w_mg0, ↓w_mg1, ↓w_put0, ↓w_keyS, ↓w_keyI, ↓w_sset, ↓w_dicT, ↓w_inT, ↓w_ixT, ↓w_listT, ↓w_stoT, ↓w_stoU, ↓w_enDt, ↓w_onDt, ↓w_enOw, ↓w_onOw, ↓w_stoL, ↓w_stoD, ↓w_enZ, ↓g_min2, ↓g_minL, ↓g_minT, ↓g_max2, ↓g_maxL, ↓g_maxT, ↓g_sum, ↓g_all, ↓g_any, ↓v_use_d, ↓v_arg_d, ↓v_sto_d, ↓v_rd_d, ↓v_frz_d, ↓v_src_d, ↓v_use_own, ↓v_arg_own, ↓v_sto_own, ↓v_rd_own, ↓v_src_own, ↓v_use_bor, ↓v_arg_bor, ↓v_sto_bor, ↓v_rd_bor, ↓v_frz_bor, ↓v_src_bor, ↓v_use_scr, ↓v_arg_scr, ↓v_sto_scr, ↓v_rd_scr, ↓v_frz_scr, ↓v_src_scr, ↓v_use_box, ↓v_arg_box, ↓v_sto_box, ↓v_rd_box, ↓v_frz_box, ↓v_src_box, ↓v_bl, ↓v_frz_L, ↓v_frz_D, ↓v_frz_T, ↓v_rd_L, ↓v_rd_D, ↓v_dat_l, ↓v_dat_d, ↓v_onD, ↓v_onI, ↓v_onL, ↓v_on1, ↓v_on2, ↓v_on3, ↓v_all0, ↓v_all1, ↓v_seqL, ↓v_seqT, ↓v_gNm, ↓v_gNil, ↓v_gCons, ↓v_gTup, ↓g_add, ↓g_addS, ↓g_addT, ↓g_addL, ↓g_sub, ↓g_mul, ↓g_fdiv, ↓g_mod, ↓g_pow, ↓g_eq, ↓g_ne, ↓g_lt, ↓g_gt, ↓g_le, ↓g_ge, ↓g_ltT, ↓g_gtT, ↓g_leT, ↓g_geT, ↓g_inT, ↓g_inL, ↓g_is, ↓g_neg, ↓g_not, ↓g_lenL, ↓g_lenT, ↓g_lenD, ↓g_intI, ↓g_intB, ↓g_abs, ↓g_gcd, ↓g_repr, ↓g_listL, ↓g_listT, ↓g_tupL, ↓g_tupT, ↓g_ixL0, ↓g_ixL1, ↓g_ixL2, ↓g_ixL3, ↓g_ixT0, ↓g_ixT1, ↓g_ixT2, ↓g_ixT3, ↓g_ixL, ↓g_ixT, ↓g_slL, ↓g_slT, ↓g_revL, ↓g_revT, n_non, n_int, n_tup, n_str, n_bl, n_lst, ↓n_enLst, ↓n_onOwn, ↓en0, ↓enS, eqOk_int, eqOk_str, eqv_int, eqv_str, exists_eq_left', atI0, atI1, atI2, atI3, isa, Int.cast_ofNat_Int, List.length_cons, List.length_nil, List.set_cons_zero, List.set_cons_succ, Option.some.injEq, true_and, and_true, if_true, if_false, Bool.not_true, Bool.not_false, Bool.xor_false, Bool.false_xor, Bool.true_xor, decide_eq_true_eq, Bool.not_eq_true', decide_eq_false_iff_not, Nat.reduceAdd, Nat.zero_add, w_err, fnEnds, shaped_c0, shaped_c1, shaped_c2, shaped_c3, List.map_cons, List.map_nil, Bool.false_eq_true, reduceIte, decide_true, decide_false, Bool.not_eq_true, decide_not, Bool.not_not, ne_eq, Nat.reduceLeDiff, sizeBig, Int.reduceAbs, Int.reduceLE, Int.reduceLT, Int.reduceAdd, Int.reduceSub, Int.reduceMul, Int.reduceNeg, Int.reduceToNat, Int.reducePow, Int.reduceEq, Nat.reducePow, Nat.reduceLT, ofString_inj, String.reduceEq, shaped_lit, shaped_int, shaped_bool, shaped_none, sm_lt, mb_lit_l, mb_lit_r, ↓w_pick, ↓w_pickT, ↓w_draw, w_wipe0, w_wipe1, List.nil_append, List.cons_append, reduceCtorEq, Bool.true_eq_false, eq_self, not_true_eq_false, not_false_eq_true, List.any_cons, List.any_nil, Bool.or_false, Bool.false_or, Bool.or_true, Bool.true_or, Bool.and_true, Bool.true_and, Bool.and_false, Bool.false_and, ↓sp__law_draw, ↓sp__law_pick, gKw_0_ap, gKw_1_0_ap, cutT0, cutT1, cutT2, cutT3, cutT4, cutF0, cutF1, cutF2, cutF3, cutF4, List.take_succ_cons, List.take_zero, List.take_nil, List.drop_succ_cons, List.drop_zero, List.drop_nil]
        intro l l0 l1
        exact hK _ ⟨1 + l, by omega, by omega, rfl⟩
      · obtain ⟨ms, rfl, hk, hm⟩ := relen hys
        obtain ⟨p1, p2, p3⟩ := same_pts hk
        simp only [↓w_seq, ↓w_set, ↓w_ret, ↓w_retN, ↓w_retV, ↓w_if, ↓w_drop, ↓w_asg, ↓w_par, ↓w_par3, ↓w_nx, ↓w_bk, ↓w_ct, ↓w_frz, ↓w_for, ↓w_app, ↓w_ext, ↓w_bin, ↓w_un, ↓w_var, ↓w_con, ↓w_callB, ↓w_nilU, ↓w_consU, ↓w_consS, ↓w_nilD, ↓w_consD, ↓w_consO, ↓w_tup, ↓w_lst, ↓w_dic0, ↓w_and, ↓w_or, ↓w_not, ↓w_ite, ↓w_chain, ↓w_isa, ↓w_fn, ↓w_fnK, ↓w_sl, ↓w_noO, ↓w_someO, ↓w_yes, ↓w_tst, ↓w_lc, ↓w_it, ↓w_enum, ↓w_zip, ↓w_rng1, ↓w_rng2, ↓w_never, ↓w_kNil, ↓w_kCons, ↓w_disp, ↓w_mg0, ↓w_mg1, ↓w_put0, ↓w_keyS, ↓w_keyI, ↓w_sset, ↓w_dicT, ↓w_inT, ↓w_ixT, ↓w_listT, ↓w_stoT, ↓w_stoU, ↓w_enDt, ↓w_onDt, ↓w_enOw, ↓w_onOw, ↓w_stoL, ↓w_stoD, ↓w_enZ, ↓g_min2, ↓g_minL, ↓g_minT, ↓g_max2, ↓g_maxL, ↓g_maxT, ↓g_sum, ↓g_all, ↓g_any, ↓v_use_d, ↓v_arg_d, ↓v_sto_d, ↓v_rd_d, ↓v_frz_d, ↓v_src_d, ↓v_use_own, ↓v_arg_own, ↓v_sto_own, ↓v_rd_own, ↓v_src_own, ↓v_use_bor, ↓v_arg_bor, ↓v_sto_bor, ↓v_rd_bor, ↓v_frz_bor, ↓v_src_bor, ↓v_use_scr, ↓v_arg_scr, ↓v_sto_scr, ↓v_rd_scr, ↓v_frz_scr, ↓v_src_scr, ↓v_use_box, ↓v_arg_box, ↓v_sto_box, ↓v_rd_box, ↓v_frz_box, ↓v_src_box, ↓v_bl, ↓v_frz_L, ↓v_frz_D, ↓v_frz_T, ↓v_rd_L, ↓v_rd_D, ↓v_dat_l, ↓v_dat_d, ↓v_onD, ↓v_onI, ↓v_onL, ↓v_on1, ↓v_on2, ↓v_on3, ↓v_all0, ↓v_all1, ↓v_seqL, ↓v_seqT, ↓v_gNm, ↓v_gNil, ↓v_gCons, ↓v_gTup, ↓g_add, ↓g_addS, ↓g_addT, ↓g_addL, ↓g_sub, ↓g_mul, ↓g_fdiv, ↓g_mod, ↓g_pow, ↓g_eq, ↓g_ne, ↓g_lt, ↓g_gt, ↓g_le, ↓g_ge, ↓g_ltT, ↓g_gtT, ↓g_leT, ↓g_geT, ↓g_inT, ↓g_inL, ↓g_is, ↓g_neg, ↓g_not, ↓g_lenL, ↓g_lenT, ↓g_lenD, ↓g_intI, ↓g_intB, ↓g_abs, ↓g_gcd, ↓g_repr, ↓g_listL, ↓g_listT, ↓g_tupL, ↓g_tupT, ↓g_ixL0, ↓g_ixL1, ↓g_ixL2, ↓g_ixL3, ↓g_ixT0, ↓g_ixT1, ↓g_ixT2, ↓g_ixT3, ↓g_ixL, ↓g_ixT, ↓g_slL, ↓g_slT, ↓g_revL, ↓g_revT, n_non, n_int, n_tup, n_str, n_bl, n_lst, ↓n_enLst, ↓n_onOwn, ↓en0, ↓enS, eqOk_int, eqOk_str, eqv_int, eqv_str, exists_eq_left', atI0, atI1, atI2, atI3, isa, Int.cast_ofNat_Int, List.length_cons, List.length_nil, List.set_cons_zero, List.set_cons_succ, Option.some.injEq, true_and, and_true, if_true, if_false, Bool.not_true, Bool.not_false, Bool.xor_false, Bool.false_xor, Bool.true_xor, decide_eq_true_eq, Bool.not_eq_true', decide_eq_false_iff_not, Nat.reduceAdd, Nat.zero_add, w_err, fnEnds, shaped_c0, shaped_c1, shaped_c2, shaped_c3, List.map_cons, List.map_nil, Bool.false_eq_true, reduceIte, decide_true, decide_false, Bool.not_eq_true, decide_not, Bool.not_not, ne_eq, Nat.reduceLeDiff, sizeBig, Int.reduceAbs, Int.reduceLE, Int.reduceLT, Int.reduceAdd, Int.reduceSub, Int.reduceMul, Int.reduceNeg, Int.reduceToNat, Int.reducePow, Int.reduceEq, Nat.reducePow, Nat.reduceLT, ofString_inj, String.reduceEq, shaped_lit, shaped_int, shaped_bool, shaped_none, sm_lt, mb_lit_l, mb_lit_r, ↓w_pick, ↓w_pickT, ↓w_draw, w_wipe0, w_wipe1, List.nil_append, List.cons_append, reduceCtorEq, Bool.true_eq_false, eq_self, not_true_eq_false, not_false_eq_true, List.any_cons, List.any_nil, Bool.or_false, Bool.false_or, Bool.or_true, Bool.true_or, Bool.and_true, Bool.true_and, Bool.and_false, Bool.false_and, ↓sp__law_draw, ↓sp__law_pick, gKw_0_ap, gKw_1_0_ap]
        simp only [d__law_is_right_10, ↓w_seq, ↓w_set, ↓w_ret, ↓w_retN, ↓w_retV, ↓w_if, ↓w_drop, ↓w_asg, ↓w_par, ↓w_par3, ↓w_nx, ↓w_bk, ↓w_ct, ↓w_frz, ↓w_for, ↓w_app, ↓w_ext, ↓w_bin, ↓w_un, ↓w_var, ↓w_con, ↓w_callB, ↓w_nilU, ↓w_consU, ↓w_consS, ↓w_nilD, ↓w_consD, ↓w_consO, ↓w_tup, ↓w_lst, ↓w_dic0, ↓w_and, ↓w_or, ↓w_not, ↓w_ite, ↓w_chain, ↓w_isa, ↓w_fn, ↓w_fnK, ↓w_sl, ↓w_noO, ↓w_someO, ↓w_yes, ↓w_tst, ↓w_lc, ↓w_it, ↓w_enum, ↓w_zip, ↓w_rng1, ↓w_rng2, ↓w_never, ↓w_kNil, ↓w_kCons, ↓w_disp, ↓w_mg0, ↓w_mg1, ↓w_put0, ↓w_keyS, ↓w_keyI, ↓w_sset, ↓w_dicT, ↓w_inT, ↓w_ixT, ↓w_listT, ↓w_stoT, ↓w_stoU, ↓w_enDt, ↓w_onDt, ↓w_enOw, ↓w_onOw, ↓w_stoL, ↓w_stoD, ↓w_enZ, ↓g_min2, ↓g_minL, ↓g_minT, ↓g_max2, ↓g_maxL, ↓g_maxT, ↓g_sum, ↓g_all, ↓g_any, ↓v_use_d, ↓v_arg_d, ↓v_sto_d, ↓v_rd_d, ↓v_frz_d, ↓v_src_d, ↓v_use_own, ↓v_arg_own, ↓v_sto_own, ↓v_rd_own, ↓v_src_own, ↓v_use_bor, ↓v_arg_bor, ↓v_sto_bor, ↓v_rd_bor, ↓v_frz_bor, ↓v_src_bor, ↓v_use_scr, ↓v_arg_scr, ↓v_sto_scr, ↓v_rd_scr, ↓v_frz_scr, ↓v_src_scr, ↓v_use_box, ↓v_arg_box, ↓v_sto_box, ↓v_rd_box, ↓v_frz_box, ↓v_src_box, ↓v_bl, ↓v_frz_L, ↓v_frz_D, ↓v_frz_T, ↓v_rd_L, ↓v_rd_D, ↓v_dat_l, ↓v_dat_d, ↓v_onD, ↓v_onI, ↓v_onL, ↓v_on1, ↓v_on2, ↓v_on3, ↓v_all0, ↓v_all1, ↓v_seqL, ↓v_seqT, ↓v_gNm, ↓v_gNil, ↓v_gCons, ↓v_gTup, ↓g_add, ↓g_addS, ↓g_addT, ↓g_addL, ↓g_sub, ↓g_mul, ↓g_fdiv, ↓g_mod, ↓g_pow, ↓g_eq, ↓g_ne, ↓g_lt, ↓g_gt, ↓g_le, ↓g_ge, ↓g_ltT, ↓g_gtT, ↓g_leT, ↓g_geT, ↓g_inT, ↓g_inL, ↓g_is, ↓g_neg, ↓g_not, ↓g_lenL, ↓g_lenT, ↓g_lenD, ↓g_intI, ↓g_intB, ↓g_abs, ↓g_gcd, ↓g_repr, ↓g_listL, ↓g_listT, ↓g_tupL, ↓g_tupT, ↓g_ixL0, ↓g_ixL1, ↓g_ixL2, ↓g_ixL3, ↓g_ixT0, ↓g_ixT1, ↓g_ixT2, ↓g_ixT3, ↓g_ixL, ↓g_ixT, ↓g_slL, ↓g_slT, ↓g_revL, ↓g_revT, n_non, n_int, n_tup, n_str, n_bl, n_lst, ↓n_enLst, ↓n_onOwn, ↓en0, ↓enS, eqOk_int, eqOk_str, eqv_int, eqv_str, exists_eq_left', atI0, atI1, atI2, atI3, isa, Int.cast_ofNat_Int, List.length_cons, List.length_nil, List.set_cons_zero, List.set_cons_succ, Option.some.injEq, true_and, and_true, if_true, if_false, Bool.not_true, Bool.not_false, Bool.xor_false, Bool.false_xor, Bool.true_xor, decide_eq_true_eq, Bool.not_eq_true', decide_eq_false_iff_not, Nat.reduceAdd, Nat.zero_add, w_err, fnEnds, shaped_c0, shaped_c1, shaped_c2, shaped_c3, List.map_cons, List.map_nil, Bool.false_eq_true, reduceIte, decide_true, decide_false, Bool.not_eq_true, decide_not, Bool.not_not, ne_eq, Nat.reduceLeDiff, sizeBig, Int.reduceAbs, Int.reduceLE, Int.reduceLT, Int.reduceAdd, Int.reduceSub, Int.reduceMul, Int.reduceNeg, Int.reduceToNat, Int.reducePow, Int.reduceEq, Nat.reducePow, Nat.reduceLT, ofString_inj, String.reduceEq, shaped_lit, shaped_int, shaped_bool, shaped_none, sm_lt, mb_lit_l, mb_lit_r, ↓w_pick, ↓w_pickT, ↓w_draw, w_wipe0, w_wipe1, List.nil_append, List.cons_append, reduceCtorEq, Bool.true_eq_false, eq_self, not_true_eq_false, not_false_eq_true, List.any_cons, List.any_nil, Bool.or_false, Bool.false_or, Bool.or_true, Bool.true_or, Bool.and_true, Bool.true_and, Bool.and_false, Bool.false_and, ↓sp__law_draw, ↓sp__law_pick, gKw_0_ap, gKw_1_0_ap]
        refine ⟨ms, rfl, by omega, ?_⟩
        simp only [↓w_seq, ↓w_set, ↓w_ret, ↓w_retN, ↓w_retV, ↓w_if, ↓w_drop, ↓w_asg, ↓w_par, ↓w_par3, ↓w_nx, ↓w_bk, ↓w_ct, ↓w_frz, ↓w_for, ↓w_app, ↓w_ext, ↓w_bin, ↓w_un, ↓w_var, ↓w_con, ↓w_callB, ↓w_nilU, ↓w_consU, ↓w_consS, ↓w_nilD, ↓w_consD, ↓w_consO, ↓w_tup, ↓w_lst, ↓w_dic0, ↓w_and, ↓w_or, ↓w_not, ↓w_ite, ↓w_chain, ↓w_isa, ↓w_fn, ↓w_fnK, ↓w_sl, ↓w_noO, ↓w_someO, ↓w_yes, ↓w_tst, ↓w_lc, ↓w_it, ↓w_enum, ↓w_zip, ↓w_rng1, ↓w_rng2, ↓w_never, ↓w_kNil, ↓w_kCons, ↓w_disp, ↓w_mg0, ↓w_mg1, ↓w_put0, ↓w_keyS, ↓w_keyI, ↓w_sset, ↓w_dicT, ↓w_inT, ↓w_ixT, ↓w_listT, ↓w_stoT, ↓w_stoU, ↓w_enDt, ↓w_onDt, ↓w_enOw, ↓w_onOw, ↓w_stoL, ↓w_stoD, ↓w_enZ, ↓g_min2, ↓g_minL, ↓g_minT, ↓g_max2, ↓g_maxL, ↓g_maxT, ↓g_sum, ↓g_all, ↓g_any, ↓v_use_d, ↓v_arg_d, ↓v_sto_d, ↓v_rd_d, ↓v_frz_d, ↓v_src_d, ↓v_use_own, ↓v_arg_own, ↓v_sto_own, ↓v_rd_own, ↓v_src_own, ↓v_use_bor, ↓v_arg_bor, ↓v_sto_bor, ↓v_rd_bor, ↓v_frz_bor, ↓v_src_bor, ↓v_use_scr, ↓v_arg_scr, ↓v_sto_scr, ↓v_rd_scr, ↓v_frz_scr, ↓v_src_scr, ↓v_use_box, ↓v_arg_box, ↓v_sto_box, ↓v_rd_box, ↓v_frz_box, ↓v_src_box, ↓v_bl, ↓v_frz_L, ↓v_frz_D, ↓v_frz_T, ↓v_rd_L, ↓v_rd_D, ↓v_dat_l, ↓v_dat_d, ↓v_onD, ↓v_onI, ↓v_onL, ↓v_on1, ↓v_on2, ↓v_on3, ↓v_all0, ↓v_all1, ↓v_seqL, ↓v_seqT, ↓v_gNm, ↓v_gNil, ↓v_gCons, ↓v_gTup, ↓g_add, ↓g_addS, ↓g_addT, ↓g_addL, ↓g_sub, ↓g_mul, ↓g_fdiv, ↓g_mod, ↓g_pow, ↓g_eq, ↓g_ne, ↓g_lt, ↓g_gt, ↓g_le, ↓g_ge, ↓g_ltT, ↓g_gtT, ↓g_leT, ↓g_geT, ↓g_inT, ↓g_inL, ↓g_is, ↓g_neg, ↓g_not, ↓g_lenL, ↓g_lenT, ↓g_lenD, ↓g_intI, ↓g_intB, ↓g_abs, ↓g_gcd, ↓g_repr, ↓g_listL, ↓g_listT, ↓g_tupL, ↓g_tupT, ↓g_ixL0, ↓g_ixL1, ↓g_ixL2, ↓g_ixL3, ↓g_ixT0, ↓g_ixT1, ↓g_ixT2, ↓g_ixT3, ↓g_ixL, ↓g_ixT, ↓g_slL, ↓g_slT, ↓g_revL, ↓g_revT, n_non, n_int, n_tup, n_str, n_bl, n_lst, ↓n_enLst, ↓n_onOwn, ↓en0, ↓enS, eqOk_int, eqOk_str, eqv_int, eqv_str, exists_eq_left', atI0, atI1, atI2, atI3, isa, Int.cast_ofNat_Int, List.length_cons, List.length_nil, List.set_cons_zero, List.set_cons_succ, Option.some.injEq, true_and, and_true, if_true, if_false, Bool.not_true, Bool.not_false, Bool.xor_false, Bool.false_xor, Bool.true_xor, decide_eq_true_eq, Bool.not_eq_true', decide_eq_false_iff_not, Nat.reduceAdd, Nat.zero_add, w_err, fnEnds, shaped_c0, shaped_c1, shaped_c2, shaped_c3, List.map_cons, List.map_nil, Bool.false_eq_true, reduceIte, decide_true, decide_false, Bool.not_eq_true, decide_not, Bool.not_not, ne_eq, Nat.reduceLeDiff, sizeBig, Int.reduceAbs, Int.reduceLE, Int.reduceLT, Int.reduceAdd, Int.reduceSub, Int.reduceMul, Int.reduceNeg, Int.reduceToNat, Int.reducePow, Int.reduceEq, Nat.reducePow, Nat.reduceLT, ofString_inj, String.reduceEq, shaped_lit, shaped_int, shaped_bool, shaped_none, sm_lt, mb_lit_l, mb_lit_r, ↓w_pick, ↓w_pickT, ↓w_draw, w_wipe0, w_wipe1, List.nil_append, List.cons_append, reduceCtorEq, Bool.true_eq_false, eq_self, not_true_eq_false, not_false_eq_true, List.any_cons, List.any_nil, Bool.or_false, Bool.false_or, Bool.or_true, Bool.true_or, Bool.and_true, Bool.true_and, Bool.and_false, Bool.false_and, ↓sp__law_draw, ↓sp__law_pick, gKw_0_ap, gKw_1_0_ap]
        refine ⟨ms, rfl, by omega, hm hok, ?_⟩
        rw [p1, p2]
        have tT : Tm 300100 5 (.str (PyData.tuple (acc.map eN)).shown) := tS.text (by decide)
        have sh2 : showOk (.list [.tuple ((ptsOf acc).map eP), .tuple ((vsOf acc).map .int), .str (PyData.tuple (acc.map eN)).shown]) := (Tm.lst (n := 300100) (k := 5) (c := 3) (n' := 1000000) (k' := 6) (fal (tP.mono (by decide) (by decide)) (fal (tV.mono (by decide) (by decide)) (fal tT fan))) (Nat.le_refl _)).ok (by decide) (by decide)
        simp only [↓w_seq, ↓w_set, ↓w_ret, ↓w_retN, ↓w_retV, ↓w_if, ↓w_drop, ↓w_asg, ↓w_par, ↓w_par3, ↓w_nx, ↓w_bk, ↓w_ct, ↓w_frz, ↓w_for, ↓w_app, ↓w_ext, ↓w_bin, ↓w_un, ↓w_var, ↓w_con, ↓w_callB, ↓w_nilU, ↓w_consU, ↓w_consS, ↓w_nilD, ↓w_consD, ↓w_consO, ↓w_tup, ↓w_lst, ↓w_dic0, ↓w_and, ↓w_or, ↓w_not, ↓w_ite, ↓w_chain, ↓w_isa, ↓w_fn, ↓w_fnK, ↓w_sl, ↓w_noO, ↓w_someO, ↓w_yes, ↓w_tst, ↓w_lc, ↓w_it, ↓w_enum, ↓w_zip, ↓w_rng1, ↓w_rng2, ↓w_never, ↓w_kNil, ↓w_kCons, ↓w_disp, ↓w_mg0, ↓w_mg1, ↓w_put0, ↓w_keyS, ↓w_keyI, ↓w_sset, ↓w_dicT, ↓w_inT, ↓w_ixT, ↓w_listT, ↓w_stoT, ↓w_stoU, ↓w_enDt, ↓w_onDt, ↓w_enOw, ↓w_onOw, ↓w_stoL, ↓w_stoD, ↓w_enZ, ↓g_min2, ↓g_minL, ↓g_minT, ↓g_max2, ↓g_maxL, ↓g_maxT, ↓g_sum, ↓g_all, ↓g_any, ↓v_use_d, ↓v_arg_d, ↓v_sto_d, ↓v_rd_d, ↓v_frz_d, ↓v_src_d, ↓v_use_own, ↓v_arg_own, ↓v_sto_own, ↓v_rd_own, ↓v_src_own, ↓v_use_bor, ↓v_arg_bor, ↓v_sto_bor, ↓v_rd_bor, ↓v_frz_bor, ↓v_src_bor, ↓v_use_scr, ↓v_arg_scr, ↓v_sto_scr, ↓v_rd_scr, ↓v_frz_scr, ↓v_src_scr, ↓v_use_box, ↓v_arg_box, ↓v_sto_box, ↓v_rd_box, ↓v_frz_box, ↓v_src_box, ↓v_bl, ↓v_frz_L, ↓v_frz_D, ↓v_frz_T, ↓v_rd_L, ↓v_rd_D, ↓v_dat_l, ↓v_dat_d, ↓v_onD, ↓v_onI, ↓v_onL, ↓v_on1, ↓v_on2, ↓v_on3, ↓v_all0, ↓v_all1, ↓v_seqL, ↓v_seqT, ↓v_gNm, ↓v_gNil, ↓v_gCons, ↓v_gTup, ↓g_add, ↓g_addS, ↓g_addT, ↓g_addL, ↓g_sub, ↓g_mul, ↓g_fdiv, ↓g_mod, ↓g_pow, ↓g_eq, ↓g_ne, ↓g_lt, ↓g_gt, ↓g_le, ↓g_ge, ↓g_ltT, ↓g_gtT, ↓g_leT, ↓g_geT, ↓g_inT, ↓g_inL, ↓g_is, ↓g_neg, ↓g_not, ↓g_lenL, ↓g_lenT, ↓g_lenD, ↓g_intI, ↓g_intB, ↓g_abs, ↓g_gcd, ↓g_repr, ↓g_listL, ↓g_listT, ↓g_tupL, ↓g_tupT, ↓g_ixL0, ↓g_ixL1, ↓g_ixL2, ↓g_ixL3, ↓g_ixT0, ↓g_ixT1, ↓g_ixT2, ↓g_ixT3, ↓g_ixL, ↓g_ixT, ↓g_slL, ↓g_slT, ↓g_revL, ↓g_revT, n_non, n_int, n_tup, n_str, n_bl, n_lst, ↓n_enLst, ↓n_onOwn, ↓en0, ↓enS, eqOk_int, eqOk_str, eqv_int, eqv_str, exists_eq_left', atI0, atI1, atI2, atI3, isa, Int.cast_ofNat_Int, List.length_cons, List.length_nil, List.set_cons_zero, List.set_cons_succ, Option.some.injEq, true_and, and_true, if_true, if_false, Bool.not_true, Bool.not_false, Bool.xor_false, Bool.false_xor, Bool.true_xor, decide_eq_true_eq, Bool.not_eq_true', decide_eq_false_iff_not, Nat.reduceAdd, Nat.zero_add, w_err, fnEnds, shaped_c0, shaped_c1, shaped_c2, shaped_c3, List.map_cons, List.map_nil, Bool.false_eq_true, reduceIte, decide_true, decide_false, Bool.not_eq_true, decide_not, Bool.not_not, ne_eq, Nat.reduceLeDiff, sizeBig, Int.reduceAbs, Int.reduceLE, Int.reduceLT, Int.reduceAdd, Int.reduceSub, Int.reduceMul, Int.reduceNeg, Int.reduceToNat, Int.reducePow, Int.reduceEq, Nat.reducePow, Nat.reduceLT, ofString_inj, String.reduceEq, shaped_lit, shaped_int, shaped_bool, shaped_none, sm_lt, mb_lit_l, mb_lit_r, ↓w_pick, ↓w_pickT, ↓w_draw, w_wipe0, w_wipe1, List.nil_append, List.cons_append, reduceCtorEq, Bool.true_eq_false, eq_self, not_true_eq_false, not_false_eq_true, List.any_cons, List.any_nil, Bool.or_false, Bool.false_or, Bool.or_true, Bool.true_or, Bool.and_true, Bool.true_and, Bool.and_false, Bool.false_and, ↓sp__law_draw, ↓sp__law_pick, gKw_0_ap, gKw_1_0_ap]
        refine ⟨tS.ok (by decide) (by decide), ?_⟩
        simp only [d__law_is_right_11, ↓w_seq, ↓w_set, ↓w_ret, ↓w_retN, ↓w_retV, ↓w_if, ↓w_drop, ↓w_asg, ↓w_par, ↓w_par3, ↓w_nx, ↓w_bk, ↓w_ct, ↓w_frz, ↓w_for, ↓w_app, ↓w_ext, ↓w_bin, ↓w_un, ↓w_var, ↓w_con, ↓w_callB, ↓w_nilU, ↓w_consU, ↓w_consS, ↓w_nilD, ↓w_consD, ↓w_consO, ↓w_tup, ↓w_lst, ↓w_dic0, ↓w_and, ↓w_or, ↓w_not, ↓w_ite, ↓w_chain, ↓w_isa, ↓w_fn, ↓w_fnK, ↓w_sl, ↓w_noO, ↓w_someO, ↓w_yes, ↓w_tst, ↓w_lc, ↓w_it, ↓w_enum, ↓w_zip, ↓w_rng1, ↓w_rng2, ↓w_never, ↓w_kNil, ↓w_kCons, ↓w_disp, ↓w_mg0, ↓w_mg1, ↓w_put0, ↓w_keyS, ↓w_keyI, ↓w_sset, ↓w_dicT, ↓w_inT, ↓w_ixT, ↓w_listT, ↓w_stoT, ↓w_stoU, ↓w_enDt, ↓w_onDt, ↓w_enOw, ↓w_onOw, ↓w_stoL, ↓w_stoD, ↓w_enZ, ↓g_min2, ↓g_minL, ↓g_minT, ↓g_max2, ↓g_maxL, ↓g_maxT, ↓g_sum, ↓g_all, ↓g_any, ↓v_use_d, ↓v_arg_d, ↓v_sto_d, ↓v_rd_d, ↓v_frz_d, ↓v_src_d, ↓v_use_own, ↓v_arg_own, ↓v_sto_own, ↓v_rd_own, ↓v_src_own, ↓v_use_bor, ↓v_arg_bor, ↓v_sto_bor, ↓v_rd_bor, ↓v_frz_bor, ↓v_src_bor, ↓v_use_scr, ↓v_arg_scr, ↓v_sto_scr, ↓v_rd_scr, ↓v_frz_scr, ↓v_src_scr, ↓v_use_box, ↓v_arg_box, ↓v_sto_box, ↓v_rd_box, ↓v_frz_box, ↓v_src_box, ↓v_bl, ↓v_frz_L, ↓v_frz_D, ↓v_frz_T, ↓v_rd_L, ↓v_rd_D, ↓v_dat_l, ↓v_dat_d, ↓v_onD, ↓v_onI, ↓v_onL, ↓v_on1, ↓v_on2, ↓v_on3, ↓v_all0, ↓v_all1, ↓v_seqL, ↓v_seqT, ↓v_gNm, ↓v_gNil, ↓v_gCons, ↓v_gTup, ↓g_add, ↓g_addS, ↓g_addT, ↓g_addL, ↓g_sub, ↓g_mul, ↓g_fdiv, ↓g_mod, ↓g_pow, ↓g_eq, ↓g_ne, ↓g_lt, ↓g_gt, ↓g_le, ↓g_ge, ↓g_ltT, ↓g_gtT, ↓g_leT, ↓g_geT, ↓g_inT, ↓g_inL, ↓g_is, ↓g_neg, ↓g_not, ↓g_lenL, ↓g_lenT, ↓g_lenD, ↓g_intI, ↓g_intB, ↓g_abs, ↓g_gcd, ↓g_repr, ↓g_listL, ↓g_listT, ↓g_tupL, ↓g_tupT, ↓g_ixL0, ↓g_ixL1, ↓g_ixL2, ↓g_ixL3, ↓g_ixT0, ↓g_ixT1, ↓g_ixT2, ↓g_ixT3, ↓g_ixL, ↓g_ixT, ↓g_slL, ↓g_slT, ↓g_revL, ↓g_revT, n_non, n_int, n_tup, n_str, n_bl, n_lst, ↓n_enLst, ↓n_onOwn, ↓en0, ↓enS, eqOk_int, eqOk_str, eqv_int, eqv_str, exists_eq_left', atI0, atI1, atI2, atI3, isa, Int.cast_ofNat_Int, List.length_cons, List.length_nil, List.set_cons_zero, List.set_cons_succ, Option.some.injEq, true_and, and_true, if_true, if_false, Bool.not_true, Bool.not_false, Bool.xor_false, Bool.false_xor, Bool.true_xor, decide_eq_true_eq, Bool.not_eq_true', decide_eq_false_iff_not, Nat.reduceAdd, Nat.zero_add, w_err, fnEnds, shaped_c0, shaped_c1, shaped_c2, shaped_c3, List.map_cons, List.map_nil, Bool.false_eq_true, reduceIte, decide_true, decide_false, Bool.not_eq_true, decide_not, Bool.not_not, ne_eq, Nat.reduceLeDiff, sizeBig, Int.reduceAbs, Int.reduceLE, Int.reduceLT, Int.reduceAdd, Int.reduceSub, Int.reduceMul, Int.reduceNeg, Int.reduceToNat, Int.reducePow, Int.reduceEq, Nat.reducePow, Nat.reduceLT, ofString_inj, String.reduceEq, shaped_lit, shaped_int, shaped_bool, shaped_none, sm_lt, mb_lit_l, mb_lit_r, ↓w_pick, ↓w_pickT, ↓w_draw, w_wipe0, w_wipe1, List.nil_append, List.cons_append, reduceCtorEq, Bool.true_eq_false, eq_self, not_true_eq_false, not_false_eq_true, List.any_cons, List.any_nil, Bool.or_false, Bool.false_or, Bool.or_true, Bool.true_or, Bool.and_true, Bool.true_and, Bool.and_false, Bool.false_and, ↓sp__law_draw, ↓sp__law_pick, gKw_0_ap, gKw_1_0_ap]
        exact ⟨tS.ok (by decide) (by decide), sh2, sh2, q⟩
    · intro x hx env K hK he
      obtain ⟨x9, x11, x12, x13, x14, x15, x16, rfl⟩ := he
      have hp : ∃ p : Pt, x = eP p := by
        revert x
        exact fal ⟨(_, _), rfl⟩ (fal ⟨(_, _), rfl⟩ (fal ⟨(_, _), rfl⟩ (fal ⟨(_, _), rfl⟩ (fal ⟨(_, _), rfl⟩ (fal ⟨(_, _), rfl⟩ fan)))))
      obtain ⟨p, rfl⟩ := hp
      have tA : Tm 30000 2 (.tuple ((ntsAt acc p).map eN)) := tm_sc (ntsAt_ok hok p) (Nat.le_trans (ntsAt_len acc p) (by omega))
      simp only [d__law_is_right_L2, ↓w_seq, ↓w_set, ↓w_ret, ↓w_retN, ↓w_retV, ↓w_if, ↓w_drop, ↓w_asg, ↓w_par, ↓w_par3, ↓w_nx, ↓w_bk, ↓w_ct, ↓w_frz, ↓w_for, ↓w_app, ↓w_ext, ↓w_bin, ↓w_un, ↓w_var, ↓w_con, ↓w_callB, ↓w_nilU, ↓w_consU, ↓w_consS, ↓w_nilD, ↓w_consD, ↓w_consO, ↓w_tup, ↓w_lst, ↓w_dic0, ↓w_and, ↓w_or, ↓w_not, ↓w_ite, ↓w_chain, ↓w_isa, ↓w_fn, ↓w_fnK, ↓w_sl, ↓w_noO, ↓w_someO, ↓w_yes, ↓w_tst, ↓w_lc, ↓w_it, ↓w_enum, ↓w_zip, ↓w_rng1, ↓w_rng2, ↓w_never, ↓w_kNil, ↓w_kCons, ↓w_disp, ↓w_mg0, ↓w_mg1, ↓w_put0, ↓w_keyS, ↓w_keyI, ↓w_sset, ↓w_dicT, ↓w_inT, ↓w_ixT, ↓w_listT, ↓w_stoT, ↓w_stoU, ↓w_enDt, ↓w_onDt, ↓w_enOw, ↓w_onOw, ↓w_stoL, ↓w_stoD, ↓w_enZ, ↓g_min2, ↓g_minL, ↓g_minT, ↓g_max2, ↓g_maxL, ↓g_maxT, ↓g_sum, ↓g_all, ↓g_any, ↓v_use_d, ↓v_arg_d, ↓v_sto_d, ↓v_rd_d, ↓v_frz_d, ↓v_src_d, ↓v_use_own, ↓v_arg_own, ↓v_sto_own, ↓v_rd_own, ↓v_src_own, ↓v_use_bor, ↓v_arg_bor, ↓v_sto_bor, ↓v_rd_bor, ↓v_frz_bor, ↓v_src_bor, ↓v_use_scr, ↓v_arg_scr, ↓v_sto_scr, ↓v_rd_scr, ↓v_frz_scr, ↓v_src_scr, ↓v_use_box, ↓v_arg_box, ↓v_sto_box, ↓v_rd_box, ↓v_frz_box, ↓v_src_box, ↓v_bl, ↓v_frz_L, ↓v_frz_D, ↓v_frz_T, ↓v_rd_L, ↓v_rd_D, ↓v_dat_l, ↓v_dat_d, ↓v_onD, ↓v_onI, ↓v_onL, ↓v_on1, ↓v_on2, ↓v_on3, ↓v_all0, ↓v_all1, ↓v_seqL, ↓v_seqT, ↓v_gNm, ↓v_gNil, ↓v_gCons, ↓v_gTup, ↓g_add, ↓g_addS, ↓g_addT, ↓g_addL, ↓g_sub, ↓g_mul, ↓g_fdiv, ↓g_mod, ↓g_pow, ↓g_eq, ↓g_ne, ↓g_lt, ↓g_gt, ↓g_le, ↓g_ge, ↓g_ltT, ↓g_gtT, ↓g_leT, ↓g_geT, ↓g_inT, ↓g_inL, ↓g_is, ↓g_neg, ↓g_not, ↓g_lenL, ↓g_lenT, ↓g_lenD, ↓g_intI, ↓g_intB, ↓g_abs, ↓g_gcd, ↓g_repr, ↓g_listL, ↓g_listT, ↓g_tupL, ↓g_tupT, ↓g_ixL0, ↓g_ixL1, ↓g_ixL2, ↓g_ixL3, ↓g_ixT0, ↓g_ixT1, ↓g_ixT2, ↓g_ixT3, ↓g_ixL, ↓g_ixT, ↓g_slL, ↓g_slT, ↓g_revL, ↓g_revT, n_non, n_int, n_tup, n_str, n_bl, n_lst, ↓n_enLst, ↓n_onOwn, ↓en0, ↓enS, eqOk_int, eqOk_str, eqv_int, eqv_str, exists_eq_left', atI0, atI1, atI2, atI3, isa, Int.cast_ofNat_Int, List.length_cons, List.length_nil, List.set_cons_zero, List.set_cons_succ, Option.some.injEq, true_and, and_true, if_true, if_false, Bool.not_true, Bool.not_false, Bool.xor_false, Bool.false_xor, Bool.true_xor, decide_eq_true_eq, Bool.not_eq_true', decide_eq_false_iff_not, Nat.reduceAdd, Nat.zero_add, w_err, fnEnds, shaped_c0, shaped_c1, shaped_c2, shaped_c3, List.map_cons, List.map_nil, Bool.false_eq_true, reduceIte, decide_true, decide_false, Bool.not_eq_true, decide_not, Bool.not_not, ne_eq, Nat.reduceLeDiff, sizeBig, Int.reduceAbs, Int.reduceLE, Int.reduceLT, Int.reduceAdd, Int.reduceSub, Int.reduceMul, Int.reduceNeg, Int.reduceToNat, Int.reducePow, Int.reduceEq, Nat.reducePow, Nat.reduceLT, ofString_inj, String.reduceEq, shaped_lit, shaped_int, shaped_bool, shaped_none, sm_lt, mb_lit_l, mb_lit_r, ↓w_pick, ↓w_pickT, ↓w_draw, w_wipe0, w_wipe1, List.nil_append, List.cons_append, reduceCtorEq, Bool.true_eq_false, eq_self, not_true_eq_false, not_false_eq_true, List.any_cons, List.any_nil, Bool.or_false, Bool.false_or, Bool.or_true, Bool.true_or, Bool.and_true, Bool.true_and, Bool.and_false, Bool.false_and, ↓sp__law_draw, ↓sp__law_pick, gKw_0_ap, gKw_1_0_ap]
      refine ⟨acc, p, rfl, by omega, ?_⟩
      simp only [↓w_seq, ↓w_set, ↓w_ret, ↓w_retN, ↓w_retV, ↓w_if, ↓w_drop, ↓w_asg, ↓w_par, ↓w_par3, ↓w_nx, ↓w_bk, ↓w_ct, ↓w_frz, ↓w_for, ↓w_app, ↓w_ext, ↓w_bin, ↓w_un, ↓w_var, ↓w_con, ↓w_callB, ↓w_nilU, ↓w_consU, ↓w_consS, ↓w_nilD, ↓w_consD, ↓w_consO, ↓w_tup, ↓w_lst, ↓w_dic0, ↓w_and, ↓w_or, ↓w_not, ↓w_ite, ↓w_chain, ↓w_isa, ↓w_fn, ↓w_fnK, ↓w_sl, ↓w_noO, ↓w_someO, ↓w_yes, ↓w_tst, ↓w_lc, ↓w_it, ↓w_enum, ↓w_zip, ↓w_rng1, ↓w_rng2, ↓w_never, ↓w_kNil, ↓w_kCons, ↓w_disp, ↓w_mg0, ↓w_mg1, ↓w_put0, ↓w_keyS, ↓w_keyI, ↓w_sset, ↓w_dicT, ↓w_inT, ↓w_ixT, ↓w_listT, ↓w_stoT, ↓w_stoU, ↓w_enDt, ↓w_onDt, ↓w_enOw, ↓w_onOw, ↓w_stoL, ↓w_stoD, ↓w_enZ, ↓g_min2, ↓g_minL, ↓g_minT, ↓g_max2, ↓g_maxL, ↓g_maxT, ↓g_sum, ↓g_all, ↓g_any, ↓v_use_d, ↓v_arg_d, ↓v_sto_d, ↓v_rd_d, ↓v_frz_d, ↓v_src_d, ↓v_use_own, ↓v_arg_own, ↓v_sto_own, ↓v_rd_own, ↓v_src_own, ↓v_use_bor, ↓v_arg_bor, ↓v_sto_bor, ↓v_rd_bor, ↓v_frz_bor, ↓v_src_bor, ↓v_use_scr, ↓v_arg_scr, ↓v_sto_scr, ↓v_rd_scr, ↓v_frz_scr, ↓v_src_scr, ↓v_use_box, ↓v_arg_box, ↓v_sto_box, ↓v_rd_box, ↓v_frz_box, ↓v_src_box, ↓v_bl, ↓v_frz_L, ↓v_frz_D, ↓v_frz_T, ↓v_rd_L, ↓v_rd_D, ↓v_dat_l, ↓v_dat_d, ↓v_onD, ↓v_onI, ↓v_onL, ↓v_on1, ↓v_on2, ↓v_on3, ↓v_all0, ↓v_all1, ↓v_seqL, ↓v_seqT, ↓v_gNm, ↓v_gNil, ↓v_gCons, ↓v_gTup, ↓g_add, ↓g_addS, ↓g_addT, ↓g_addL, ↓g_sub, ↓g_mul, ↓g_fdiv, ↓g_mod, ↓g_pow, ↓g_eq, ↓g_ne, ↓g_lt, ↓g_gt, ↓g_le, ↓g_ge, ↓g_ltT, ↓g_gtT, ↓g_leT, ↓g_geT, ↓g_inT, ↓g_inL, ↓g_is, ↓g_neg, ↓g_not, ↓g_lenL, ↓g_lenT, ↓g_lenD, ↓g_intI, ↓g_intB, ↓g_abs, ↓g_gcd, ↓g_repr, ↓g_listL, ↓g_listT, ↓g_tupL, ↓g_tupT, ↓g_ixL0, ↓g_ixL1, ↓g_ixL2, ↓g_ixL3, ↓g_ixT0, ↓g_ixT1, ↓g_ixT2, ↓g_ixT3, ↓g_ixL, ↓g_ixT, ↓g_slL, ↓g_slT, ↓g_revL, ↓g_revT, n_non, n_int, n_tup, n_str, n_bl, n_lst, ↓n_enLst, ↓n_onOwn, ↓en0, ↓enS, eqOk_int, eqOk_str, eqv_int, eqv_str, exists_eq_left', atI0, atI1, atI2, atI3, isa, Int.cast_ofNat_Int, List.length_cons, List.length_nil, List.set_cons_zero, List.set_cons_succ, Option.some.injEq, true_and, and_true, if_true, if_false, Bool.not_true, Bool.not_false, Bool.xor_false, Bool.false_xor, Bool.true_xor, decide_eq_true_eq, Bool.not_eq_true', decide_eq_false_iff_not, Nat.reduceAdd, Nat.zero_add, w_err, fnEnds, shaped_c0, shaped_c1, shaped_c2, shaped_c3, List.map_cons, List.map_nil, Bool.false_eq_true, reduceIte, decide_true, decide_false, Bool.not_eq_true, decide_not, Bool.not_not, ne_eq, Nat.reduceLeDiff, sizeBig, Int.reduceAbs, Int.reduceLE, Int.reduceLT, Int.reduceAdd, Int.reduceSub, Int.reduceMul, Int.reduceNeg, Int.reduceToNat, Int.reducePow, Int.reduceEq, Nat.reducePow, Nat.reduceLT, ofString_inj, String.reduceEq, shaped_lit, shaped_int, shaped_bool, shaped_none, sm_lt, mb_lit_l, mb_lit_r, ↓w_pick, ↓w_pickT, ↓w_draw, w_wipe0, w_wipe1, List.nil_append, List.cons_append, reduceCtorEq, Bool.true_eq_false, eq_self, not_true_eq_false, not_false_eq_true, List.any_cons, List.any_nil, Bool.or_false, Bool.false_or, Bool.or_true, Bool.true_or, Bool.and_true, Bool.true_and, Bool.and_false, Bool.false_and, ↓sp__law_draw, ↓sp__law_pick, gKw_0_ap, gKw_1_0_ap]
      refine ⟨tA.ok (by decide) (by decide), ?_⟩
      refine lc_det eN (fun n => if n.pt = p then some (eN n) else none) acc [] (by rw [sizeLine_eq, List.length_nil]; omega) (fun n _ K2 hK2 => ?_) ?_
      · simp only [lcStep, eN, eP, ↓w_seq, ↓w_set, ↓w_ret, ↓w_retN, ↓w_retV, ↓w_if, ↓w_drop, ↓w_asg, ↓w_par, ↓w_par3, ↓w_nx, ↓w_bk, ↓w_ct, ↓w_frz, ↓w_for, ↓w_app, ↓w_ext, ↓w_bin, ↓w_un, ↓w_var, ↓w_con, ↓w_callB, ↓w_nilU, ↓w_consU, ↓w_consS, ↓w_nilD, ↓w_consD, ↓w_consO, ↓w_tup, ↓w_lst, ↓w_dic0, ↓w_and, ↓w_or, ↓w_not, ↓w_ite, ↓w_chain, ↓w_isa, ↓w_fn, ↓w_fnK, ↓w_sl, ↓w_noO, ↓w_someO, ↓w_yes, ↓w_tst, ↓w_lc, ↓w_it, ↓w_enum, ↓w_zip, ↓w_rng1, ↓w_rng2, ↓w_never, ↓w_kNil, ↓w_kCons, ↓w_disp, ↓w_mg0, ↓w_mg1, ↓w_put0, ↓w_keyS, ↓w_keyI, ↓w_sset, ↓w_dicT, ↓w_inT, ↓w_ixT, ↓w_listT, ↓w_stoT, ↓w_stoU, ↓w_enDt, ↓w_onDt, ↓w_enOw, ↓w_onOw, ↓w_stoL, ↓w_stoD, ↓w_enZ, ↓g_min2, ↓g_minL, ↓g_minT, ↓g_max2, ↓g_maxL, ↓g_maxT, ↓g_sum, ↓g_all, ↓g_any, ↓v_use_d, ↓v_arg_d, ↓v_sto_d, ↓v_rd_d, ↓v_frz_d, ↓v_src_d, ↓v_use_own, ↓v_arg_own, ↓v_sto_own, ↓v_rd_own, ↓v_src_own, ↓v_use_bor, ↓v_arg_bor, ↓v_sto_bor, ↓v_rd_bor, ↓v_frz_bor, ↓v_src_bor, ↓v_use_scr, ↓v_arg_scr, ↓v_sto_scr, ↓v_rd_scr, ↓v_frz_scr, ↓v_src_scr, ↓v_use_box, ↓v_arg_box, ↓v_sto_box, ↓v_rd_box, ↓v_frz_box, ↓v_src_box, ↓v_bl, ↓v_frz_L, ↓v_frz_D, ↓v_frz_T, ↓v_rd_L, ↓v_rd_D, ↓v_dat_l, ↓v_dat_d, ↓v_onD, ↓v_onI, ↓v_onL, ↓v_on1, ↓v_on2, ↓v_on3, ↓v_all0, ↓v_all1, ↓v_seqL, ↓v_seqT, ↓v_gNm, ↓v_gNil, ↓v_gCons, ↓v_gTup, ↓g_add, ↓g_addS, ↓g_addT, ↓g_addL, ↓g_sub, ↓g_mul, ↓g_fdiv, ↓g_mod, ↓g_pow, ↓g_eq, ↓g_ne, ↓g_lt, ↓g_gt, ↓g_le, ↓g_ge, ↓g_ltT, ↓g_gtT, ↓g_leT, ↓g_geT, ↓g_inT, ↓g_inL, ↓g_is, ↓g_neg, ↓g_not, ↓g_lenL, ↓g_lenT, ↓g_lenD, ↓g_intI, ↓g_intB, ↓g_abs, ↓g_gcd, ↓g_repr, ↓g_listL, ↓g_listT, ↓g_tupL, ↓g_tupT, ↓g_ixL0, ↓g_ixL1, ↓g_ixL2, ↓g_ixL3, ↓g_ixT0, ↓g_ixT1, ↓g_ixT2, ↓g_ixT3, ↓g_ixL, ↓g_ixT, ↓g_slL, ↓g_slT, ↓g_revL, ↓g_revT, n_non, n_int, n_tup, n_str, n_bl, n_lst, ↓n_enLst, ↓n_onOwn, ↓en0, ↓enS, eqOk_int, eqOk_str, eqv_int, eqv_str, exists_eq_left', atI0, atI1, atI2, atI3, isa, Int.cast_ofNat_Int, List.length_cons, List.length_nil, List.set_cons_zero, List.set_cons_succ, Option.some.injEq, true_and, and_true, if_true, if_false, Bool.not_true, Bool.not_false, Bool.xor_false, Bool.false_xor, Bool.true_xor, decide_eq_true_eq, Bool.not_eq_true', decide_eq_false_iff_not, Nat.reduceAdd, Nat.zero_add, w_err, fnEnds, shaped_c0, shaped_c1, shaped_c2, shaped_c3, List.map_cons, List.map_nil, Bool.false_eq_true, reduceIte, decide_true, decide_false, Bool.not_eq_true, decide_not, Bool.not_not, ne_eq, Nat.reduceLeDiff, sizeBig, Int.reduceAbs, Int.reduceLE, Int.reduceLT, Int.reduceAdd, Int.reduceSub, Int.reduceMul, Int.reduceNeg, Int.reduceToNat, Int.reducePow, Int.reduceEq, Nat.reducePow, Nat.reduceLT, ofString_inj, String.reduceEq, shaped_lit, shaped_int, shaped_bool, shaped_none, sm_lt, mb_lit_l, mb_lit_r, ↓w_pick, ↓w_pickT, ↓w_draw, w_wipe0, w_wipe1, List.nil_append, List.cons_append, reduceCtorEq, Bool.true_eq_false, eq_self, not_true_eq_false, not_false_eq_true, List.any_cons, List.any_nil, Bool.or_false, Bool.false_or, Bool.or_true, Bool.true_or, Bool.and_true, Bool.true_and, Bool.and_false, Bool.false_and, ↓sp__law_draw, ↓sp__law_pick, gKw_0_ap, gKw_1_0_ap, cutT0, cutT1, cutT2, cutT3, cutT4, cutF0, cutF1, cutF2, cutF3, cutF4, List.take_succ_cons, List.take_zero, List.take_nil, List.drop_succ_cons, List.drop_zero, List.drop_nil]
        exact at_step n p hK2
      · rw [fm_if]
        simp only [↓w_seq, ↓w_set, ↓w_ret, ↓w_retN, ↓w_retV, ↓w_if, ↓w_drop, ↓w_asg, ↓w_par, ↓w_par3, ↓w_nx, ↓w_bk, ↓w_ct, ↓w_frz, ↓w_for, ↓w_app, ↓w_ext, ↓w_bin, ↓w_un, ↓w_var, ↓w_con, ↓w_callB, ↓w_nilU, ↓w_consU, ↓w_consS, ↓w_nilD, ↓w_consD, ↓w_consO, ↓w_tup, ↓w_lst, ↓w_dic0, ↓w_and, ↓w_or, ↓w_not, ↓w_ite, ↓w_chain, ↓w_isa, ↓w_fn, ↓w_fnK, ↓w_sl, ↓w_noO, ↓w_someO, ↓w_yes, ↓w_tst, ↓w_lc, ↓w_it, ↓w_enum, ↓w_zip, ↓w_rng1, ↓w_rng2, ↓w_never, ↓w_kNil, ↓w_kCons, ↓w_disp, ↓w_mg0, ↓w_mg1, ↓w_put0, ↓w_keyS, ↓w_keyI, ↓w_sset, ↓w_dicT, ↓w_inT, ↓w_ixT, ↓w_listT, ↓w_stoT, ↓w_stoU, ↓w_enDt, ↓w_onDt, ↓w_enOw, ↓w_onOw, ↓w_stoL, ↓w_stoD, ↓w_enZ, ↓g_min2, ↓g_minL, ↓g_minT, ↓g_max2, ↓g_maxL, ↓g_maxT, ↓g_sum, ↓g_all, ↓g_any, ↓v_use_d, ↓v_arg_d, ↓v_sto_d, ↓v_rd_d, ↓v_frz_d, ↓v_src_d, ↓v_use_own, ↓v_arg_own, ↓v_sto_own, ↓v_rd_own, ↓v_src_own, ↓v_use_bor, ↓v_arg_bor, ↓v_sto_bor, ↓v_rd_bor, ↓v_frz_bor, ↓v_src_bor, ↓v_use_scr, ↓v_arg_scr, ↓v_sto_scr, ↓v_rd_scr, ↓v_frz_scr, ↓v_src_scr, ↓v_use_box, ↓v_arg_box, ↓v_sto_box, ↓v_rd_box, ↓v_frz_box, ↓v_src_box, ↓v_bl, ↓v_frz_L, ↓v_frz_D, ↓v_frz_T, ↓v_rd_L, ↓v_rd_D, ↓v_dat_l, ↓v_dat_d, ↓v_onD, ↓v_onI, ↓v_onL, ↓v_on1, ↓v_on2, ↓v_on3, ↓v_all0, ↓v_all1, ↓v_seqL, ↓v_seqT, ↓v_gNm, ↓v_gNil, ↓v_gCons, ↓v_gTup, ↓g_add, ↓g_addS, ↓g_addT, ↓g_addL, ↓g_sub, ↓g_mul, ↓g_fdiv, ↓g_mod, ↓g_pow, ↓g_eq, ↓g_ne, ↓g_lt, ↓g_gt, ↓g_le, ↓g_ge, ↓g_ltT, ↓g_gtT, ↓g_leT, ↓g_geT, ↓g_inT, ↓g_inL, ↓g_is, ↓g_neg, ↓g_not, ↓g_lenL, ↓g_lenT, ↓g_lenD, ↓g_intI, ↓g_intB, ↓g_abs, ↓g_gcd, ↓g_repr, ↓g_listL, ↓g_listT, ↓g_tupL, ↓g_tupT, ↓g_ixL0, ↓g_ixL1, ↓g_ixL2, ↓g_ixL3, ↓g_ixT0, ↓g_ixT1, ↓g_ixT2, ↓g_ixT3, ↓g_ixL, ↓g_ixT, ↓g_slL, ↓g_slT, ↓g_revL, ↓g_revT, n_non, n_int, n_tup, n_str, n_bl, n_lst, ↓n_enLst, ↓n_onOwn, ↓en0, ↓enS, eqOk_int, eqOk_str, eqv_int, eqv_str, exists_eq_left', atI0, atI1, atI2, atI3, isa, Int.cast_ofNat_Int, List.length_cons, List.length_nil, List.set_cons_zero, List.set_cons_succ, Option.some.injEq, true_and, and_true, if_true, if_false, Bool.not_true, Bool.not_false, Bool.xor_false, Bool.false_xor, Bool.true_xor, decide_eq_true_eq, Bool.not_eq_true', decide_eq_false_iff_not, Nat.reduceAdd, Nat.zero_add, w_err, fnEnds, shaped_c0, shaped_c1, shaped_c2, shaped_c3, List.map_cons, List.map_nil, Bool.false_eq_true, reduceIte, decide_true, decide_false, Bool.not_eq_true, decide_not, Bool.not_not, ne_eq, Nat.reduceLeDiff, sizeBig, Int.reduceAbs, Int.reduceLE, Int.reduceLT, Int.reduceAdd, Int.reduceSub, Int.reduceMul, Int.reduceNeg, Int.reduceToNat, Int.reducePow, Int.reduceEq, Nat.reducePow, Nat.reduceLT, ofString_inj, String.reduceEq, shaped_lit, shaped_int, shaped_bool, shaped_none, sm_lt, mb_lit_l, mb_lit_r, ↓w_pick, ↓w_pickT, ↓w_draw, w_wipe0, w_wipe1, List.nil_append, List.cons_append, reduceCtorEq, Bool.true_eq_false, eq_self, not_true_eq_false, not_false_eq_true, List.any_cons, List.any_nil, Bool.or_false, Bool.false_or, Bool.or_true, Bool.true_or, Bool.and_true, Bool.true_and, Bool.and_false, Bool.false_and, ↓sp__law_draw, ↓sp__law_pick, gKw_0_ap, gKw_1_0_ap]
        refine ⟨tA.ok (by decide) (by decide), ?_⟩
        rw [if_neg (fun h => h rfl)]
        exact hK _ ⟨_, _, _, _, _, _, _, rfl⟩
  · rintro e es env K hK ⟨acc, x9, x11, x12, x13, x14, x15, x16, rfl, ha⟩
    simp only [d__law_is_right_L1, ↓w_seq, ↓w_set, ↓w_ret, ↓w_retN, ↓w_retV, ↓w_if, ↓w_drop, ↓w_asg, ↓w_par, ↓w_par3, ↓w_nx, ↓w_bk, ↓w_ct, ↓w_frz, ↓w_for, ↓w_app, ↓w_ext, ↓w_bin, ↓w_un, ↓w_var, ↓w_con, ↓w_callB, ↓w_nilU, ↓w_consU, ↓w_consS, ↓w_nilD, ↓w_consD, ↓w_consO, ↓w_tup, ↓w_lst, ↓w_dic0, ↓w_and, ↓w_or, ↓w_not, ↓w_ite, ↓w_chain, ↓w_isa, ↓w_fn, ↓w_fnK, ↓w_sl, ↓w_noO, ↓w_someO, ↓w_yes, ↓w_tst, ↓w_lc, ↓w_it, ↓w_enum, ↓w_zip, ↓w_rng1, ↓w_rng2, ↓w_never, ↓w_kNil, ↓w_kCons, ↓w_disp, ↓w_mg0, ↓w_mg1, ↓w_put0, ↓w_keyS, ↓w_keyI, ↓w_sset, ↓w_dicT, ↓w_inT, ↓w_ixT, ↓w_listT, ↓w_stoT, ↓w_stoU, ↓w_enDt, ↓w_onDt, ↓w_enOw, ↓w_onOw, ↓w_stoL, ↓w_stoD, ↓w_enZ, ↓g_min2, ↓g_minL, ↓g_minT, ↓g_max2, ↓g_maxL, ↓g_maxT, ↓g_sum, ↓g_all, ↓g_any, ↓v_use_d, ↓v_arg_d, ↓v_sto_d, ↓v_rd_d, ↓v_frz_d, ↓v_src_d, ↓v_use_own, ↓v_arg_own, ↓v_sto_own, ↓v_rd_own, ↓v_src_own, ↓v_use_bor, ↓v_arg_bor, ↓v_sto_bor, ↓v_rd_bor, ↓v_frz_bor, ↓v_src_bor, ↓v_use_scr, ↓v_arg_scr, ↓v_sto_scr, ↓v_rd_scr, ↓v_frz_scr, ↓v_src_scr, ↓v_use_box, ↓v_arg_box, ↓v_sto_box, ↓v_rd_box, ↓v_frz_box, ↓v_src_box, ↓v_bl, ↓v_frz_L, ↓v_frz_D, ↓v_frz_T, ↓v_rd_L, ↓v_rd_D, ↓v_dat_l, ↓v_dat_d, ↓v_onD, ↓v_onI, ↓v_onL, ↓v_on1, ↓v_on2, ↓v_on3, ↓v_all0, ↓v_all1, ↓v_seqL, ↓v_seqT, ↓v_gNm, ↓v_gNil, ↓v_gCons, ↓v_gTup, ↓g_add, ↓g_addS, ↓g_addT, ↓g_addL, ↓g_sub, ↓g_mul, ↓g_fdiv, ↓g_mod, ↓g_pow, ↓g_eq, ↓g_ne, ↓g_lt, ↓g_gt, ↓g_le, ↓g_ge, ↓g_ltT, ↓g_gtT, ↓g_leT, ↓g_geT, ↓g_inT, ↓g_inL, ↓g_is, ↓g_neg, ↓g_not, ↓g_lenL, ↓g_lenT, ↓g_lenD, ↓g_intI, ↓g_intB, ↓g_abs, ↓g_gcd, ↓g_repr, ↓g_listL, ↓g_listT, ↓g_tupL, ↓g_tupT, ↓g_ixL0, ↓g_ixL1, ↓g_ixL2, ↓g_ixL3, ↓g_ixT0, ↓g_ixT1, ↓g_ixT2, ↓g_ixT3, ↓g_ixL, ↓g_ixT, ↓g_slL, ↓g_slT, ↓g_revL, ↓g_revT, n_non, n_int, n_tup, n_str, n_bl, n_lst, ↓n_enLst, ↓n_onOwn, ↓en0, ↓enS, eqOk_int, eqOk_str, eqv_int, eqv_str, exists_eq_left', atI0, atI1, atI2, atI3, isa, Int.cast_ofNat_Int, List.length_cons, List.length_nil, List.set_cons_zero, List.set_cons_succ, Option.some.injEq, true_and, and_true, if_true, if_false, Bool.not_true, Bool.not_false, Bool.xor_false, Bool.false_xor, Bool.true_xor, decide_eq_true_eq, Bool.not_eq_true', decide_eq_false_iff_not, Nat.reduceAdd, Nat.zero_add, w_err, fnEnds, shaped_c0, shaped_c1, shaped_c2, shaped_c3, List.map_cons, List.map_nil, Bool.false_eq_true, reduceIte, decide_true, decide_false, Bool.not_eq_true, decide_not, Bool.not_not, ne_eq, Nat.reduceLeDiff, sizeBig, Int.reduceAbs, Int.reduceLE, Int.reduceLT, Int.reduceAdd, Int.reduceSub, Int.reduceMul, Int.reduceNeg, Int.reduceToNat, Int.reducePow, Int.reduceEq, Nat.reducePow, Nat.reduceLT, ofString_inj, String.reduceEq, shaped_lit, shaped_int, shaped_bool, shaped_none, sm_lt, mb_lit_l, mb_lit_r, ↓w_pick, ↓w_pickT, ↓w_draw, w_wipe0, w_wipe1, List.nil_append, List.cons_append, reduceCtorEq, Bool.true_eq_false, eq_self, not_true_eq_false, not_false_eq_true, List.any_cons, List.any_nil, Bool.or_false, Bool.false_or, Bool.or_true, Bool.true_or, Bool.and_true, Bool.true_and, Bool.and_false, Bool.false_and, ↓sp__law_draw, ↓sp__law_pick, gKw_0_ap, gKw_1_0_ap]
    refine lc_det eN (fun n => if n.pt = e.1 then some (eN n) else none) ns [] (by rw [sizeLine_eq, List.length_nil]; omega) (fun n _ K2 hK2 => ?_) ?_
    · simp only [lcStep, eN, eP, ↓w_seq, ↓w_set, ↓w_ret, ↓w_retN, ↓w_retV, ↓w_if, ↓w_drop, ↓w_asg, ↓w_par, ↓w_par3, ↓w_nx, ↓w_bk, ↓w_ct, ↓w_frz, ↓w_for, ↓w_app, ↓w_ext, ↓w_bin, ↓w_un, ↓w_var, ↓w_con, ↓w_callB, ↓w_nilU, ↓w_consU, ↓w_consS, ↓w_nilD, ↓w_consD, ↓w_consO, ↓w_tup, ↓w_lst, ↓w_dic0, ↓w_and, ↓w_or, ↓w_not, ↓w_ite, ↓w_chain, ↓w_isa, ↓w_fn, ↓w_fnK, ↓w_sl, ↓w_noO, ↓w_someO, ↓w_yes, ↓w_tst, ↓w_lc, ↓w_it, ↓w_enum, ↓w_zip, ↓w_rng1, ↓w_rng2, ↓w_never, ↓w_kNil, ↓w_kCons, ↓w_disp, ↓w_mg0, ↓w_mg1, ↓w_put0, ↓w_keyS, ↓w_keyI, ↓w_sset, ↓w_dicT, ↓w_inT, ↓w_ixT, ↓w_listT, ↓w_stoT, ↓w_stoU, ↓w_enDt, ↓w_onDt, ↓w_enOw, ↓w_onOw, ↓w_stoL, ↓w_stoD, ↓w_enZ, ↓g_min2, ↓g_minL, ↓g_minT, ↓g_max2, ↓g_maxL, ↓g_maxT, ↓g_sum, ↓g_all, ↓g_any, ↓v_use_d, ↓v_arg_d, ↓v_sto_d, ↓v_rd_d, ↓v_frz_d, ↓v_src_d, ↓v_use_own, ↓v_arg_own, ↓v_sto_own, ↓v_rd_own, ↓v_src_own, ↓v_use_bor, ↓v_arg_bor, ↓v_sto_bor, ↓v_rd_bor, ↓v_frz_bor, ↓v_src_bor, ↓v_use_scr, ↓v_arg_scr, ↓v_sto_scr, ↓v_rd_scr, ↓v_frz_scr, ↓v_src_scr, ↓v_use_box, ↓v_arg_box, ↓v_sto_box, ↓v_rd_box, ↓v_frz_box, ↓v_src_box, ↓v_bl, ↓v_frz_L, ↓v_frz_D, ↓v_frz_T, ↓v_rd_L, ↓v_rd_D, ↓v_dat_l, ↓v_dat_d, ↓v_onD, ↓v_onI, ↓v_onL, ↓v_on1, ↓v_on2, ↓v_on3, ↓v_all0, ↓v_all1, ↓v_seqL, ↓v_seqT, ↓v_gNm, ↓v_gNil, ↓v_gCons, ↓v_gTup, ↓g_add, ↓g_addS, ↓g_addT, ↓g_addL, ↓g_sub, ↓g_mul, ↓g_fdiv, ↓g_mod, ↓g_pow, ↓g_eq, ↓g_ne, ↓g_lt, ↓g_gt, ↓g_le, ↓g_ge, ↓g_ltT, ↓g_gtT, ↓g_leT, ↓g_geT, ↓g_inT, ↓g_inL, ↓g_is, ↓g_neg, ↓g_not, ↓g_lenL, ↓g_lenT, ↓g_lenD, ↓g_intI, ↓g_intB, ↓g_abs, ↓g_gcd, ↓g_repr, ↓g_listL, ↓g_listT, ↓g_tupL, ↓g_tupT, ↓g_ixL0, ↓g_ixL1, ↓g_ixL2, ↓g_ixL3, ↓g_ixT0, ↓g_ixT1, ↓g_ixT2, ↓g_ixT3, ↓g_ixL, ↓g_ixT, ↓g_slL, ↓g_slT, ↓g_revL, ↓g_revT, n_non, n_int, n_tup, n_str, n_bl, n_lst, ↓n_enLst, ↓n_onOwn, ↓en0, ↓enS, eqOk_int, eqOk_str, eqv_int, eqv_str, exists_eq_left', atI0, atI1, atI2, atI3, isa, Int.cast_ofNat_Int, List.length_cons, List.length_nil, List.set_cons_zero, List.set_cons_succ, Option.some.injEq, true_and, and_true, if_true, if_false, Bool.not_true, Bool.not_false, Bool.xor_false, Bool.false_xor, Bool.true_xor, decide_eq_true_eq, Bool.not_eq_true', decide_eq_false_iff_not, Nat.reduceAdd, Nat.zero_add, w_err, fnEnds, shaped_c0, shaped_c1, shaped_c2, shaped_c3, List.map_cons, List.map_nil, Bool.false_eq_true, reduceIte, decide_true, decide_false, Bool.not_eq_true, decide_not, Bool.not_not, ne_eq, Nat.reduceLeDiff, sizeBig, Int.reduceAbs, Int.reduceLE, Int.reduceLT, Int.reduceAdd, Int.reduceSub, Int.reduceMul, Int.reduceNeg, Int.reduceToNat, Int.reducePow, Int.reduceEq, Nat.reducePow, Nat.reduceLT, ofString_inj, String.reduceEq, shaped_lit, shaped_int, shaped_bool, shaped_none, sm_lt, mb_lit_l, mb_lit_r, ↓w_pick, ↓w_pickT, ↓w_draw, w_wipe0, w_wipe1, List.nil_append, List.cons_append, reduceCtorEq, Bool.true_eq_false, eq_self, not_true_eq_false, not_false_eq_true, List.any_cons, List.any_nil, Bool.or_false, Bool.false_or, Bool.or_true, Bool.true_or, Bool.and_true, Bool.true_and, Bool.and_false, Bool.false_and, ↓sp__law_draw, ↓sp__law_pick, gKw_0_ap, gKw_1_0_ap, cutT0, cutT1, cutT2, cutT3, cutT4, cutF0, cutF1, cutF2, cutF3, cutF4, List.take_succ_cons, List.take_zero, List.take_nil, List.drop_succ_cons, List.drop_zero, List.drop_nil]
      exact at_step n e.1 hK2
    · rw [fm_if]
      simp only [↓w_seq, ↓w_set, ↓w_ret, ↓w_retN, ↓w_retV, ↓w_if, ↓w_drop, ↓w_asg, ↓w_par, ↓w_par3, ↓w_nx, ↓w_bk, ↓w_ct, ↓w_frz, ↓w_for, ↓w_app, ↓w_ext, ↓w_bin, ↓w_un, ↓w_var, ↓w_con, ↓w_callB, ↓w_nilU, ↓w_consU, ↓w_consS, ↓w_nilD, ↓w_consD, ↓w_consO, ↓w_tup, ↓w_lst, ↓w_dic0, ↓w_and, ↓w_or, ↓w_not, ↓w_ite, ↓w_chain, ↓w_isa, ↓w_fn, ↓w_fnK, ↓w_sl, ↓w_noO, ↓w_someO, ↓w_yes, ↓w_tst, ↓w_lc, ↓w_it, ↓w_enum, ↓w_zip, ↓w_rng1, ↓w_rng2, ↓w_never, ↓w_kNil, ↓w_kCons, ↓w_disp, ↓w_mg0, ↓w_mg1, ↓w_put0, ↓w_keyS, ↓w_keyI, ↓w_sset, ↓w_dicT, ↓w_inT, ↓w_ixT, ↓w_listT, ↓w_stoT, ↓w_stoU, ↓w_enDt, ↓w_onDt, ↓w_enOw, ↓w_onOw, ↓w_stoL, ↓w_stoD, ↓w_enZ, ↓g_min2, ↓g_minL, ↓g_minT, ↓g_max2, ↓g_maxL, ↓g_maxT, ↓g_sum, ↓g_all, ↓g_any, ↓v_use_d, ↓v_arg_d, ↓v_sto_d, ↓v_rd_d, ↓v_frz_d, ↓v_src_d, ↓v_use_own, ↓v_arg_own, ↓v_sto_own, ↓v_rd_own, ↓v_src_own, ↓v_use_bor, ↓v_arg_bor, ↓v_sto_bor, ↓v_rd_bor, ↓v_frz_bor, ↓v_src_bor, ↓v_use_scr, ↓v_arg_scr, ↓v_sto_scr, ↓v_rd_scr, ↓v_frz_scr, ↓v_src_scr, ↓v_use_box, ↓v_arg_box, ↓v_sto_box, ↓v_rd_box, ↓v_frz_box, ↓v_src_box, ↓v_bl, ↓v_frz_L, ↓v_frz_D, ↓v_frz_T, ↓v_rd_L, ↓v_rd_D, ↓v_dat_l, ↓v_dat_d, ↓v_onD, ↓v_onI, ↓v_onL, ↓v_on1, ↓v_on2, ↓v_on3, ↓v_all0, ↓v_all1, ↓v_seqL, ↓v_seqT, ↓v_gNm, ↓v_gNil, ↓v_gCons, ↓v_gTup, ↓g_add, ↓g_addS, ↓g_addT, ↓g_addL, ↓g_sub, ↓g_mul, ↓g_fdiv, ↓g_mod, ↓g_pow, ↓g_eq, ↓g_ne, ↓g_lt, ↓g_gt, ↓g_le, ↓g_ge, ↓g_ltT, ↓g_gtT, ↓g_leT, ↓g_geT, ↓g_inT, ↓g_inL, ↓g_is, ↓g_neg, ↓g_not, ↓g_lenL, ↓g_lenT, ↓g_lenD, ↓g_intI, ↓g_intB, ↓g_abs, ↓g_gcd, ↓g_repr, ↓g_listL, ↓g_listT, ↓g_tupL, ↓g_tupT, ↓g_ixL0, ↓g_ixL1, ↓g_ixL2, ↓g_ixL3, ↓g_ixT0, ↓g_ixT1, ↓g_ixT2, ↓g_ixT3, ↓g_ixL, ↓g_ixT, ↓g_slL, ↓g_slT, ↓g_revL, ↓g_revT, n_non, n_int, n_tup, n_str, n_bl, n_lst, ↓n_enLst, ↓n_onOwn, ↓en0, ↓enS, eqOk_int, eqOk_str, eqv_int, eqv_str, exists_eq_left', atI0, atI1, atI2, atI3, isa, Int.cast_ofNat_Int, List.length_cons, List.length_nil, List.set_cons_zero, List.set_cons_succ, Option.some.injEq, true_and, and_true, if_true, if_false, Bool.not_true, Bool.not_false, Bool.xor_false, Bool.false_xor, Bool.true_xor, decide_eq_true_eq, Bool.not_eq_true', decide_eq_false_iff_not, Nat.reduceAdd, Nat.zero_add, w_err, fnEnds, shaped_c0, shaped_c1, shaped_c2, shaped_c3, List.map_cons, List.map_nil, Bool.false_eq_true, reduceIte, decide_true, decide_false, Bool.not_eq_true, decide_not, Bool.not_not, ne_eq, Nat.reduceLeDiff, sizeBig, Int.reduceAbs, Int.reduceLE, Int.reduceLT, Int.reduceAdd, Int.reduceSub, Int.reduceMul, Int.reduceNeg, Int.reduceToNat, Int.reducePow, Int.reduceEq, Nat.reducePow, Nat.reduceLT, ofString_inj, String.reduceEq, shaped_lit, shaped_int, shaped_bool, shaped_none, sm_lt, mb_lit_l, mb_lit_r, ↓w_pick, ↓w_pickT, ↓w_draw, w_wipe0, w_wipe1, List.nil_append, List.cons_append, reduceCtorEq, Bool.true_eq_false, eq_self, not_true_eq_false, not_false_eq_true, List.any_cons, List.any_nil, Bool.or_false, Bool.false_or, Bool.or_true, Bool.true_or, Bool.and_true, Bool.true_and, Bool.and_false, Bool.false_and, ↓sp__law_draw, ↓sp__law_pick, gKw_0_ap, gKw_1_0_ap]
      have tA : Tm 30000 2 (.tuple ((ntsAt ns e.1).map eN)) := tm_sc (ntsAt_ok hok e.1) (Nat.le_trans (ntsAt_len ns e.1) (by omega))
      have last : ∀ x13 x15 x16, d__law_is_right_L1_3 ⟨K, Q, d__law_is_right_7 (fnEnds Q Ex), K, fun e _ => Ex e⟩ [some .box, some (.d (.tuple (ns.map eN))), some (.d (.str (PyData.tuple (ns.map eN)).shown)), some (.d (.tuple ((ptsOf ns).map eP))), none, none, none, none, some (.d (.tuple ((vsOf ns).map .int))), some (.d (.tuple ((ntsAt ns e.1).map eN))), some (.d (.tuple (acc.map eN))), some (.d (.int (e.2 : Nat))), some (.d (eP e.1)), x13, some (.d (.tuple ((ntsAt ns e.1).map eN))), x15, x16] := fun x13 x15 x16 => by
        simp only [d__law_is_right_L1_3, ↓w_seq, ↓w_set, ↓w_ret, ↓w_retN, ↓w_retV, ↓w_if, ↓w_drop, ↓w_asg, ↓w_par, ↓w_par3, ↓w_nx, ↓w_bk, ↓w_ct, ↓w_frz, ↓w_for, ↓w_app, ↓w_ext, ↓w_bin, ↓w_un, ↓w_var, ↓w_con, ↓w_callB, ↓w_nilU, ↓w_consU, ↓w_consS, ↓w_nilD, ↓w_consD, ↓w_consO, ↓w_tup, ↓w_lst, ↓w_dic0, ↓w_and, ↓w_or, ↓w_not, ↓w_ite, ↓w_chain, ↓w_isa, ↓w_fn, ↓w_fnK, ↓w_sl, ↓w_noO, ↓w_someO, ↓w_yes, ↓w_tst, ↓w_lc, ↓w_it, ↓w_enum, ↓w_zip, ↓w_rng1, ↓w_rng2, ↓w_never, ↓w_kNil, ↓w_kCons, ↓w_disp, ↓w_mg0, ↓w_mg1, ↓w_put0, ↓w_keyS, ↓w_keyI, ↓w_sset, ↓w_dicT, ↓w_inT, ↓w_ixT, ↓w_listT, ↓w_stoT, ↓w_stoU, ↓w_enDt, ↓w_onDt, ↓w_enOw, ↓w_onOw, ↓w_stoL, ↓w_stoD, ↓w_enZ, ↓g_min2, ↓g_minL, ↓g_minT, ↓g_max2, ↓g_maxL, ↓g_maxT, ↓g_sum, ↓g_all, ↓g_any, ↓v_use_d, ↓v_arg_d, ↓v_sto_d, ↓v_rd_d, ↓v_frz_d, ↓v_src_d, ↓v_use_own, ↓v_arg_own, ↓v_sto_own, ↓v_rd_own, ↓v_src_own, ↓v_use_bor, ↓v_arg_bor, ↓v_sto_bor, ↓v_rd_bor, ↓v_frz_bor, ↓v_src_bor, ↓v_use_scr, ↓v_arg_scr, ↓v_sto_scr, ↓v_rd_scr, ↓v_frz_scr, ↓v_src_scr, ↓v_use_box, ↓v_arg_box, ↓v_sto_box, ↓v_rd_box, ↓v_frz_box, ↓v_src_box, ↓v_bl, ↓v_frz_L, ↓v_frz_D, ↓v_frz_T, ↓v_rd_L, ↓v_rd_D, ↓v_dat_l, ↓v_dat_d, ↓v_onD, ↓v_onI, ↓v_onL, ↓v_on1, ↓v_on2, ↓v_on3, ↓v_all0, ↓v_all1, ↓v_seqL, ↓v_seqT, ↓v_gNm, ↓v_gNil, ↓v_gCons, ↓v_gTup, ↓g_add, ↓g_addS, ↓g_addT, ↓g_addL, ↓g_sub, ↓g_mul, ↓g_fdiv, ↓g_mod, ↓g_pow, ↓g_eq, ↓g_ne, ↓g_lt, ↓g_gt, ↓g_le, ↓g_ge, ↓g_ltT, ↓g_gtT, ↓g_leT, ↓g_geT, ↓g_inT, ↓g_inL, ↓g_is, ↓g_neg, ↓g_not, ↓g_lenL, ↓g_lenT, ↓g_lenD, ↓g_intI, ↓g_intB, ↓g_abs, ↓g_gcd, ↓g_repr, ↓g_listL, ↓g_listT, ↓g_tupL, ↓g_tupT, ↓g_ixL0, ↓g_ixL1, ↓g_ixL2, ↓g_ixL3, ↓g_ixT0, ↓g_ixT1, ↓g_ixT2, ↓g_ixT3, ↓g_ixL, ↓g_ixT, ↓g_slL, ↓g_slT, ↓g_revL, ↓g_revT, n_non, n_int, n_tup, n_str, n_bl, n_lst, ↓n_enLst, ↓n_onOwn, ↓en0, ↓enS, eqOk_int, eqOk_str, eqv_int, eqv_str, exists_eq_left', atI0, atI1, atI2, atI3, isa, Int.cast_ofNat_Int, List.length_cons, List.length_nil, List.set_cons_zero, List.set_cons_succ, Option.some.injEq, true_and, and_true, if_true, if_false, Bool.not_true, Bool.not_false, Bool.xor_false, Bool.false_xor, Bool.true_xor, decide_eq_true_eq, Bool.not_eq_true', decide_eq_false_iff_not, Nat.reduceAdd, Nat.zero_add, w_err, fnEnds, shaped_c0, shaped_c1, shaped_c2, shaped_c3, List.map_cons, List.map_nil, Bool.false_eq_true, reduceIte, decide_true, decide_false, Bool.not_eq_true, decide_not, Bool.not_not, ne_eq, Nat.reduceLeDiff, sizeBig, Int.reduceAbs, Int.reduceLE, Int.reduceLT, Int.reduceAdd, Int.reduceSub, Int.reduceMul, Int.reduceNeg, Int.reduceToNat, Int.reducePow, Int.reduceEq, Nat.reducePow, Nat.reduceLT, ofString_inj, String.reduceEq, shaped_lit, shaped_int, shaped_bool, shaped_none, sm_lt, mb_lit_l, mb_lit_r, ↓w_pick, ↓w_pickT, ↓w_draw, w_wipe0, w_wipe1, List.nil_append, List.cons_append, reduceCtorEq, Bool.true_eq_false, eq_self, not_true_eq_false, not_false_eq_true, List.any_cons, List.any_nil, Bool.or_false, Bool.false_or, Bool.or_true, Bool.true_or, Bool.and_true, Bool.true_and, Bool.and_false, Bool.false_and, ↓sp__law_draw, ↓sp__law_pick, gKw_0_ap, gKw_1_0_ap]
        refine ⟨tA.ok (by decide) (by decide), tA.ok (by decide) (by decide), ?_⟩
        simp only [d__law_is_right_L1_4, ↓w_seq, ↓w_set, ↓w_ret, ↓w_retN, ↓w_retV, ↓w_if, ↓w_drop, ↓w_asg, ↓w_par, ↓w_par3, ↓w_nx, ↓w_bk, ↓w_ct, ↓w_frz, ↓w_for, ↓w_app, ↓w_ext, ↓w_bin, ↓w_un, ↓w_var, ↓w_con, ↓w_callB, ↓w_nilU, ↓w_consU, ↓w_consS, ↓w_nilD, ↓w_consD, ↓w_consO, ↓w_tup, ↓w_lst, ↓w_dic0, ↓w_and, ↓w_or, ↓w_not, ↓w_ite, ↓w_chain, ↓w_isa, ↓w_fn, ↓w_fnK, ↓w_sl, ↓w_noO, ↓w_someO, ↓w_yes, ↓w_tst, ↓w_lc, ↓w_it, ↓w_enum, ↓w_zip, ↓w_rng1, ↓w_rng2, ↓w_never, ↓w_kNil, ↓w_kCons, ↓w_disp, ↓w_mg0, ↓w_mg1, ↓w_put0, ↓w_keyS, ↓w_keyI, ↓w_sset, ↓w_dicT, ↓w_inT, ↓w_ixT, ↓w_listT, ↓w_stoT, ↓w_stoU, ↓w_enDt, ↓w_onDt, ↓w_enOw, ↓w_onOw, ↓w_stoL, ↓w_stoD, ↓w_enZ, ↓g_min2, ↓g_minL, ↓g_minT, ↓g_max2, ↓g_maxL, ↓g_maxT, ↓g_sum, ↓g_all, ↓g_any, ↓v_use_d, ↓v_arg_d, ↓v_sto_d, ↓v_rd_d, ↓v_frz_d, ↓v_src_d, ↓v_use_own, ↓v_arg_own, ↓v_sto_own, ↓v_rd_own, ↓v_src_own, ↓v_use_bor, ↓v_arg_bor, ↓v_sto_bor, ↓v_rd_bor, ↓v_frz_bor, ↓v_src_bor, ↓v_use_scr, ↓v_arg_scr, ↓v_sto_scr, ↓v_rd_scr, ↓v_frz_scr, ↓v_src_scr, ↓v_use_box, ↓v_arg_box, ↓v_sto_box, ↓v_rd_box, ↓v_frz_box, ↓v_src_box, ↓v_bl, ↓v_frz_L, ↓v_frz_D, ↓v_frz_T, ↓v_rd_L, ↓v_rd_D, ↓v_dat_l, ↓v_dat_d, ↓v_onD, ↓v_onI, ↓v_onL, ↓v_on1, ↓v_on2, ↓v_on3, ↓v_all0, ↓v_all1, ↓v_seqL, ↓v_seqT, ↓v_gNm, ↓v_gNil, ↓v_gCons, ↓v_gTup, ↓g_add, ↓g_addS, ↓g_addT, ↓g_addL, ↓g_sub, ↓g_mul, ↓g_fdiv, ↓g_mod, ↓g_pow, ↓g_eq, ↓g_ne, ↓g_lt, ↓g_gt, ↓g_le, ↓g_ge, ↓g_ltT, ↓g_gtT, ↓g_leT, ↓g_geT, ↓g_inT, ↓g_inL, ↓g_is, ↓g_neg, ↓g_not, ↓g_lenL, ↓g_lenT, ↓g_lenD, ↓g_intI, ↓g_intB, ↓g_abs, ↓g_gcd, ↓g_repr, ↓g_listL, ↓g_listT, ↓g_tupL, ↓g_tupT, ↓g_ixL0, ↓g_ixL1, ↓g_ixL2, ↓g_ixL3, ↓g_ixT0, ↓g_ixT1, ↓g_ixT2, ↓g_ixT3, ↓g_ixL, ↓g_ixT, ↓g_slL, ↓g_slT, ↓g_revL, ↓g_revT, n_non, n_int, n_tup, n_str, n_bl, n_lst, ↓n_enLst, ↓n_onOwn, ↓en0, ↓enS, eqOk_int, eqOk_str, eqv_int, eqv_str, exists_eq_left', atI0, atI1, atI2, atI3, isa, Int.cast_ofNat_Int, List.length_cons, List.length_nil, List.set_cons_zero, List.set_cons_succ, Option.some.injEq, true_and, and_true, if_true, if_false, Bool.not_true, Bool.not_false, Bool.xor_false, Bool.false_xor, Bool.true_xor, decide_eq_true_eq, Bool.not_eq_true', decide_eq_false_iff_not, Nat.reduceAdd, Nat.zero_add, w_err, fnEnds, shaped_c0, shaped_c1, shaped_c2, shaped_c3, List.map_cons, List.map_nil, Bool.false_eq_true, reduceIte, decide_true, decide_false, Bool.not_eq_true, decide_not, Bool.not_not, ne_eq, Nat.reduceLeDiff, sizeBig, Int.reduceAbs, Int.reduceLE, Int.reduceLT, Int.reduceAdd, Int.reduceSub, Int.reduceMul, Int.reduceNeg, Int.reduceToNat, Int.reducePow, Int.reduceEq, Nat.reducePow, Nat.reduceLT, ofString_inj, String.reduceEq, shaped_lit, shaped_int, shaped_bool, shaped_none, sm_lt, mb_lit_l, mb_lit_r, ↓w_pick, ↓w_pickT, ↓w_draw, w_wipe0, w_wipe1, List.nil_append, List.cons_append, reduceCtorEq, Bool.true_eq_false, eq_self, not_true_eq_false, not_false_eq_true, List.any_cons, List.any_nil, Bool.or_false, Bool.false_or, Bool.or_true, Bool.true_or, Bool.and_true, Bool.true_and, Bool.and_false, Bool.false_and, ↓sp__law_draw, ↓sp__law_pick, gKw_0_ap, gKw_1_0_ap]
        have hl2 : acc.length ≤ ns.length := by
          have := congrArg List.length ha
          rw [List.length_append] at this
          omega
        refine ⟨?_, hK _ ⟨acc ++ ntsAt ns e.1, _, _, _, _, _, _, _, by rw [List.map_append], by rw [List.append_assoc]; exact ha⟩⟩
        rw [List.length_map, List.length_map]
        have := ntsAt_len ns e.1
        omega
      simp only [d__law_is_right_L1_2, ↓w_seq, ↓w_set, ↓w_ret, ↓w_retN, ↓w_retV, ↓w_if, ↓w_drop, ↓w_asg, ↓w_par, ↓w_par3, ↓w_nx, ↓w_bk, ↓w_ct, ↓w_frz, ↓w_for, ↓w_app, ↓w_ext, ↓w_bin, ↓w_un, ↓w_var, ↓w_con, ↓w_callB, ↓w_nilU, ↓w_consU, ↓w_consS, ↓w_nilD, ↓w_consD, ↓w_consO, ↓w_tup, ↓w_lst, ↓w_dic0, ↓w_and, ↓w_or, ↓w_not, ↓w_ite, ↓w_chain, ↓w_isa, ↓w_fn, ↓w_fnK, ↓w_sl, ↓w_noO, ↓w_someO, ↓w_yes, ↓w_tst, ↓w_lc, ↓w_it, ↓w_enum, ↓w_zip, ↓w_rng1, ↓w_rng2, ↓w_never, ↓w_kNil, ↓w_kCons, ↓w_disp, ↓w_mg0, ↓w_mg1, ↓w_put0, ↓w_keyS, ↓w_keyI, ↓w_sset, ↓w_dicT, ↓w_inT, ↓w_ixT, ↓w_listT, ↓w_stoT, ↓w_stoU, ↓w_enDt, ↓w_onDt, ↓w_enOw, ↓w_onOw, ↓w_stoL, ↓w_stoD, ↓w_enZ, ↓g_min2, ↓g_minL, ↓g_minT, ↓g_max2, ↓g_maxL, ↓g_maxT, ↓g_sum, ↓g_all, ↓g_any, ↓v_use_d, ↓v_arg_d, ↓v_sto_d, ↓v_rd_d, ↓v_frz_d, ↓v_src_d, ↓v_use_own, ↓v_arg_own, ↓v_sto_own, ↓v_rd_own, ↓v_src_own, ↓v_use_bor, ↓v_arg_bor, ↓v_sto_bor, ↓v_rd_bor, ↓v_frz_bor, ↓v_src_bor, ↓v_use_scr, ↓v_arg_scr, ↓v_sto_scr, ↓v_rd_scr, ↓v_frz_scr, ↓v_src_scr, ↓v_use_box, ↓v_arg_box, ↓v_sto_box, ↓v_rd_box, ↓v_frz_box, ↓v_src_box, ↓v_bl, ↓v_frz_L, ↓v_frz_D, ↓v_frz_T, ↓v_rd_L, ↓v_rd_D, ↓v_dat_l, ↓v_dat_d, ↓v_onD, ↓v_onI, ↓v_onL, ↓v_on1, ↓v_on2, ↓v_on3, ↓v_all0, ↓v_all1, ↓v_seqL, ↓v_seqT, ↓v_gNm, ↓v_gNil, ↓v_gCons, ↓v_gTup, ↓g_add, ↓g_addS, ↓g_addT, ↓g_addL, ↓g_sub, ↓g_mul, ↓g_fdiv, ↓g_mod, ↓g_pow, ↓g_eq, ↓g_ne, ↓g_lt, ↓g_gt, ↓g_le, ↓g_ge, ↓g_ltT, ↓g_gtT, ↓g_leT, ↓g_geT, ↓g_inT, ↓g_inL, ↓g_is, ↓g_neg, ↓g_not, ↓g_lenL, ↓g_lenT, ↓g_lenD, ↓g_intI, ↓g_intB, ↓g_abs, ↓g_gcd, ↓g_repr, ↓g_listL, ↓g_listT, ↓g_tupL, ↓g_tupT, ↓g_ixL0, ↓g_ixL1, ↓g_ixL2, ↓g_ixL3, ↓g_ixT0, ↓g_ixT1, ↓g_ixT2, ↓g_ixT3, ↓g_ixL, ↓g_ixT, ↓g_slL, ↓g_slT, ↓g_revL, ↓g_revT, n_non, n_int, n_tup, n_str, n_bl, n_lst, ↓n_enLst, ↓n_onOwn, ↓en0, ↓enS, eqOk_int, eqOk_str, eqv_int, eqv_str, exists_eq_left', atI0, atI1, atI2, atI3, isa, Int.cast_ofNat_Int, List.length_cons, List.length_nil, List.set_cons_zero, List.set_cons_succ, Option.some.injEq, true_and, and_true, if_true, if_false, Bool.not_true, Bool.not_false, Bool.xor_false, Bool.false_xor, Bool.true_xor, decide_eq_true_eq, Bool.not_eq_true', decide_eq_false_iff_not, Nat.reduceAdd, Nat.zero_add, w_err, fnEnds, shaped_c0, shaped_c1, shaped_c2, shaped_c3, List.map_cons, List.map_nil, Bool.false_eq_true, reduceIte, decide_true, decide_false, Bool.not_eq_true, decide_not, Bool.not_not, ne_eq, Nat.reduceLeDiff, sizeBig, Int.reduceAbs, Int.reduceLE, Int.reduceLT, Int.reduceAdd, Int.reduceSub, Int.reduceMul, Int.reduceNeg, Int.reduceToNat, Int.reducePow, Int.reduceEq, Nat.reducePow, Nat.reduceLT, ofString_inj, String.reduceEq, shaped_lit, shaped_int, shaped_bool, shaped_none, sm_lt, mb_lit_l, mb_lit_r, ↓w_pick, ↓w_pickT, ↓w_draw, w_wipe0, w_wipe1, List.nil_append, List.cons_append, reduceCtorEq, Bool.true_eq_false, eq_self, not_true_eq_false, not_false_eq_true, List.any_cons, List.any_nil, Bool.or_false, Bool.false_or, Bool.or_true, Bool.true_or, Bool.and_true, Bool.true_and, Bool.and_false, Bool.false_and, ↓sp__law_draw, ↓sp__law_pick, gKw_0_ap, gKw_1_0_ap]
      split
      · refine ⟨ns, e.1, rfl, by omega, ?_⟩
        simp only [↓w_seq, ↓w_set, ↓w_ret, ↓w_retN, ↓w_retV, ↓w_if, ↓w_drop, ↓w_asg, ↓w_par, ↓w_par3, ↓w_nx, ↓w_bk, ↓w_ct, ↓w_frz, ↓w_for, ↓w_app, ↓w_ext, ↓w_bin, ↓w_un, ↓w_var, ↓w_con, ↓w_callB, ↓w_nilU, ↓w_consU, ↓w_consS, ↓w_nilD, ↓w_consD, ↓w_consO, ↓w_tup, ↓w_lst, ↓w_dic0, ↓w_and, ↓w_or, ↓w_not, ↓w_ite, ↓w_chain, ↓w_isa, ↓w_fn, ↓w_fnK, ↓w_sl, ↓w_noO, ↓w_someO, ↓w_yes, ↓w_tst, ↓w_lc, ↓w_it, ↓w_enum, ↓w_zip, ↓w_rng1, ↓w_rng2, ↓w_never, ↓w_kNil, ↓w_kCons, ↓w_disp, ↓w_mg0, ↓w_mg1, ↓w_put0, ↓w_keyS, ↓w_keyI, ↓w_sset, ↓w_dicT, ↓w_inT, ↓w_ixT, ↓w_listT, ↓w_stoT, ↓w_stoU, ↓w_enDt, ↓w_onDt, ↓w_enOw, ↓w_onOw, ↓w_stoL, ↓w_stoD, ↓w_enZ, ↓g_min2, ↓g_minL, ↓g_minT, ↓g_max2, ↓g_maxL, ↓g_maxT, ↓g_sum, ↓g_all, ↓g_any, ↓v_use_d, ↓v_arg_d, ↓v_sto_d, ↓v_rd_d, ↓v_frz_d, ↓v_src_d, ↓v_use_own, ↓v_arg_own, ↓v_sto_own, ↓v_rd_own, ↓v_src_own, ↓v_use_bor, ↓v_arg_bor, ↓v_sto_bor, ↓v_rd_bor, ↓v_frz_bor, ↓v_src_bor, ↓v_use_scr, ↓v_arg_scr, ↓v_sto_scr, ↓v_rd_scr, ↓v_frz_scr, ↓v_src_scr, ↓v_use_box, ↓v_arg_box, ↓v_sto_box, ↓v_rd_box, ↓v_frz_box, ↓v_src_box, ↓v_bl, ↓v_frz_L, ↓v_frz_D, ↓v_frz_T, ↓v_rd_L, ↓v_rd_D, ↓v_dat_l, ↓v_dat_d, ↓v_onD, ↓v_onI, ↓v_onL, ↓v_on1, ↓v_on2, ↓v_on3, ↓v_all0, ↓v_all1, ↓v_seqL, ↓v_seqT, ↓v_gNm, ↓v_gNil, ↓v_gCons, ↓v_gTup, ↓g_add, ↓g_addS, ↓g_addT, ↓g_addL, ↓g_sub, ↓g_mul, ↓g_fdiv, ↓g_mod, ↓g_pow, ↓g_eq, ↓g_ne, ↓g_lt, ↓g_gt, ↓g_le, ↓g_ge, ↓g_ltT, ↓g_gtT, ↓g_leT, ↓g_geT, ↓g_inT, ↓g_inL, ↓g_is, ↓g_neg, ↓g_not, ↓g_lenL, ↓g_lenT, ↓g_lenD, ↓g_intI, ↓g_intB, ↓g_abs, ↓g_gcd, ↓g_repr, ↓g_listL, ↓g_listT, ↓g_tupL, ↓g_tupT, ↓g_ixL0, ↓g_ixL1, ↓g_ixL2, ↓g_ixL3, ↓g_ixT0, ↓g_ixT1, ↓g_ixT2, ↓g_ixT3, ↓g_ixL, ↓g_ixT, ↓g_slL, ↓g_slT, ↓g_revL, ↓g_revT, n_non, n_int, n_tup, n_str, n_bl, n_lst, ↓n_enLst, ↓n_onOwn, ↓en0, ↓enS, eqOk_int, eqOk_str, eqv_int, eqv_str, exists_eq_left', atI0, atI1, atI2, atI3, isa, Int.cast_ofNat_Int, List.length_cons, List.length_nil, List.set_cons_zero, List.set_cons_succ, Option.some.injEq, true_and, and_true, if_true, if_false, Bool.not_true, Bool.not_false, Bool.xor_false, Bool.false_xor, Bool.true_xor, decide_eq_true_eq, Bool.not_eq_true', decide_eq_false_iff_not, Nat.reduceAdd, Nat.zero_add, w_err, fnEnds, shaped_c0, shaped_c1, shaped_c2, shaped_c3, List.map_cons, List.map_nil, Bool.false_eq_true, reduceIte, decide_true, decide_false, Bool.not_eq_true, decide_not, Bool.not_not, ne_eq, Nat.reduceLeDiff, sizeBig, Int.reduceAbs, Int.reduceLE, Int.reduceLT, Int.reduceAdd, Int.reduceSub, Int.reduceMul, Int.reduceNeg, Int.reduceToNat, Int.reducePow, Int.reduceEq, Nat.reducePow, Nat.reduceLT, ofString_inj, String.reduceEq, shaped_lit, shaped_int, shaped_bool, shaped_none, sm_lt, mb_lit_l, mb_lit_r, ↓w_pick, ↓w_pickT, ↓w_draw, w_wipe0, w_wipe1, List.nil_append, List.cons_append, reduceCtorEq, Bool.true_eq_false, eq_self, not_true_eq_false, not_false_eq_true, List.any_cons, List.any_nil, Bool.or_false, Bool.false_or, Bool.or_true, Bool.true_or, Bool.and_true, Bool.true_and, Bool.and_false, Bool.false_and, ↓sp__law_draw, ↓sp__law_pick, gKw_0_ap, gKw_1_0_ap]
        exact last _ _ _
      · refine ⟨ns, e.1, rfl, by omega, ?_⟩
        simp only [↓w_seq, ↓w_set, ↓w_ret, ↓w_retN, ↓w_retV, ↓w_if, ↓w_drop, ↓w_asg, ↓w_par, ↓w_par3, ↓w_nx, ↓w_bk, ↓w_ct, ↓w_frz, ↓w_for, ↓w_app, ↓w_ext, ↓w_bin, ↓w_un, ↓w_var, ↓w_con, ↓w_callB, ↓w_nilU, ↓w_consU, ↓w_consS, ↓w_nilD, ↓w_consD, ↓w_consO, ↓w_tup, ↓w_lst, ↓w_dic0, ↓w_and, ↓w_or, ↓w_not, ↓w_ite, ↓w_chain, ↓w_isa, ↓w_fn, ↓w_fnK, ↓w_sl, ↓w_noO, ↓w_someO, ↓w_yes, ↓w_tst, ↓w_lc, ↓w_it, ↓w_enum, ↓w_zip, ↓w_rng1, ↓w_rng2, ↓w_never, ↓w_kNil, ↓w_kCons, ↓w_disp, ↓w_mg0, ↓w_mg1, ↓w_put0, ↓w_keyS, ↓w_keyI, ↓w_sset, ↓w_dicT, ↓w_inT, ↓w_ixT, ↓w_listT, ↓w_stoT, ↓w_stoU, ↓w_enDt, ↓w_onDt, ↓w_enOw, ↓w_onOw, ↓w_stoL, ↓w_stoD, ↓w_enZ, ↓g_min2, ↓g_minL, ↓g_minT, ↓g_max2, ↓g_maxL, ↓g_maxT, ↓g_sum, ↓g_all, ↓g_any, ↓v_use_d, ↓v_arg_d, ↓v_sto_d, ↓v_rd_d, ↓v_frz_d, ↓v_src_d, ↓v_use_own, ↓v_arg_own, ↓v_sto_own, ↓v_rd_own, ↓v_src_own, ↓v_use_bor, ↓v_arg_bor, ↓v_sto_bor, ↓v_rd_bor, ↓v_frz_bor, ↓v_src_bor, ↓v_use_scr, ↓v_arg_scr, ↓v_sto_scr, ↓v_rd_scr, ↓v_frz_scr, ↓v_src_scr, ↓v_use_box, ↓v_arg_box, ↓v_sto_box, ↓v_rd_box, ↓v_frz_box, ↓v_src_box, ↓v_bl, ↓v_frz_L, ↓v_frz_D, ↓v_frz_T, ↓v_rd_L, ↓v_rd_D, ↓v_dat_l, ↓v_dat_d, ↓v_onD, ↓v_onI, ↓v_onL, ↓v_on1, ↓v_on2, ↓v_on3, ↓v_all0, ↓v_all1, ↓v_seqL, ↓v_seqT, ↓v_gNm, ↓v_gNil, ↓v_gCons, ↓v_gTup, ↓g_add, ↓g_addS, ↓g_addT, ↓g_addL, ↓g_sub, ↓g_mul, ↓g_fdiv, ↓g_mod, ↓g_pow, ↓g_eq, ↓g_ne, ↓g_lt, ↓g_gt, ↓g_le, ↓g_ge, ↓g_ltT, ↓g_gtT, ↓g_leT, ↓g_geT, ↓g_inT, ↓g_inL, ↓g_is, ↓g_neg, ↓g_not, ↓g_lenL, ↓g_lenT, ↓g_lenD, ↓g_intI, ↓g_intB, ↓g_abs, ↓g_gcd, ↓g_repr, ↓g_listL, ↓g_listT, ↓g_tupL, ↓g_tupT, ↓g_ixL0, ↓g_ixL1, ↓g_ixL2, ↓g_ixL3, ↓g_ixT0, ↓g_ixT1, ↓g_ixT2, ↓g_ixT3, ↓g_ixL, ↓g_ixT, ↓g_slL, ↓g_slT, ↓g_revL, ↓g_revT, n_non, n_int, n_tup, n_str, n_bl, n_lst, ↓n_enLst, ↓n_onOwn, ↓en0, ↓enS, eqOk_int, eqOk_str, eqv_int, eqv_str, exists_eq_left', atI0, atI1, atI2, atI3, isa, Int.cast_ofNat_Int, List.length_cons, List.length_nil, List.set_cons_zero, List.set_cons_succ, Option.some.injEq, true_and, and_true, if_true, if_false, Bool.not_true, Bool.not_false, Bool.xor_false, Bool.false_xor, Bool.true_xor, decide_eq_true_eq, Bool.not_eq_true', decide_eq_false_iff_not, Nat.reduceAdd, Nat.zero_add, w_err, fnEnds, shaped_c0, shaped_c1, shaped_c2, shaped_c3, List.map_cons, List.map_nil, Bool.false_eq_true, reduceIte, decide_true, decide_false, Bool.not_eq_true, decide_not, Bool.not_not, ne_eq, Nat.reduceLeDiff, sizeBig, Int.reduceAbs, Int.reduceLE, Int.reduceLT, Int.reduceAdd, Int.reduceSub, Int.reduceMul, Int.reduceNeg, Int.reduceToNat, Int.reducePow, Int.reduceEq, Nat.reducePow, Nat.reduceLT, ofString_inj, String.reduceEq, shaped_lit, shaped_int, shaped_bool, shaped_none, sm_lt, mb_lit_l, mb_lit_r, ↓w_pick, ↓w_pickT, ↓w_draw, w_wipe0, w_wipe1, List.nil_append, List.cons_append, reduceCtorEq, Bool.true_eq_false, eq_self, not_true_eq_false, not_false_eq_true, List.any_cons, List.any_nil, Bool.or_false, Bool.false_or, Bool.or_true, Bool.true_or, Bool.and_true, Bool.true_and, Bool.and_false, Bool.false_and, ↓sp__law_draw, ↓sp__law_pick, gKw_0_ap, gKw_1_0_ap]
        exact last _ _ _


theorem pk_is {lo hi : Int} {xs : List PyData} {Q : PyData → Prop} (h : ∀ x ∈ xs, ∃ i : Int, x = .int i ∧ lo ≤ i ∧ i ≤ hi) (q : ∀ i : Int, lo ≤ i → i ≤ hi → Q (.int i)) : ∀ x ∈ xs, Q x := fun x hx => by
  obtain ⟨i, rfl, h1, h2⟩ := h x hx
  exact q i h1 h2
theorem h__law_note : ∀ rs Q Ex, rs.length = 1 → sp__law_note rs Q Ex → d__law_note (fnEnds Q Ex) (startD 4 rs) := by
  rintro rs Q Ex - ⟨rfl, q⟩
  show d__law_note (fnEnds Q Ex) [some .box, none, none, none]
  simp only [d__law_note, ↓w_seq, ↓w_set, ↓w_ret, ↓w_retN, ↓w_retV, ↓w_if, ↓w_drop, ↓w_asg, ↓w_par, ↓w_par3, ↓w_nx, ↓w_bk, ↓w_ct, ↓w_frz, ↓w_for, ↓w_app, ↓w_ext, ↓w_bin, ↓w_un, ↓w_var, ↓w_con, ↓w_callB, ↓w_nilU, ↓w_consU, ↓w_consS, ↓w_nilD, ↓w_consD, ↓w_consO, ↓w_tup, ↓w_lst, ↓w_dic0, ↓w_and, ↓w_or, ↓w_not, ↓w_ite, ↓w_chain, ↓w_isa, ↓w_fn, ↓w_fnK, ↓w_sl, ↓w_noO, ↓w_someO, ↓w_yes, ↓w_tst, ↓w_lc, ↓w_it, ↓w_enum, ↓w_zip, ↓w_rng1, ↓w_rng2, ↓w_never, ↓w_kNil, ↓w_kCons, ↓w_disp, ↓w_mg0, ↓w_mg1, ↓w_put0, ↓w_keyS, ↓w_keyI, ↓w_sset, ↓w_dicT, ↓w_inT, ↓w_ixT, ↓w_listT, ↓w_stoT, ↓w_stoU, ↓w_enDt, ↓w_onDt, ↓w_enOw, ↓w_onOw, ↓w_stoL, ↓w_stoD, ↓w_enZ, ↓g_min2, ↓g_minL, ↓g_minT, ↓g_max2, ↓g_maxL, ↓g_maxT, ↓g_sum, ↓g_all, ↓g_any, ↓v_use_d, ↓v_arg_d, ↓v_sto_d, ↓v_rd_d, ↓v_frz_d, ↓v_src_d, ↓v_use_own, ↓v_arg_own, ↓v_sto_own, ↓v_rd_own, ↓v_src_own, ↓v_use_bor, ↓v_arg_bor, ↓v_sto_bor, ↓v_rd_bor, ↓v_frz_bor, ↓v_src_bor, ↓v_use_scr, ↓v_arg_scr, ↓v_sto_scr, ↓v_rd_scr, ↓v_frz_scr, ↓v_src_scr, ↓v_use_box, ↓v_arg_box, ↓v_sto_box, ↓v_rd_box, ↓v_frz_box, ↓v_src_box, ↓v_bl, ↓v_frz_L, ↓v_frz_D, ↓v_frz_T, ↓v_rd_L, ↓v_rd_D, ↓v_dat_l, ↓v_dat_d, ↓v_onD, ↓v_onI, ↓v_onL, ↓v_on1, ↓v_on2, ↓v_on3, ↓v_all0, ↓v_all1, ↓v_seqL, ↓v_seqT, ↓v_gNm, ↓v_gNil, ↓v_gCons, ↓v_gTup, ↓g_add, ↓g_addS, ↓g_addT, ↓g_addL, ↓g_sub, ↓g_mul, ↓g_fdiv, ↓g_mod, ↓g_pow, ↓g_eq, ↓g_ne, ↓g_lt, ↓g_gt, ↓g_le, ↓g_ge, ↓g_ltT, ↓g_gtT, ↓g_leT, ↓g_geT, ↓g_inT, ↓g_inL, ↓g_is, ↓g_neg, ↓g_not, ↓g_lenL, ↓g_lenT, ↓g_lenD, ↓g_intI, ↓g_intB, ↓g_abs, ↓g_gcd, ↓g_repr, ↓g_listL, ↓g_listT, ↓g_tupL, ↓g_tupT, ↓g_ixL0, ↓g_ixL1, ↓g_ixL2, ↓g_ixL3, ↓g_ixT0, ↓g_ixT1, ↓g_ixT2, ↓g_ixT3, ↓g_ixL, ↓g_ixT, ↓g_slL, ↓g_slT, ↓g_revL, ↓g_revT, n_non, n_int, n_tup, n_str, n_bl, n_lst, ↓n_enLst, ↓n_onOwn, ↓en0, ↓enS, eqOk_int, eqOk_str, eqv_int, eqv_str, exists_eq_left', atI0, atI1, atI2, atI3, isa, Int.cast_ofNat_Int, List.length_cons, List.length_nil, List.set_cons_zero, List.set_cons_succ, Option.some.injEq, true_and, and_true, if_true, if_false, Bool.not_true, Bool.not_false, Bool.xor_false, Bool.false_xor, Bool.true_xor, decide_eq_true_eq, Bool.not_eq_true', decide_eq_false_iff_not, Nat.reduceAdd, Nat.zero_add, w_err, fnEnds, shaped_c0, shaped_c1, shaped_c2, shaped_c3, List.map_cons, List.map_nil, Bool.false_eq_true, reduceIte, decide_true, decide_false, Bool.not_eq_true, decide_not, Bool.not_not, ne_eq, Nat.reduceLeDiff, sizeBig, Int.reduceAbs, Int.reduceLE, Int.reduceLT, Int.reduceAdd, Int.reduceSub, Int.reduceMul, Int.reduceNeg, Int.reduceToNat, Int.reducePow, Int.reduceEq, Nat.reducePow, Nat.reduceLT, ofString_inj, String.reduceEq, shaped_lit, shaped_int, shaped_bool, shaped_none, sm_lt, mb_lit_l, mb_lit_r, ↓w_pick, ↓w_pickT, ↓w_draw, w_wipe0, w_wipe1, List.nil_append, List.cons_append, reduceCtorEq, Bool.true_eq_false, eq_self, not_true_eq_false, not_false_eq_true, List.any_cons, List.any_nil, Bool.or_false, Bool.false_or, Bool.or_true, Bool.true_or, Bool.and_true, Bool.true_and, Bool.and_false, Bool.false_and, ↓sp__law_draw, ↓sp__law_pick, gKw_0_ap, gKw_1_0_ap]
  intro a a0 a1 b b0 b1 c c0 c1
  refine pk_is (lo := 0) (hi := 9999) (fal ⟨_, rfl, by omega, by omega⟩ (fal ⟨_, rfl, by omega, by omega⟩ (fal ⟨_, rfl, by omega, by omega⟩ (fal ⟨_, rfl, by omega, by omega⟩ (fal ⟨_, rfl, by omega, by omega⟩ fan))))) fun o o0 o1 => ?_
  simp only [d__law_note_2, ↓w_seq, ↓w_set, ↓w_ret, ↓w_retN, ↓w_retV, ↓w_if, ↓w_drop, ↓w_asg, ↓w_par, ↓w_par3, ↓w_nx, ↓w_bk, ↓w_ct, ↓w_frz, ↓w_for, ↓w_app, ↓w_ext, ↓w_bin, ↓w_un, ↓w_var, ↓w_con, ↓w_callB, ↓w_nilU, ↓w_consU, ↓w_consS, ↓w_nilD, ↓w_consD, ↓w_consO, ↓w_tup, ↓w_lst, ↓w_dic0, ↓w_and, ↓w_or, ↓w_not, ↓w_ite, ↓w_chain, ↓w_isa, ↓w_fn, ↓w_fnK, ↓w_sl, ↓w_noO, ↓w_someO, ↓w_yes, ↓w_tst, ↓w_lc, ↓w_it, ↓w_enum, ↓w_zip, ↓w_rng1, ↓w_rng2, ↓w_never, ↓w_kNil, ↓w_kCons, ↓w_disp, ↓w_mg0, ↓w_mg1, ↓w_put0, ↓w_keyS, ↓w_keyI, ↓w_sset, ↓w_dicT, ↓w_inT, ↓w_ixT, ↓w_listT, ↓w_stoT, ↓w_stoU, ↓w_enDt, ↓w_onDt, ↓w_enOw, ↓w_onOw, ↓w_stoL, ↓w_stoD, ↓w_enZ, ↓g_min2, ↓g_minL, ↓g_minT, ↓g_max2, ↓g_maxL, ↓g_maxT, ↓g_sum, ↓g_all, ↓g_any, ↓v_use_d, ↓v_arg_d, ↓v_sto_d, ↓v_rd_d, ↓v_frz_d, ↓v_src_d, ↓v_use_own, ↓v_arg_own, ↓v_sto_own, ↓v_rd_own, ↓v_src_own, ↓v_use_bor, ↓v_arg_bor, ↓v_sto_bor, ↓v_rd_bor, ↓v_frz_bor, ↓v_src_bor, ↓v_use_scr, ↓v_arg_scr, ↓v_sto_scr, ↓v_rd_scr, ↓v_frz_scr, ↓v_src_scr, ↓v_use_box, ↓v_arg_box, ↓v_sto_box, ↓v_rd_box, ↓v_frz_box, ↓v_src_box, ↓v_bl, ↓v_frz_L, ↓v_frz_D, ↓v_frz_T, ↓v_rd_L, ↓v_rd_D, ↓v_dat_l, ↓v_dat_d, ↓v_onD, ↓v_onI, ↓v_onL, ↓v_on1, ↓v_on2, ↓v_on3, ↓v_all0, ↓v_all1, ↓v_seqL, ↓v_seqT, ↓v_gNm, ↓v_gNil, ↓v_gCons, ↓v_gTup, ↓g_add, ↓g_addS, ↓g_addT, ↓g_addL, ↓g_sub, ↓g_mul, ↓g_fdiv, ↓g_mod, ↓g_pow, ↓g_eq, ↓g_ne, ↓g_lt, ↓g_gt, ↓g_le, ↓g_ge, ↓g_ltT, ↓g_gtT, ↓g_leT, ↓g_geT, ↓g_inT, ↓g_inL, ↓g_is, ↓g_neg, ↓g_not, ↓g_lenL, ↓g_lenT, ↓g_lenD, ↓g_intI, ↓g_intB, ↓g_abs, ↓g_gcd, ↓g_repr, ↓g_listL, ↓g_listT, ↓g_tupL, ↓g_tupT, ↓g_ixL0, ↓g_ixL1, ↓g_ixL2, ↓g_ixL3, ↓g_ixT0, ↓g_ixT1, ↓g_ixT2, ↓g_ixT3, ↓g_ixL, ↓g_ixT, ↓g_slL, ↓g_slT, ↓g_revL, ↓g_revT, n_non, n_int, n_tup, n_str, n_bl, n_lst, ↓n_enLst, ↓n_onOwn, ↓en0, ↓enS, eqOk_int, eqOk_str, eqv_int, eqv_str, exists_eq_left', atI0, atI1, atI2, atI3, isa, Int.cast_ofNat_Int, List.length_cons, List.length_nil, List.set_cons_zero, List.set_cons_succ, Option.some.injEq, true_and, and_true, if_true, if_false, Bool.not_true, Bool.not_false, Bool.xor_false, Bool.false_xor, Bool.true_xor, decide_eq_true_eq, Bool.not_eq_true', decide_eq_false_iff_not, Nat.reduceAdd, Nat.zero_add, w_err, fnEnds, shaped_c0, shaped_c1, shaped_c2, shaped_c3, List.map_cons, List.map_nil, Bool.false_eq_true, reduceIte, decide_true, decide_false, Bool.not_eq_true, decide_not, Bool.not_not, ne_eq, Nat.reduceLeDiff, sizeBig, Int.reduceAbs, Int.reduceLE, Int.reduceLT, Int.reduceAdd, Int.reduceSub, Int.reduceMul, Int.reduceNeg, Int.reduceToNat, Int.reducePow, Int.reduceEq, Nat.reducePow, Nat.reduceLT, ofString_inj, String.reduceEq, shaped_lit, shaped_int, shaped_bool, shaped_none, sm_lt, mb_lit_l, mb_lit_r, ↓w_pick, ↓w_pickT, ↓w_draw, w_wipe0, w_wipe1, List.nil_append, List.cons_append, reduceCtorEq, Bool.true_eq_false, eq_self, not_true_eq_false, not_false_eq_true, List.any_cons, List.any_nil, Bool.or_false, Bool.false_or, Bool.or_true, Bool.true_or, Bool.and_true, Bool.true_and, Bool.and_false, Bool.false_and, ↓sp__law_draw, ↓sp__law_pick, gKw_0_ap, gKw_1_0_ap]
  intro a a0 a1 b b0 b1 c c0 c1
  refine pk_is (lo := 0) (hi := 127) (fal ⟨_, rfl, by omega, by omega⟩ (fal ⟨_, rfl, by omega, by omega⟩ (fal ⟨_, rfl, by omega, by omega⟩ (fal ⟨_, rfl, by omega, by omega⟩ (fal ⟨_, rfl, by omega, by omega⟩ fan))))) fun p p0 p1 => ?_
  simp only [d__law_note_3, ↓w_seq, ↓w_set, ↓w_ret, ↓w_retN, ↓w_retV, ↓w_if, ↓w_drop, ↓w_asg, ↓w_par, ↓w_par3, ↓w_nx, ↓w_bk, ↓w_ct, ↓w_frz, ↓w_for, ↓w_app, ↓w_ext, ↓w_bin, ↓w_un, ↓w_var, ↓w_con, ↓w_callB, ↓w_nilU, ↓w_consU, ↓w_consS, ↓w_nilD, ↓w_consD, ↓w_consO, ↓w_tup, ↓w_lst, ↓w_dic0, ↓w_and, ↓w_or, ↓w_not, ↓w_ite, ↓w_chain, ↓w_isa, ↓w_fn, ↓w_fnK, ↓w_sl, ↓w_noO, ↓w_someO, ↓w_yes, ↓w_tst, ↓w_lc, ↓w_it, ↓w_enum, ↓w_zip, ↓w_rng1, ↓w_rng2, ↓w_never, ↓w_kNil, ↓w_kCons, ↓w_disp, ↓w_mg0, ↓w_mg1, ↓w_put0, ↓w_keyS, ↓w_keyI, ↓w_sset, ↓w_dicT, ↓w_inT, ↓w_ixT, ↓w_listT, ↓w_stoT, ↓w_stoU, ↓w_enDt, ↓w_onDt, ↓w_enOw, ↓w_onOw, ↓w_stoL, ↓w_stoD, ↓w_enZ, ↓g_min2, ↓g_minL, ↓g_minT, ↓g_max2, ↓g_maxL, ↓g_maxT, ↓g_sum, ↓g_all, ↓g_any, ↓v_use_d, ↓v_arg_d, ↓v_sto_d, ↓v_rd_d, ↓v_frz_d, ↓v_src_d, ↓v_use_own, ↓v_arg_own, ↓v_sto_own, ↓v_rd_own, ↓v_src_own, ↓v_use_bor, ↓v_arg_bor, ↓v_sto_bor, ↓v_rd_bor, ↓v_frz_bor, ↓v_src_bor, ↓v_use_scr, ↓v_arg_scr, ↓v_sto_scr, ↓v_rd_scr, ↓v_frz_scr, ↓v_src_scr, ↓v_use_box, ↓v_arg_box, ↓v_sto_box, ↓v_rd_box, ↓v_frz_box, ↓v_src_box, ↓v_bl, ↓v_frz_L, ↓v_frz_D, ↓v_frz_T, ↓v_rd_L, ↓v_rd_D, ↓v_dat_l, ↓v_dat_d, ↓v_onD, ↓v_onI, ↓v_onL, ↓v_on1, ↓v_on2, ↓v_on3, ↓v_all0, ↓v_all1, ↓v_seqL, ↓v_seqT, ↓v_gNm, ↓v_gNil, ↓v_gCons, ↓v_gTup, ↓g_add, ↓g_addS, ↓g_addT, ↓g_addL, ↓g_sub, ↓g_mul, ↓g_fdiv, ↓g_mod, ↓g_pow, ↓g_eq, ↓g_ne, ↓g_lt, ↓g_gt, ↓g_le, ↓g_ge, ↓g_ltT, ↓g_gtT, ↓g_leT, ↓g_geT, ↓g_inT, ↓g_inL, ↓g_is, ↓g_neg, ↓g_not, ↓g_lenL, ↓g_lenT, ↓g_lenD, ↓g_intI, ↓g_intB, ↓g_abs, ↓g_gcd, ↓g_repr, ↓g_listL, ↓g_listT, ↓g_tupL, ↓g_tupT, ↓g_ixL0, ↓g_ixL1, ↓g_ixL2, ↓g_ixL3, ↓g_ixT0, ↓g_ixT1, ↓g_ixT2, ↓g_ixT3, ↓g_ixL, ↓g_ixT, ↓g_slL, ↓g_slT, ↓g_revL, ↓g_revT, n_non, n_int, n_tup, n_str, n_bl, n_lst, ↓n_enLst, ↓n_onOwn, ↓en0, ↓enS, eqOk_int, eqOk_str, eqv_int, eqv_str, exists_eq_left', atI0, atI1, atI2, atI3, isa, Int.cast_ofNat_Int, List.length_cons, List.length_nil, List.set_cons_zero, List.set_cons_succ, Option.some.injEq, true_and, and_true, if_true, if_false, Bool.not_true, Bool.not_false, Bool.xor_false, Bool.false_xor, Bool.true_xor, decide_eq_true_eq, Bool.not_eq_true', decide_eq_false_iff_not, Nat.reduceAdd, Nat.zero_add, w_err, fnEnds, shaped_c0, shaped_c1, shaped_c2, shaped_c3, List.map_cons, List.map_nil, Bool.false_eq_true, reduceIte, decide_true, decide_false, Bool.not_eq_true, decide_not, Bool.not_not, ne_eq, Nat.reduceLeDiff, sizeBig, Int.reduceAbs, Int.reduceLE, Int.reduceLT, Int.reduceAdd, Int.reduceSub, Int.reduceMul, Int.reduceNeg, Int.reduceToNat, Int.reducePow, Int.reduceEq, Nat.reducePow, Nat.reduceLT, ofString_inj, String.reduceEq, shaped_lit, shaped_int, shaped_bool, shaped_none, sm_lt, mb_lit_l, mb_lit_r, ↓w_pick, ↓w_pickT, ↓w_draw, w_wipe0, w_wipe1, List.nil_append, List.cons_append, reduceCtorEq, Bool.true_eq_false, eq_self, not_true_eq_false, not_false_eq_true, List.any_cons, List.any_nil, Bool.or_false, Bool.false_or, Bool.or_true, Bool.true_or, Bool.and_true, Bool.true_and, Bool.and_false, Bool.false_and, ↓sp__law_draw, ↓sp__law_pick, gKw_0_ap, gKw_1_0_ap]
  intro a a0 a1 b b0 b1 c c0 c1
  refine pk_is (lo := 0) (hi := 7) (fal ⟨_, rfl, by omega, by omega⟩ (fal ⟨_, rfl, by omega, by omega⟩ (fal ⟨_, rfl, by omega, by omega⟩ (fal ⟨_, rfl, by omega, by omega⟩ (fal ⟨_, rfl, by omega, by omega⟩ fan))))) fun v v0 v1 => ?_
  simp only [d__law_note_4, ↓w_seq, ↓w_set, ↓w_ret, ↓w_retN, ↓w_retV, ↓w_if, ↓w_drop, ↓w_asg, ↓w_par, ↓w_par3, ↓w_nx, ↓w_bk, ↓w_ct, ↓w_frz, ↓w_for, ↓w_app, ↓w_ext, ↓w_bin, ↓w_un, ↓w_var, ↓w_con, ↓w_callB, ↓w_nilU, ↓w_consU, ↓w_consS, ↓w_nilD, ↓w_consD, ↓w_consO, ↓w_tup, ↓w_lst, ↓w_dic0, ↓w_and, ↓w_or, ↓w_not, ↓w_ite, ↓w_chain, ↓w_isa, ↓w_fn, ↓w_fnK, ↓w_sl, ↓w_noO, ↓w_someO, ↓w_yes, ↓w_tst, ↓w_lc, ↓w_it, ↓w_enum, ↓w_zip, ↓w_rng1, ↓w_rng2, ↓w_never, ↓w_kNil, ↓w_kCons, ↓w_disp, ↓w_mg0, ↓w_mg1, ↓w_put0, ↓w_keyS, ↓w_keyI, ↓w_sset, ↓w_dicT, ↓w_inT, ↓w_ixT, ↓w_listT, ↓w_stoT, ↓w_stoU, ↓w_enDt, ↓w_onDt, ↓w_enOw, ↓w_onOw, ↓w_stoL, ↓w_stoD, ↓w_enZ, ↓g_min2, ↓g_minL, ↓g_minT, ↓g_max2, ↓g_maxL, ↓g_maxT, ↓g_sum, ↓g_all, ↓g_any, ↓v_use_d, ↓v_arg_d, ↓v_sto_d, ↓v_rd_d, ↓v_frz_d, ↓v_src_d, ↓v_use_own, ↓v_arg_own, ↓v_sto_own, ↓v_rd_own, ↓v_src_own, ↓v_use_bor, ↓v_arg_bor, ↓v_sto_bor, ↓v_rd_bor, ↓v_frz_bor, ↓v_src_bor, ↓v_use_scr, ↓v_arg_scr, ↓v_sto_scr, ↓v_rd_scr, ↓v_frz_scr, ↓v_src_scr, ↓v_use_box, ↓v_arg_box, ↓v_sto_box, ↓v_rd_box, ↓v_frz_box, ↓v_src_box, ↓v_bl, ↓v_frz_L, ↓v_frz_D, ↓v_frz_T, ↓v_rd_L, ↓v_rd_D, ↓v_dat_l, ↓v_dat_d, ↓v_onD, ↓v_onI, ↓v_onL, ↓v_on1, ↓v_on2, ↓v_on3, ↓v_all0, ↓v_all1, ↓v_seqL, ↓v_seqT, ↓v_gNm, ↓v_gNil, ↓v_gCons, ↓v_gTup, ↓g_add, ↓g_addS, ↓g_addT, ↓g_addL, ↓g_sub, ↓g_mul, ↓g_fdiv, ↓g_mod, ↓g_pow, ↓g_eq, ↓g_ne, ↓g_lt, ↓g_gt, ↓g_le, ↓g_ge, ↓g_ltT, ↓g_gtT, ↓g_leT, ↓g_geT, ↓g_inT, ↓g_inL, ↓g_is, ↓g_neg, ↓g_not, ↓g_lenL, ↓g_lenT, ↓g_lenD, ↓g_intI, ↓g_intB, ↓g_abs, ↓g_gcd, ↓g_repr, ↓g_listL, ↓g_listT, ↓g_tupL, ↓g_tupT, ↓g_ixL0, ↓g_ixL1, ↓g_ixL2, ↓g_ixL3, ↓g_ixT0, ↓g_ixT1, ↓g_ixT2, ↓g_ixT3, ↓g_ixL, ↓g_ixT, ↓g_slL, ↓g_slT, ↓g_revL, ↓g_revT, n_non, n_int, n_tup, n_str, n_bl, n_lst, ↓n_enLst, ↓n_onOwn, ↓en0, ↓enS, eqOk_int, eqOk_str, eqv_int, eqv_str, exists_eq_left', atI0, atI1, atI2, atI3, isa, Int.cast_ofNat_Int, List.length_cons, List.length_nil, List.set_cons_zero, List.set_cons_succ, Option.some.injEq, true_and, and_true, if_true, if_false, Bool.not_true, Bool.not_false, Bool.xor_false, Bool.false_xor, Bool.true_xor, decide_eq_true_eq, Bool.not_eq_true', decide_eq_false_iff_not, Nat.reduceAdd, Nat.zero_add, w_err, fnEnds, shaped_c0, shaped_c1, shaped_c2, shaped_c3, List.map_cons, List.map_nil, Bool.false_eq_true, reduceIte, decide_true, decide_false, Bool.not_eq_true, decide_not, Bool.not_not, ne_eq, Nat.reduceLeDiff, sizeBig, Int.reduceAbs, Int.reduceLE, Int.reduceLT, Int.reduceAdd, Int.reduceSub, Int.reduceMul, Int.reduceNeg, Int.reduceToNat, Int.reducePow, Int.reduceEq, Nat.reducePow, Nat.reduceLT, ofString_inj, String.reduceEq, shaped_lit, shaped_int, shaped_bool, shaped_none, sm_lt, mb_lit_l, mb_lit_r, ↓w_pick, ↓w_pickT, ↓w_draw, w_wipe0, w_wipe1, List.nil_append, List.cons_append, reduceCtorEq, Bool.true_eq_false, eq_self, not_true_eq_false, not_false_eq_true, List.any_cons, List.any_nil, Bool.or_false, Bool.false_or, Bool.or_true, Bool.true_or, Bool.and_true, Bool.true_and, Bool.and_false, Bool.false_and, ↓sp__law_draw, ↓sp__law_pick, gKw_0_ap, gKw_1_0_ap]
  intro a a0 a1 b b0 b1
  refine pk_is (lo := 1) (hi := 999) (fal ⟨_, rfl, by omega, by omega⟩ (fal ⟨_, rfl, by omega, by omega⟩ (fal ⟨_, rfl, by omega, by omega⟩ (fal ⟨_, rfl, by omega, by omega⟩ fan)))) fun l l0 l1 => ?_
  exact q ⟨o, p, v, l⟩ ⟨o0, o1, p0, p1, v0, v1, l0, l1⟩


theorem h__law_score : ∀ rs Q Ex, rs.length = 2 → sp__law_score rs Q Ex → d__law_score (fnEnds Q Ex) (startD 8 rs) := by
  rintro rs Q Ex - ⟨m, rfl, hm, q⟩
  show d__law_score (fnEnds Q Ex) [some .box, some (.d (.int (m : Int))), none, none, none, none, none, none]
  simp only [d__law_score, ↓w_seq, ↓w_set, ↓w_ret, ↓w_retN, ↓w_retV, ↓w_if, ↓w_drop, ↓w_asg, ↓w_par, ↓w_par3, ↓w_nx, ↓w_bk, ↓w_ct, ↓w_frz, ↓w_for, ↓w_app, ↓w_ext, ↓w_bin, ↓w_un, ↓w_var, ↓w_con, ↓w_callB, ↓w_nilU, ↓w_consU, ↓w_consS, ↓w_nilD, ↓w_consD, ↓w_consO, ↓w_tup, ↓w_lst, ↓w_dic0, ↓w_and, ↓w_or, ↓w_not, ↓w_ite, ↓w_chain, ↓w_isa, ↓w_fn, ↓w_fnK, ↓w_sl, ↓w_noO, ↓w_someO, ↓w_yes, ↓w_tst, ↓w_lc, ↓w_it, ↓w_enum, ↓w_zip, ↓w_rng1, ↓w_rng2, ↓w_never, ↓w_kNil, ↓w_kCons, ↓w_disp, ↓w_mg0, ↓w_mg1, ↓w_put0, ↓w_keyS, ↓w_keyI, ↓w_sset, ↓w_dicT, ↓w_inT, ↓w_ixT, ↓w_listT, ↓w_stoT, ↓w_stoU, ↓w_enDt, ↓w_onDt, ↓w_enOw, ↓w_onOw, ↓w_stoL, ↓w_stoD, ↓w_enZ, ↓g_min2, ↓g_minL, ↓g_minT, ↓g_max2, ↓g_maxL, ↓g_maxT, ↓g_sum, ↓g_all, ↓g_any, ↓v_use_d, ↓v_arg_d, ↓v_sto_d, ↓v_rd_d, ↓v_frz_d, ↓v_src_d, ↓v_use_own, ↓v_arg_own, ↓v_sto_own, ↓v_rd_own, ↓v_src_own, ↓v_use_bor, ↓v_arg_bor, ↓v_sto_bor, ↓v_rd_bor, ↓v_frz_bor, ↓v_src_bor, ↓v_use_scr, ↓v_arg_scr, ↓v_sto_scr, ↓v_rd_scr, ↓v_frz_scr, ↓v_src_scr, ↓v_use_box, ↓v_arg_box, ↓v_sto_box, ↓v_rd_box, ↓v_frz_box, ↓v_src_box, ↓v_bl, ↓v_frz_L, ↓v_frz_D, ↓v_frz_T, ↓v_rd_L, ↓v_rd_D, ↓v_dat_l, ↓v_dat_d, ↓v_onD, ↓v_onI, ↓v_onL, ↓v_on1, ↓v_on2, ↓v_on3, ↓v_all0, ↓v_all1, ↓v_seqL, ↓v_seqT, ↓v_gNm, ↓v_gNil, ↓v_gCons, ↓v_gTup, ↓g_add, ↓g_addS, ↓g_addT, ↓g_addL, ↓g_sub, ↓g_mul, ↓g_fdiv, ↓g_mod, ↓g_pow, ↓g_eq, ↓g_ne, ↓g_lt, ↓g_gt, ↓g_le, ↓g_ge, ↓g_ltT, ↓g_gtT, ↓g_leT, ↓g_geT, ↓g_inT, ↓g_inL, ↓g_is, ↓g_neg, ↓g_not, ↓g_lenL, ↓g_lenT, ↓g_lenD, ↓g_intI, ↓g_intB, ↓g_abs, ↓g_gcd, ↓g_repr, ↓g_listL, ↓g_listT, ↓g_tupL, ↓g_tupT, ↓g_ixL0, ↓g_ixL1, ↓g_ixL2, ↓g_ixL3, ↓g_ixT0, ↓g_ixT1, ↓g_ixT2, ↓g_ixT3, ↓g_ixL, ↓g_ixT, ↓g_slL, ↓g_slT, ↓g_revL, ↓g_revT, n_non, n_int, n_tup, n_str, n_bl, n_lst, ↓n_enLst, ↓n_onOwn, ↓en0, ↓enS, eqOk_int, eqOk_str, eqv_int, eqv_str, exists_eq_left', atI0, atI1, atI2, atI3, isa, Int.cast_ofNat_Int, List.length_cons, List.length_nil, List.set_cons_zero, List.set_cons_succ, Option.some.injEq, true_and, and_true, if_true, if_false, Bool.not_true, Bool.not_false, Bool.xor_false, Bool.false_xor, Bool.true_xor, decide_eq_true_eq, Bool.not_eq_true', decide_eq_false_iff_not, Nat.reduceAdd, Nat.zero_add, w_err, fnEnds, shaped_c0, shaped_c1, shaped_c2, shaped_c3, List.map_cons, List.map_nil, Bool.false_eq_true, reduceIte, decide_true, decide_false, Bool.not_eq_true, decide_not, Bool.not_not, ne_eq, Nat.reduceLeDiff, sizeBig, Int.reduceAbs, Int.reduceLE, Int.reduceLT, Int.reduceAdd, Int.reduceSub, Int.reduceMul, Int.reduceNeg, Int.reduceToNat, Int.reducePow, Int.reduceEq, Nat.reducePow, Nat.reduceLT, ofString_inj, String.reduceEq, shaped_lit, shaped_int, shaped_bool, shaped_none, sm_lt, mb_lit_l, mb_lit_r, ↓w_pick, ↓w_pickT, ↓w_draw, w_wipe0, w_wipe1, List.nil_append, List.cons_append, reduceCtorEq, Bool.true_eq_false, eq_self, not_true_eq_false, not_false_eq_true, List.any_cons, List.any_nil, Bool.or_false, Bool.false_or, Bool.or_true, Bool.true_or, Bool.and_true, Bool.true_and, Bool.and_false, Bool.false_and, ↓sp__law_draw, ↓sp__law_pick, gKw_0_ap, gKw_1_0_ap]
  refine ⟨rfl, fun last hla => ?_⟩
  simp only [d__law_score_2, ↓w_seq, ↓w_set, ↓w_ret, ↓w_retN, ↓w_retV, ↓w_if, ↓w_drop, ↓w_asg, ↓w_par, ↓w_par3, ↓w_nx, ↓w_bk, ↓w_ct, ↓w_frz, ↓w_for, ↓w_app, ↓w_ext, ↓w_bin, ↓w_un, ↓w_var, ↓w_con, ↓w_callB, ↓w_nilU, ↓w_consU, ↓w_consS, ↓w_nilD, ↓w_consD, ↓w_consO, ↓w_tup, ↓w_lst, ↓w_dic0, ↓w_and, ↓w_or, ↓w_not, ↓w_ite, ↓w_chain, ↓w_isa, ↓w_fn, ↓w_fnK, ↓w_sl, ↓w_noO, ↓w_someO, ↓w_yes, ↓w_tst, ↓w_lc, ↓w_it, ↓w_enum, ↓w_zip, ↓w_rng1, ↓w_rng2, ↓w_never, ↓w_kNil, ↓w_kCons, ↓w_disp, ↓w_mg0, ↓w_mg1, ↓w_put0, ↓w_keyS, ↓w_keyI, ↓w_sset, ↓w_dicT, ↓w_inT, ↓w_ixT, ↓w_listT, ↓w_stoT, ↓w_stoU, ↓w_enDt, ↓w_onDt, ↓w_enOw, ↓w_onOw, ↓w_stoL, ↓w_stoD, ↓w_enZ, ↓g_min2, ↓g_minL, ↓g_minT, ↓g_max2, ↓g_maxL, ↓g_maxT, ↓g_sum, ↓g_all, ↓g_any, ↓v_use_d, ↓v_arg_d, ↓v_sto_d, ↓v_rd_d, ↓v_frz_d, ↓v_src_d, ↓v_use_own, ↓v_arg_own, ↓v_sto_own, ↓v_rd_own, ↓v_src_own, ↓v_use_bor, ↓v_arg_bor, ↓v_sto_bor, ↓v_rd_bor, ↓v_frz_bor, ↓v_src_bor, ↓v_use_scr, ↓v_arg_scr, ↓v_sto_scr, ↓v_rd_scr, ↓v_frz_scr, ↓v_src_scr, ↓v_use_box, ↓v_arg_box, ↓v_sto_box, ↓v_rd_box, ↓v_frz_box, ↓v_src_box, ↓v_bl, ↓v_frz_L, ↓v_frz_D, ↓v_frz_T, ↓v_rd_L, ↓v_rd_D, ↓v_dat_l, ↓v_dat_d, ↓v_onD, ↓v_onI, ↓v_onL, ↓v_on1, ↓v_on2, ↓v_on3, ↓v_all0, ↓v_all1, ↓v_seqL, ↓v_seqT, ↓v_gNm, ↓v_gNil, ↓v_gCons, ↓v_gTup, ↓g_add, ↓g_addS, ↓g_addT, ↓g_addL, ↓g_sub, ↓g_mul, ↓g_fdiv, ↓g_mod, ↓g_pow, ↓g_eq, ↓g_ne, ↓g_lt, ↓g_gt, ↓g_le, ↓g_ge, ↓g_ltT, ↓g_gtT, ↓g_leT, ↓g_geT, ↓g_inT, ↓g_inL, ↓g_is, ↓g_neg, ↓g_not, ↓g_lenL, ↓g_lenT, ↓g_lenD, ↓g_intI, ↓g_intB, ↓g_abs, ↓g_gcd, ↓g_repr, ↓g_listL, ↓g_listT, ↓g_tupL, ↓g_tupT, ↓g_ixL0, ↓g_ixL1, ↓g_ixL2, ↓g_ixL3, ↓g_ixT0, ↓g_ixT1, ↓g_ixT2, ↓g_ixT3, ↓g_ixL, ↓g_ixT, ↓g_slL, ↓g_slT, ↓g_revL, ↓g_revT, n_non, n_int, n_tup, n_str, n_bl, n_lst, ↓n_enLst, ↓n_onOwn, ↓en0, ↓enS, eqOk_int, eqOk_str, eqv_int, eqv_str, exists_eq_left', atI0, atI1, atI2, atI3, isa, Int.cast_ofNat_Int, List.length_cons, List.length_nil, List.set_cons_zero, List.set_cons_succ, Option.some.injEq, true_and, and_true, if_true, if_false, Bool.not_true, Bool.not_false, Bool.xor_false, Bool.false_xor, Bool.true_xor, decide_eq_true_eq, Bool.not_eq_true', decide_eq_false_iff_not, Nat.reduceAdd, Nat.zero_add, w_err, fnEnds, shaped_c0, shaped_c1, shaped_c2, shaped_c3, List.map_cons, List.map_nil, Bool.false_eq_true, reduceIte, decide_true, decide_false, Bool.not_eq_true, decide_not, Bool.not_not, ne_eq, Nat.reduceLeDiff, sizeBig, Int.reduceAbs, Int.reduceLE, Int.reduceLT, Int.reduceAdd, Int.reduceSub, Int.reduceMul, Int.reduceNeg, Int.reduceToNat, Int.reducePow, Int.reduceEq, Nat.reducePow, Nat.reduceLT, ofString_inj, String.reduceEq, shaped_lit, shaped_int, shaped_bool, shaped_none, sm_lt, mb_lit_l, mb_lit_r, ↓w_pick, ↓w_pickT, ↓w_draw, w_wipe0, w_wipe1, List.nil_append, List.cons_append, reduceCtorEq, Bool.true_eq_false, eq_self, not_true_eq_false, not_false_eq_true, List.any_cons, List.any_nil, Bool.or_false, Bool.false_or, Bool.or_true, Bool.true_or, Bool.and_true, Bool.true_and, Bool.and_false, Bool.false_and, ↓sp__law_draw, ↓sp__law_pick, gKw_0_ap, gKw_1_0_ap]
  refine ⟨by unfold bd62; omega, ?_⟩
  rw [Int.toNat_natCast, rngL_map]
  refine for_ind (fun i : Nat => .int (i : Nat)) (fun js env => ∃ es last x4 x5 x6 x7, env = [some .box, some (.d (.int (m : Int))), some (.own (.dtn (encA eK eI es))), some (.d (eN last)), x4, x5, x6, x7] ∧ last.ok ∧ js.length ≤ m ∧ ScD (m - js.length) es) ?_ ?_ _ _ ⟨[], last, _, _, _, _, rfl, hla, by rw [List.length_range]; omega, by rw [List.length_range]; exact ⟨by rw [List.length_nil]; omega, List.Pairwise.nil, fun e h => by cases h⟩⟩
  · rintro env ⟨es, last, x4, x5, x6, x7, rfl, hla, -, hes⟩
    rw [List.length_nil, Nat.sub_zero] at hes
    have hle := hes.len
    have hke : (encA eK eI es).map (·.1) = (es.map (·.1)).map eK := by unfold encA; rw [List.map_map, List.map_map]; rfl
    simp only [d__law_score_3, ↓w_seq, ↓w_set, ↓w_ret, ↓w_retN, ↓w_retV, ↓w_if, ↓w_drop, ↓w_asg, ↓w_par, ↓w_par3, ↓w_nx, ↓w_bk, ↓w_ct, ↓w_frz, ↓w_for, ↓w_app, ↓w_ext, ↓w_bin, ↓w_un, ↓w_var, ↓w_con, ↓w_callB, ↓w_nilU, ↓w_consU, ↓w_consS, ↓w_nilD, ↓w_consD, ↓w_consO, ↓w_tup, ↓w_lst, ↓w_dic0, ↓w_and, ↓w_or, ↓w_not, ↓w_ite, ↓w_chain, ↓w_isa, ↓w_fn, ↓w_fnK, ↓w_sl, ↓w_noO, ↓w_someO, ↓w_yes, ↓w_tst, ↓w_lc, ↓w_it, ↓w_enum, ↓w_zip, ↓w_rng1, ↓w_rng2, ↓w_never, ↓w_kNil, ↓w_kCons, ↓w_disp, ↓w_mg0, ↓w_mg1, ↓w_put0, ↓w_keyS, ↓w_keyI, ↓w_sset, ↓w_dicT, ↓w_inT, ↓w_ixT, ↓w_listT, ↓w_stoT, ↓w_stoU, ↓w_enDt, ↓w_onDt, ↓w_enOw, ↓w_onOw, ↓w_stoL, ↓w_stoD, ↓w_enZ, ↓g_min2, ↓g_minL, ↓g_minT, ↓g_max2, ↓g_maxL, ↓g_maxT, ↓g_sum, ↓g_all, ↓g_any, ↓v_use_d, ↓v_arg_d, ↓v_sto_d, ↓v_rd_d, ↓v_frz_d, ↓v_src_d, ↓v_use_own, ↓v_arg_own, ↓v_sto_own, ↓v_rd_own, ↓v_src_own, ↓v_use_bor, ↓v_arg_bor, ↓v_sto_bor, ↓v_rd_bor, ↓v_frz_bor, ↓v_src_bor, ↓v_use_scr, ↓v_arg_scr, ↓v_sto_scr, ↓v_rd_scr, ↓v_frz_scr, ↓v_src_scr, ↓v_use_box, ↓v_arg_box, ↓v_sto_box, ↓v_rd_box, ↓v_frz_box, ↓v_src_box, ↓v_bl, ↓v_frz_L, ↓v_frz_D, ↓v_frz_T, ↓v_rd_L, ↓v_rd_D, ↓v_dat_l, ↓v_dat_d, ↓v_onD, ↓v_onI, ↓v_onL, ↓v_on1, ↓v_on2, ↓v_on3, ↓v_all0, ↓v_all1, ↓v_seqL, ↓v_seqT, ↓v_gNm, ↓v_gNil, ↓v_gCons, ↓v_gTup, ↓g_add, ↓g_addS, ↓g_addT, ↓g_addL, ↓g_sub, ↓g_mul, ↓g_fdiv, ↓g_mod, ↓g_pow, ↓g_eq, ↓g_ne, ↓g_lt, ↓g_gt, ↓g_le, ↓g_ge, ↓g_ltT, ↓g_gtT, ↓g_leT, ↓g_geT, ↓g_inT, ↓g_inL, ↓g_is, ↓g_neg, ↓g_not, ↓g_lenL, ↓g_lenT, ↓g_lenD, ↓g_intI, ↓g_intB, ↓g_abs, ↓g_gcd, ↓g_repr, ↓g_listL, ↓g_listT, ↓g_tupL, ↓g_tupT, ↓g_ixL0, ↓g_ixL1, ↓g_ixL2, ↓g_ixL3, ↓g_ixT0, ↓g_ixT1, ↓g_ixT2, ↓g_ixT3, ↓g_ixL, ↓g_ixT, ↓g_slL, ↓g_slT, ↓g_revL, ↓g_revT, n_non, n_int, n_tup, n_str, n_bl, n_lst, ↓n_enLst, ↓n_onOwn, ↓en0, ↓enS, eqOk_int, eqOk_str, eqv_int, eqv_str, exists_eq_left', atI0, atI1, atI2, atI3, isa, Int.cast_ofNat_Int, List.length_cons, List.length_nil, List.set_cons_zero, List.set_cons_succ, Option.some.injEq, true_and, and_true, if_true, if_false, Bool.not_true, Bool.not_false, Bool.xor_false, Bool.false_xor, Bool.true_xor, decide_eq_true_eq, Bool.not_eq_true', decide_eq_false_iff_not, Nat.reduceAdd, Nat.zero_add, w_err, fnEnds, shaped_c0, shaped_c1, shaped_c2, shaped_c3, List.map_cons, List.map_nil, Bool.false_eq_true, reduceIte, decide_true, decide_false, Bool.not_eq_true, decide_not, Bool.not_not, ne_eq, Nat.reduceLeDiff, sizeBig, Int.reduceAbs, Int.reduceLE, Int.reduceLT, Int.reduceAdd, Int.reduceSub, Int.reduceMul, Int.reduceNeg, Int.reduceToNat, Int.reducePow, Int.reduceEq, Nat.reducePow, Nat.reduceLT, ofString_inj, String.reduceEq, shaped_lit, shaped_int, shaped_bool, shaped_none, sm_lt, mb_lit_l, mb_lit_r, ↓w_pick, ↓w_pickT, ↓w_draw, w_wipe0, w_wipe1, List.nil_append, List.cons_append, reduceCtorEq, Bool.true_eq_false, eq_self, not_true_eq_false, not_false_eq_true, List.any_cons, List.any_nil, Bool.or_false, Bool.false_or, Bool.or_true, Bool.true_or, Bool.and_true, Bool.true_and, Bool.and_false, Bool.false_and, ↓sp__law_draw, ↓sp__law_pick, gKw_0_ap, gKw_1_0_ap]
    refine ⟨by unfold encA; rw [List.length_map]; omega, ?_⟩
    rw [hke]
    refine sorted_K ?_
    simp only [↓w_seq, ↓w_set, ↓w_ret, ↓w_retN, ↓w_retV, ↓w_if, ↓w_drop, ↓w_asg, ↓w_par, ↓w_par3, ↓w_nx, ↓w_bk, ↓w_ct, ↓w_frz, ↓w_for, ↓w_app, ↓w_ext, ↓w_bin, ↓w_un, ↓w_var, ↓w_con, ↓w_callB, ↓w_nilU, ↓w_consU, ↓w_consS, ↓w_nilD, ↓w_consD, ↓w_consO, ↓w_tup, ↓w_lst, ↓w_dic0, ↓w_and, ↓w_or, ↓w_not, ↓w_ite, ↓w_chain, ↓w_isa, ↓w_fn, ↓w_fnK, ↓w_sl, ↓w_noO, ↓w_someO, ↓w_yes, ↓w_tst, ↓w_lc, ↓w_it, ↓w_enum, ↓w_zip, ↓w_rng1, ↓w_rng2, ↓w_never, ↓w_kNil, ↓w_kCons, ↓w_disp, ↓w_mg0, ↓w_mg1, ↓w_put0, ↓w_keyS, ↓w_keyI, ↓w_sset, ↓w_dicT, ↓w_inT, ↓w_ixT, ↓w_listT, ↓w_stoT, ↓w_stoU, ↓w_enDt, ↓w_onDt, ↓w_enOw, ↓w_onOw, ↓w_stoL, ↓w_stoD, ↓w_enZ, ↓g_min2, ↓g_minL, ↓g_minT, ↓g_max2, ↓g_maxL, ↓g_maxT, ↓g_sum, ↓g_all, ↓g_any, ↓v_use_d, ↓v_arg_d, ↓v_sto_d, ↓v_rd_d, ↓v_frz_d, ↓v_src_d, ↓v_use_own, ↓v_arg_own, ↓v_sto_own, ↓v_rd_own, ↓v_src_own, ↓v_use_bor, ↓v_arg_bor, ↓v_sto_bor, ↓v_rd_bor, ↓v_frz_bor, ↓v_src_bor, ↓v_use_scr, ↓v_arg_scr, ↓v_sto_scr, ↓v_rd_scr, ↓v_frz_scr, ↓v_src_scr, ↓v_use_box, ↓v_arg_box, ↓v_sto_box, ↓v_rd_box, ↓v_frz_box, ↓v_src_box, ↓v_bl, ↓v_frz_L, ↓v_frz_D, ↓v_frz_T, ↓v_rd_L, ↓v_rd_D, ↓v_dat_l, ↓v_dat_d, ↓v_onD, ↓v_onI, ↓v_onL, ↓v_on1, ↓v_on2, ↓v_on3, ↓v_all0, ↓v_all1, ↓v_seqL, ↓v_seqT, ↓v_gNm, ↓v_gNil, ↓v_gCons, ↓v_gTup, ↓g_add, ↓g_addS, ↓g_addT, ↓g_addL, ↓g_sub, ↓g_mul, ↓g_fdiv, ↓g_mod, ↓g_pow, ↓g_eq, ↓g_ne, ↓g_lt, ↓g_gt, ↓g_le, ↓g_ge, ↓g_ltT, ↓g_gtT, ↓g_leT, ↓g_geT, ↓g_inT, ↓g_inL, ↓g_is, ↓g_neg, ↓g_not, ↓g_lenL, ↓g_lenT, ↓g_lenD, ↓g_intI, ↓g_intB, ↓g_abs, ↓g_gcd, ↓g_repr, ↓g_listL, ↓g_listT, ↓g_tupL, ↓g_tupT, ↓g_ixL0, ↓g_ixL1, ↓g_ixL2, ↓g_ixL3, ↓g_ixT0, ↓g_ixT1, ↓g_ixT2, ↓g_ixT3, ↓g_ixL, ↓g_ixT, ↓g_slL, ↓g_slT, ↓g_revL, ↓g_revT, n_non, n_int, n_tup, n_str, n_bl, n_lst, ↓n_enLst, ↓n_onOwn, ↓en0, ↓enS, eqOk_int, eqOk_str, eqv_int, eqv_str, exists_eq_left', atI0, atI1, atI2, atI3, isa, Int.cast_ofNat_Int, List.length_cons, List.length_nil, List.set_cons_zero, List.set_cons_succ, Option.some.injEq, true_and, and_true, if_true, if_false, Bool.not_true, Bool.not_false, Bool.xor_false, Bool.false_xor, Bool.true_xor, decide_eq_true_eq, Bool.not_eq_true', decide_eq_false_iff_not, Nat.reduceAdd, Nat.zero_add, w_err, fnEnds, shaped_c0, shaped_c1, shaped_c2, shaped_c3, List.map_cons, List.map_nil, Bool.false_eq_true, reduceIte, decide_true, decide_false, Bool.not_eq_true, decide_not, Bool.not_not, ne_eq, Nat.reduceLeDiff, sizeBig, Int.reduceAbs, Int.reduceLE, Int.reduceLT, Int.reduceAdd, Int.reduceSub, Int.reduceMul, Int.reduceNeg, Int.reduceToNat, Int.reducePow, Int.reduceEq, Nat.reducePow, Nat.reduceLT, ofString_inj, String.reduceEq, shaped_lit, shaped_int, shaped_bool, shaped_none, sm_lt, mb_lit_l, mb_lit_r, ↓w_pick, ↓w_pickT, ↓w_draw, w_wipe0, w_wipe1, List.nil_append, List.cons_append, reduceCtorEq, Bool.true_eq_false, eq_self, not_true_eq_false, not_false_eq_true, List.any_cons, List.any_nil, Bool.or_false, Bool.false_or, Bool.or_true, Bool.true_or, Bool.and_true, Bool.true_and, Bool.and_false, Bool.false_and, ↓sp__law_draw, ↓sp__law_pick, gKw_0_ap, gKw_1_0_ap]
    refine lc_det eK (fun k => some (eN (ScD.note es k))) _ [] (by rw [sizeLine_eq, List.length_nil, List.length_mergeSort, List.length_map]; omega) (fun k hk K hK => ?_) ?_
    · have hk := (List.mergeSort_perm _ _).mem_iff.mp hk
      obtain ⟨v, h1, h2⟩ := getA_of hk
      simp only [lcStep, ↓w_seq, ↓w_set, ↓w_ret, ↓w_retN, ↓w_retV, ↓w_if, ↓w_drop, ↓w_asg, ↓w_par, ↓w_par3, ↓w_nx, ↓w_bk, ↓w_ct, ↓w_frz, ↓w_for, ↓w_app, ↓w_ext, ↓w_bin, ↓w_un, ↓w_var, ↓w_con, ↓w_callB, ↓w_nilU, ↓w_consU, ↓w_consS, ↓w_nilD, ↓w_consD, ↓w_consO, ↓w_tup, ↓w_lst, ↓w_dic0, ↓w_and, ↓w_or, ↓w_not, ↓w_ite, ↓w_chain, ↓w_isa, ↓w_fn, ↓w_fnK, ↓w_sl, ↓w_noO, ↓w_someO, ↓w_yes, ↓w_tst, ↓w_lc, ↓w_it, ↓w_enum, ↓w_zip, ↓w_rng1, ↓w_rng2, ↓w_never, ↓w_kNil, ↓w_kCons, ↓w_disp, ↓w_mg0, ↓w_mg1, ↓w_put0, ↓w_keyS, ↓w_keyI, ↓w_sset, ↓w_dicT, ↓w_inT, ↓w_ixT, ↓w_listT, ↓w_stoT, ↓w_stoU, ↓w_enDt, ↓w_onDt, ↓w_enOw, ↓w_onOw, ↓w_stoL, ↓w_stoD, ↓w_enZ, ↓g_min2, ↓g_minL, ↓g_minT, ↓g_max2, ↓g_maxL, ↓g_maxT, ↓g_sum, ↓g_all, ↓g_any, ↓v_use_d, ↓v_arg_d, ↓v_sto_d, ↓v_rd_d, ↓v_frz_d, ↓v_src_d, ↓v_use_own, ↓v_arg_own, ↓v_sto_own, ↓v_rd_own, ↓v_src_own, ↓v_use_bor, ↓v_arg_bor, ↓v_sto_bor, ↓v_rd_bor, ↓v_frz_bor, ↓v_src_bor, ↓v_use_scr, ↓v_arg_scr, ↓v_sto_scr, ↓v_rd_scr, ↓v_frz_scr, ↓v_src_scr, ↓v_use_box, ↓v_arg_box, ↓v_sto_box, ↓v_rd_box, ↓v_frz_box, ↓v_src_box, ↓v_bl, ↓v_frz_L, ↓v_frz_D, ↓v_frz_T, ↓v_rd_L, ↓v_rd_D, ↓v_dat_l, ↓v_dat_d, ↓v_onD, ↓v_onI, ↓v_onL, ↓v_on1, ↓v_on2, ↓v_on3, ↓v_all0, ↓v_all1, ↓v_seqL, ↓v_seqT, ↓v_gNm, ↓v_gNil, ↓v_gCons, ↓v_gTup, ↓g_add, ↓g_addS, ↓g_addT, ↓g_addL, ↓g_sub, ↓g_mul, ↓g_fdiv, ↓g_mod, ↓g_pow, ↓g_eq, ↓g_ne, ↓g_lt, ↓g_gt, ↓g_le, ↓g_ge, ↓g_ltT, ↓g_gtT, ↓g_leT, ↓g_geT, ↓g_inT, ↓g_inL, ↓g_is, ↓g_neg, ↓g_not, ↓g_lenL, ↓g_lenT, ↓g_lenD, ↓g_intI, ↓g_intB, ↓g_abs, ↓g_gcd, ↓g_repr, ↓g_listL, ↓g_listT, ↓g_tupL, ↓g_tupT, ↓g_ixL0, ↓g_ixL1, ↓g_ixL2, ↓g_ixL3, ↓g_ixT0, ↓g_ixT1, ↓g_ixT2, ↓g_ixT3, ↓g_ixL, ↓g_ixT, ↓g_slL, ↓g_slT, ↓g_revL, ↓g_revT, n_non, n_int, n_tup, n_str, n_bl, n_lst, ↓n_enLst, ↓n_onOwn, ↓en0, ↓enS, eqOk_int, eqOk_str, eqv_int, eqv_str, exists_eq_left', atI0, atI1, atI2, atI3, isa, Int.cast_ofNat_Int, List.length_cons, List.length_nil, List.set_cons_zero, List.set_cons_succ, Option.some.injEq, true_and, and_true, if_true, if_false, Bool.not_true, Bool.not_false, Bool.xor_false, Bool.false_xor, Bool.true_xor, decide_eq_true_eq, Bool.not_eq_true', decide_eq_false_iff_not, Nat.reduceAdd, Nat.zero_add, w_err, fnEnds, shaped_c0, shaped_c1, shaped_c2, shaped_c3, List.map_cons, List.map_nil, Bool.false_eq_true, reduceIte, decide_true, decide_false, Bool.not_eq_true, decide_not, Bool.not_not, ne_eq, Nat.reduceLeDiff, sizeBig, Int.reduceAbs, Int.reduceLE, Int.reduceLT, Int.reduceAdd, Int.reduceSub, Int.reduceMul, Int.reduceNeg, Int.reduceToNat, Int.reducePow, Int.reduceEq, Nat.reducePow, Nat.reduceLT, ofString_inj, String.reduceEq, shaped_lit, shaped_int, shaped_bool, shaped_none, sm_lt, mb_lit_l, mb_lit_r, ↓w_pick, ↓w_pickT, ↓w_draw, w_wipe0, w_wipe1, List.nil_append, List.cons_append, reduceCtorEq, Bool.true_eq_false, eq_self, not_true_eq_false, not_false_eq_true, List.any_cons, List.any_nil, Bool.or_false, Bool.false_or, Bool.or_true, Bool.true_or, Bool.and_true, Bool.true_and, Bool.and_false, Bool.false_and, ↓sp__law_draw, ↓sp__law_pick, gKw_0_ap, gKw_1_0_ap]
      have hg : getT (encA eK eI es) (eK k) = some (.int v) := by rw [get_enc nk_K_inj, h1]; rfl
      refine ⟨nk_K k, _, hg, ?_⟩
      simp only [↓w_seq, ↓w_set, ↓w_ret, ↓w_retN, ↓w_retV, ↓w_if, ↓w_drop, ↓w_asg, ↓w_par, ↓w_par3, ↓w_nx, ↓w_bk, ↓w_ct, ↓w_frz, ↓w_for, ↓w_app, ↓w_ext, ↓w_bin, ↓w_un, ↓w_var, ↓w_con, ↓w_callB, ↓w_nilU, ↓w_consU, ↓w_consS, ↓w_nilD, ↓w_consD, ↓w_consO, ↓w_tup, ↓w_lst, ↓w_dic0, ↓w_and, ↓w_or, ↓w_not, ↓w_ite, ↓w_chain, ↓w_isa, ↓w_fn, ↓w_fnK, ↓w_sl, ↓w_noO, ↓w_someO, ↓w_yes, ↓w_tst, ↓w_lc, ↓w_it, ↓w_enum, ↓w_zip, ↓w_rng1, ↓w_rng2, ↓w_never, ↓w_kNil, ↓w_kCons, ↓w_disp, ↓w_mg0, ↓w_mg1, ↓w_put0, ↓w_keyS, ↓w_keyI, ↓w_sset, ↓w_dicT, ↓w_inT, ↓w_ixT, ↓w_listT, ↓w_stoT, ↓w_stoU, ↓w_enDt, ↓w_onDt, ↓w_enOw, ↓w_onOw, ↓w_stoL, ↓w_stoD, ↓w_enZ, ↓g_min2, ↓g_minL, ↓g_minT, ↓g_max2, ↓g_maxL, ↓g_maxT, ↓g_sum, ↓g_all, ↓g_any, ↓v_use_d, ↓v_arg_d, ↓v_sto_d, ↓v_rd_d, ↓v_frz_d, ↓v_src_d, ↓v_use_own, ↓v_arg_own, ↓v_sto_own, ↓v_rd_own, ↓v_src_own, ↓v_use_bor, ↓v_arg_bor, ↓v_sto_bor, ↓v_rd_bor, ↓v_frz_bor, ↓v_src_bor, ↓v_use_scr, ↓v_arg_scr, ↓v_sto_scr, ↓v_rd_scr, ↓v_frz_scr, ↓v_src_scr, ↓v_use_box, ↓v_arg_box, ↓v_sto_box, ↓v_rd_box, ↓v_frz_box, ↓v_src_box, ↓v_bl, ↓v_frz_L, ↓v_frz_D, ↓v_frz_T, ↓v_rd_L, ↓v_rd_D, ↓v_dat_l, ↓v_dat_d, ↓v_onD, ↓v_onI, ↓v_onL, ↓v_on1, ↓v_on2, ↓v_on3, ↓v_all0, ↓v_all1, ↓v_seqL, ↓v_seqT, ↓v_gNm, ↓v_gNil, ↓v_gCons, ↓v_gTup, ↓g_add, ↓g_addS, ↓g_addT, ↓g_addL, ↓g_sub, ↓g_mul, ↓g_fdiv, ↓g_mod, ↓g_pow, ↓g_eq, ↓g_ne, ↓g_lt, ↓g_gt, ↓g_le, ↓g_ge, ↓g_ltT, ↓g_gtT, ↓g_leT, ↓g_geT, ↓g_inT, ↓g_inL, ↓g_is, ↓g_neg, ↓g_not, ↓g_lenL, ↓g_lenT, ↓g_lenD, ↓g_intI, ↓g_intB, ↓g_abs, ↓g_gcd, ↓g_repr, ↓g_listL, ↓g_listT, ↓g_tupL, ↓g_tupT, ↓g_ixL0, ↓g_ixL1, ↓g_ixL2, ↓g_ixL3, ↓g_ixT0, ↓g_ixT1, ↓g_ixT2, ↓g_ixT3, ↓g_ixL, ↓g_ixT, ↓g_slL, ↓g_slT, ↓g_revL, ↓g_revT, n_non, n_int, n_tup, n_str, n_bl, n_lst, ↓n_enLst, ↓n_onOwn, ↓en0, ↓enS, eqOk_int, eqOk_str, eqv_int, eqv_str, exists_eq_left', atI0, atI1, atI2, atI3, isa, Int.cast_ofNat_Int, List.length_cons, List.length_nil, List.set_cons_zero, List.set_cons_succ, Option.some.injEq, true_and, and_true, if_true, if_false, Bool.not_true, Bool.not_false, Bool.xor_false, Bool.false_xor, Bool.true_xor, decide_eq_true_eq, Bool.not_eq_true', decide_eq_false_iff_not, Nat.reduceAdd, Nat.zero_add, w_err, fnEnds, shaped_c0, shaped_c1, shaped_c2, shaped_c3, List.map_cons, List.map_nil, Bool.false_eq_true, reduceIte, decide_true, decide_false, Bool.not_eq_true, decide_not, Bool.not_not, ne_eq, Nat.reduceLeDiff, sizeBig, Int.reduceAbs, Int.reduceLE, Int.reduceLT, Int.reduceAdd, Int.reduceSub, Int.reduceMul, Int.reduceNeg, Int.reduceToNat, Int.reducePow, Int.reduceEq, Nat.reducePow, Nat.reduceLT, ofString_inj, String.reduceEq, shaped_lit, shaped_int, shaped_bool, shaped_none, sm_lt, mb_lit_l, mb_lit_r, ↓w_pick, ↓w_pickT, ↓w_draw, w_wipe0, w_wipe1, List.nil_append, List.cons_append, reduceCtorEq, Bool.true_eq_false, eq_self, not_true_eq_false, not_false_eq_true, List.any_cons, List.any_nil, Bool.or_false, Bool.false_or, Bool.or_true, Bool.true_or, Bool.and_true, Bool.true_and, Bool.and_false, Bool.false_and, ↓sp__law_draw, ↓sp__law_pick, gKw_0_ap, gKw_1_0_ap, eK]
      have e : eN (ScD.note es k) = .tuple [.int k.1, .int k.2.1, .int k.2.2, .int v] := by unfold eN ScD.note; rw [h1]; rfl
      rw [e] at hK
      exact hK
    · rw [List.filterMap_eq_map']
      simp only [↓w_seq, ↓w_set, ↓w_ret, ↓w_retN, ↓w_retV, ↓w_if, ↓w_drop, ↓w_asg, ↓w_par, ↓w_par3, ↓w_nx, ↓w_bk, ↓w_ct, ↓w_frz, ↓w_for, ↓w_app, ↓w_ext, ↓w_bin, ↓w_un, ↓w_var, ↓w_con, ↓w_callB, ↓w_nilU, ↓w_consU, ↓w_consS, ↓w_nilD, ↓w_consD, ↓w_consO, ↓w_tup, ↓w_lst, ↓w_dic0, ↓w_and, ↓w_or, ↓w_not, ↓w_ite, ↓w_chain, ↓w_isa, ↓w_fn, ↓w_fnK, ↓w_sl, ↓w_noO, ↓w_someO, ↓w_yes, ↓w_tst, ↓w_lc, ↓w_it, ↓w_enum, ↓w_zip, ↓w_rng1, ↓w_rng2, ↓w_never, ↓w_kNil, ↓w_kCons, ↓w_disp, ↓w_mg0, ↓w_mg1, ↓w_put0, ↓w_keyS, ↓w_keyI, ↓w_sset, ↓w_dicT, ↓w_inT, ↓w_ixT, ↓w_listT, ↓w_stoT, ↓w_stoU, ↓w_enDt, ↓w_onDt, ↓w_enOw, ↓w_onOw, ↓w_stoL, ↓w_stoD, ↓w_enZ, ↓g_min2, ↓g_minL, ↓g_minT, ↓g_max2, ↓g_maxL, ↓g_maxT, ↓g_sum, ↓g_all, ↓g_any, ↓v_use_d, ↓v_arg_d, ↓v_sto_d, ↓v_rd_d, ↓v_frz_d, ↓v_src_d, ↓v_use_own, ↓v_arg_own, ↓v_sto_own, ↓v_rd_own, ↓v_src_own, ↓v_use_bor, ↓v_arg_bor, ↓v_sto_bor, ↓v_rd_bor, ↓v_frz_bor, ↓v_src_bor, ↓v_use_scr, ↓v_arg_scr, ↓v_sto_scr, ↓v_rd_scr, ↓v_frz_scr, ↓v_src_scr, ↓v_use_box, ↓v_arg_box, ↓v_sto_box, ↓v_rd_box, ↓v_frz_box, ↓v_src_box, ↓v_bl, ↓v_frz_L, ↓v_frz_D, ↓v_frz_T, ↓v_rd_L, ↓v_rd_D, ↓v_dat_l, ↓v_dat_d, ↓v_onD, ↓v_onI, ↓v_onL, ↓v_on1, ↓v_on2, ↓v_on3, ↓v_all0, ↓v_all1, ↓v_seqL, ↓v_seqT, ↓v_gNm, ↓v_gNil, ↓v_gCons, ↓v_gTup, ↓g_add, ↓g_addS, ↓g_addT, ↓g_addL, ↓g_sub, ↓g_mul, ↓g_fdiv, ↓g_mod, ↓g_pow, ↓g_eq, ↓g_ne, ↓g_lt, ↓g_gt, ↓g_le, ↓g_ge, ↓g_ltT, ↓g_gtT, ↓g_leT, ↓g_geT, ↓g_inT, ↓g_inL, ↓g_is, ↓g_neg, ↓g_not, ↓g_lenL, ↓g_lenT, ↓g_lenD, ↓g_intI, ↓g_intB, ↓g_abs, ↓g_gcd, ↓g_repr, ↓g_listL, ↓g_listT, ↓g_tupL, ↓g_tupT, ↓g_ixL0, ↓g_ixL1, ↓g_ixL2, ↓g_ixL3, ↓g_ixT0, ↓g_ixT1, ↓g_ixT2, ↓g_ixT3, ↓g_ixL, ↓g_ixT, ↓g_slL, ↓g_slT, ↓g_revL, ↓g_revT, n_non, n_int, n_tup, n_str, n_bl, n_lst, ↓n_enLst, ↓n_onOwn, ↓en0, ↓enS, eqOk_int, eqOk_str, eqv_int, eqv_str, exists_eq_left', atI0, atI1, atI2, atI3, isa, Int.cast_ofNat_Int, List.length_cons, List.length_nil, List.set_cons_zero, List.set_cons_succ, Option.some.injEq, true_and, and_true, if_true, if_false, Bool.not_true, Bool.not_false, Bool.xor_false, Bool.false_xor, Bool.true_xor, decide_eq_true_eq, Bool.not_eq_true', decide_eq_false_iff_not, Nat.reduceAdd, Nat.zero_add, w_err, fnEnds, shaped_c0, shaped_c1, shaped_c2, shaped_c3, List.map_cons, List.map_nil, Bool.false_eq_true, reduceIte, decide_true, decide_false, Bool.not_eq_true, decide_not, Bool.not_not, ne_eq, Nat.reduceLeDiff, sizeBig, Int.reduceAbs, Int.reduceLE, Int.reduceLT, Int.reduceAdd, Int.reduceSub, Int.reduceMul, Int.reduceNeg, Int.reduceToNat, Int.reducePow, Int.reduceEq, Nat.reducePow, Nat.reduceLT, ofString_inj, String.reduceEq, shaped_lit, shaped_int, shaped_bool, shaped_none, sm_lt, mb_lit_l, mb_lit_r, ↓w_pick, ↓w_pickT, ↓w_draw, w_wipe0, w_wipe1, List.nil_append, List.cons_append, reduceCtorEq, Bool.true_eq_false, eq_self, not_true_eq_false, not_false_eq_true, List.any_cons, List.any_nil, Bool.or_false, Bool.false_or, Bool.or_true, Bool.true_or, Bool.and_true, Bool.true_and, Bool.and_false, Bool.false_and, ↓sp__law_draw, ↓sp__law_pick, gKw_0_ap, gKw_1_0_ap]
      have := q _ hes.scr
      rw [List.map_map] at this
      exact this
  · rintro i js env K hK ⟨es, last, x4, x5, x6, x7, rfl, hla, hj, hes⟩
    rw [List.length_cons] at hj hes
    simp only [d__law_score_L1, ↓w_seq, ↓w_set, ↓w_ret, ↓w_retN, ↓w_retV, ↓w_if, ↓w_drop, ↓w_asg, ↓w_par, ↓w_par3, ↓w_nx, ↓w_bk, ↓w_ct, ↓w_frz, ↓w_for, ↓w_app, ↓w_ext, ↓w_bin, ↓w_un, ↓w_var, ↓w_con, ↓w_callB, ↓w_nilU, ↓w_consU, ↓w_consS, ↓w_nilD, ↓w_consD, ↓w_consO, ↓w_tup, ↓w_lst, ↓w_dic0, ↓w_and, ↓w_or, ↓w_not, ↓w_ite, ↓w_chain, ↓w_isa, ↓w_fn, ↓w_fnK, ↓w_sl, ↓w_noO, ↓w_someO, ↓w_yes, ↓w_tst, ↓w_lc, ↓w_it, ↓w_enum, ↓w_zip, ↓w_rng1, ↓w_rng2, ↓w_never, ↓w_kNil, ↓w_kCons, ↓w_disp, ↓w_mg0, ↓w_mg1, ↓w_put0, ↓w_keyS, ↓w_keyI, ↓w_sset, ↓w_dicT, ↓w_inT, ↓w_ixT, ↓w_listT, ↓w_stoT, ↓w_stoU, ↓w_enDt, ↓w_onDt, ↓w_enOw, ↓w_onOw, ↓w_stoL, ↓w_stoD, ↓w_enZ, ↓g_min2, ↓g_minL, ↓g_minT, ↓g_max2, ↓g_maxL, ↓g_maxT, ↓g_sum, ↓g_all, ↓g_any, ↓v_use_d, ↓v_arg_d, ↓v_sto_d, ↓v_rd_d, ↓v_frz_d, ↓v_src_d, ↓v_use_own, ↓v_arg_own, ↓v_sto_own, ↓v_rd_own, ↓v_src_own, ↓v_use_bor, ↓v_arg_bor, ↓v_sto_bor, ↓v_rd_bor, ↓v_frz_bor, ↓v_src_bor, ↓v_use_scr, ↓v_arg_scr, ↓v_sto_scr, ↓v_rd_scr, ↓v_frz_scr, ↓v_src_scr, ↓v_use_box, ↓v_arg_box, ↓v_sto_box, ↓v_rd_box, ↓v_frz_box, ↓v_src_box, ↓v_bl, ↓v_frz_L, ↓v_frz_D, ↓v_frz_T, ↓v_rd_L, ↓v_rd_D, ↓v_dat_l, ↓v_dat_d, ↓v_onD, ↓v_onI, ↓v_onL, ↓v_on1, ↓v_on2, ↓v_on3, ↓v_all0, ↓v_all1, ↓v_seqL, ↓v_seqT, ↓v_gNm, ↓v_gNil, ↓v_gCons, ↓v_gTup, ↓g_add, ↓g_addS, ↓g_addT, ↓g_addL, ↓g_sub, ↓g_mul, ↓g_fdiv, ↓g_mod, ↓g_pow, ↓g_eq, ↓g_ne, ↓g_lt, ↓g_gt, ↓g_le, ↓g_ge, ↓g_ltT, ↓g_gtT, ↓g_leT, ↓g_geT, ↓g_inT, ↓g_inL, ↓g_is, ↓g_neg, ↓g_not, ↓g_lenL, ↓g_lenT, ↓g_lenD, ↓g_intI, ↓g_intB, ↓g_abs, ↓g_gcd, ↓g_repr, ↓g_listL, ↓g_listT, ↓g_tupL, ↓g_tupT, ↓g_ixL0, ↓g_ixL1, ↓g_ixL2, ↓g_ixL3, ↓g_ixT0, ↓g_ixT1, ↓g_ixT2, ↓g_ixT3, ↓g_ixL, ↓g_ixT, ↓g_slL, ↓g_slT, ↓g_revL, ↓g_revT, n_non, n_int, n_tup, n_str, n_bl, n_lst, ↓n_enLst, ↓n_onOwn, ↓en0, ↓enS, eqOk_int, eqOk_str, eqv_int, eqv_str, exists_eq_left', atI0, atI1, atI2, atI3, isa, Int.cast_ofNat_Int, List.length_cons, List.length_nil, List.set_cons_zero, List.set_cons_succ, Option.some.injEq, true_and, and_true, if_true, if_false, Bool.not_true, Bool.not_false, Bool.xor_false, Bool.false_xor, Bool.true_xor, decide_eq_true_eq, Bool.not_eq_true', decide_eq_false_iff_not, Nat.reduceAdd, Nat.zero_add, w_err, fnEnds, shaped_c0, shaped_c1, shaped_c2, shaped_c3, List.map_cons, List.map_nil, Bool.false_eq_true, reduceIte, decide_true, decide_false, Bool.not_eq_true, decide_not, Bool.not_not, ne_eq, Nat.reduceLeDiff, sizeBig, Int.reduceAbs, Int.reduceLE, Int.reduceLT, Int.reduceAdd, Int.reduceSub, Int.reduceMul, Int.reduceNeg, Int.reduceToNat, Int.reducePow, Int.reduceEq, Nat.reducePow, Nat.reduceLT, ofString_inj, String.reduceEq, shaped_lit, shaped_int, shaped_bool, shaped_none, sm_lt, mb_lit_l, mb_lit_r, ↓w_pick, ↓w_pickT, ↓w_draw, w_wipe0, w_wipe1, List.nil_append, List.cons_append, reduceCtorEq, Bool.true_eq_false, eq_self, not_true_eq_false, not_false_eq_true, List.any_cons, List.any_nil, Bool.or_false, Bool.false_or, Bool.or_true, Bool.true_or, Bool.and_true, Bool.true_and, Bool.and_false, Bool.false_and, ↓sp__law_draw, ↓sp__law_pick, gKw_0_ap, gKw_1_0_ap]
    refine ⟨rfl, fun fr hfr => ?_⟩
    have fin : ∀ (fr : Nt) (x6 : Option RV), fr.ok → d__law_score_L1_3 { nx := K, rt := Q, bk := d__law_score_3 (fnEnds Q Ex), ct := K, ex := fun e x => Ex e } [some .box, some (.d (.int (m : Int))), some (.own (.dtn (encA eK eI es))), some (.d (eN last)), some (.d (.int (i : Nat))), some (.d (eN fr)), x6, x7] := fun fr x6 hfr => by
      simp only [d__law_score_L1_3, ↓w_seq, ↓w_set, ↓w_ret, ↓w_retN, ↓w_retV, ↓w_if, ↓w_drop, ↓w_asg, ↓w_par, ↓w_par3, ↓w_nx, ↓w_bk, ↓w_ct, ↓w_frz, ↓w_for, ↓w_app, ↓w_ext, ↓w_bin, ↓w_un, ↓w_var, ↓w_con, ↓w_callB, ↓w_nilU, ↓w_consU, ↓w_consS, ↓w_nilD, ↓w_consD, ↓w_consO, ↓w_tup, ↓w_lst, ↓w_dic0, ↓w_and, ↓w_or, ↓w_not, ↓w_ite, ↓w_chain, ↓w_isa, ↓w_fn, ↓w_fnK, ↓w_sl, ↓w_noO, ↓w_someO, ↓w_yes, ↓w_tst, ↓w_lc, ↓w_it, ↓w_enum, ↓w_zip, ↓w_rng1, ↓w_rng2, ↓w_never, ↓w_kNil, ↓w_kCons, ↓w_disp, ↓w_mg0, ↓w_mg1, ↓w_put0, ↓w_keyS, ↓w_keyI, ↓w_sset, ↓w_dicT, ↓w_inT, ↓w_ixT, ↓w_listT, ↓w_stoT, ↓w_stoU, ↓w_enDt, ↓w_onDt, ↓w_enOw, ↓w_onOw, ↓w_stoL, ↓w_stoD, ↓w_enZ, ↓g_min2, ↓g_minL, ↓g_minT, ↓g_max2, ↓g_maxL, ↓g_maxT, ↓g_sum, ↓g_all, ↓g_any, ↓v_use_d, ↓v_arg_d, ↓v_sto_d, ↓v_rd_d, ↓v_frz_d, ↓v_src_d, ↓v_use_own, ↓v_arg_own, ↓v_sto_own, ↓v_rd_own, ↓v_src_own, ↓v_use_bor, ↓v_arg_bor, ↓v_sto_bor, ↓v_rd_bor, ↓v_frz_bor, ↓v_src_bor, ↓v_use_scr, ↓v_arg_scr, ↓v_sto_scr, ↓v_rd_scr, ↓v_frz_scr, ↓v_src_scr, ↓v_use_box, ↓v_arg_box, ↓v_sto_box, ↓v_rd_box, ↓v_frz_box, ↓v_src_box, ↓v_bl, ↓v_frz_L, ↓v_frz_D, ↓v_frz_T, ↓v_rd_L, ↓v_rd_D, ↓v_dat_l, ↓v_dat_d, ↓v_onD, ↓v_onI, ↓v_onL, ↓v_on1, ↓v_on2, ↓v_on3, ↓v_all0, ↓v_all1, ↓v_seqL, ↓v_seqT, ↓v_gNm, ↓v_gNil, ↓v_gCons, ↓v_gTup, ↓g_add, ↓g_addS, ↓g_addT, ↓g_addL, ↓g_sub, ↓g_mul, ↓g_fdiv, ↓g_mod, ↓g_pow, ↓g_eq, ↓g_ne, ↓g_lt, ↓g_gt, ↓g_le, ↓g_ge, ↓g_ltT, ↓g_gtT, ↓g_leT, ↓g_geT, ↓g_inT, ↓g_inL, ↓g_is, ↓g_neg, ↓g_not, ↓g_lenL, ↓g_lenT, ↓g_lenD, ↓g_intI, ↓g_intB, ↓g_abs, ↓g_gcd, ↓g_repr, ↓g_listL, ↓g_listT, ↓g_tupL, ↓g_tupT, ↓g_ixL0, ↓g_ixL1, ↓g_ixL2, ↓g_ixL3, ↓g_ixT0, ↓g_ixT1, ↓g_ixT2, ↓g_ixT3, ↓g_ixL, ↓g_ixT, ↓g_slL, ↓g_slT, ↓g_revL, ↓g_revT, n_non, n_int, n_tup, n_str, n_bl, n_lst, ↓n_enLst, ↓n_onOwn, ↓en0, ↓enS, eqOk_int, eqOk_str, eqv_int, eqv_str, exists_eq_left', atI0, atI1, atI2, atI3, isa, Int.cast_ofNat_Int, List.length_cons, List.length_nil, List.set_cons_zero, List.set_cons_succ, Option.some.injEq, true_and, and_true, if_true, if_false, Bool.not_true, Bool.not_false, Bool.xor_false, Bool.false_xor, Bool.true_xor, decide_eq_true_eq, Bool.not_eq_true', decide_eq_false_iff_not, Nat.reduceAdd, Nat.zero_add, w_err, fnEnds, shaped_c0, shaped_c1, shaped_c2, shaped_c3, List.map_cons, List.map_nil, Bool.false_eq_true, reduceIte, decide_true, decide_false, Bool.not_eq_true, decide_not, Bool.not_not, ne_eq, Nat.reduceLeDiff, sizeBig, Int.reduceAbs, Int.reduceLE, Int.reduceLT, Int.reduceAdd, Int.reduceSub, Int.reduceMul, Int.reduceNeg, Int.reduceToNat, Int.reducePow, Int.reduceEq, Nat.reducePow, Nat.reduceLT, ofString_inj, String.reduceEq, shaped_lit, shaped_int, shaped_bool, shaped_none, sm_lt, mb_lit_l, mb_lit_r, ↓w_pick, ↓w_pickT, ↓w_draw, w_wipe0, w_wipe1, List.nil_append, List.cons_append, reduceCtorEq, Bool.true_eq_false, eq_self, not_true_eq_false, not_false_eq_true, List.any_cons, List.any_nil, Bool.or_false, Bool.false_or, Bool.or_true, Bool.true_or, Bool.and_true, Bool.true_and, Bool.and_false, Bool.false_and, ↓sp__law_draw, ↓sp__law_pick, gKw_0_ap, gKw_1_0_ap]
      simp only [d__law_score_L1_4, ↓w_seq, ↓w_set, ↓w_ret, ↓w_retN, ↓w_retV, ↓w_if, ↓w_drop, ↓w_asg, ↓w_par, ↓w_par3, ↓w_nx, ↓w_bk, ↓w_ct, ↓w_frz, ↓w_for, ↓w_app, ↓w_ext, ↓w_bin, ↓w_un, ↓w_var, ↓w_con, ↓w_callB, ↓w_nilU, ↓w_consU, ↓w_consS, ↓w_nilD, ↓w_consD, ↓w_consO, ↓w_tup, ↓w_lst, ↓w_dic0, ↓w_and, ↓w_or, ↓w_not, ↓w_ite, ↓w_chain, ↓w_isa, ↓w_fn, ↓w_fnK, ↓w_sl, ↓w_noO, ↓w_someO, ↓w_yes, ↓w_tst, ↓w_lc, ↓w_it, ↓w_enum, ↓w_zip, ↓w_rng1, ↓w_rng2, ↓w_never, ↓w_kNil, ↓w_kCons, ↓w_disp, ↓w_mg0, ↓w_mg1, ↓w_put0, ↓w_keyS, ↓w_keyI, ↓w_sset, ↓w_dicT, ↓w_inT, ↓w_ixT, ↓w_listT, ↓w_stoT, ↓w_stoU, ↓w_enDt, ↓w_onDt, ↓w_enOw, ↓w_onOw, ↓w_stoL, ↓w_stoD, ↓w_enZ, ↓g_min2, ↓g_minL, ↓g_minT, ↓g_max2, ↓g_maxL, ↓g_maxT, ↓g_sum, ↓g_all, ↓g_any, ↓v_use_d, ↓v_arg_d, ↓v_sto_d, ↓v_rd_d, ↓v_frz_d, ↓v_src_d, ↓v_use_own, ↓v_arg_own, ↓v_sto_own, ↓v_rd_own, ↓v_src_own, ↓v_use_bor, ↓v_arg_bor, ↓v_sto_bor, ↓v_rd_bor, ↓v_frz_bor, ↓v_src_bor, ↓v_use_scr, ↓v_arg_scr, ↓v_sto_scr, ↓v_rd_scr, ↓v_frz_scr, ↓v_src_scr, ↓v_use_box, ↓v_arg_box, ↓v_sto_box, ↓v_rd_box, ↓v_frz_box, ↓v_src_box, ↓v_bl, ↓v_frz_L, ↓v_frz_D, ↓v_frz_T, ↓v_rd_L, ↓v_rd_D, ↓v_dat_l, ↓v_dat_d, ↓v_onD, ↓v_onI, ↓v_onL, ↓v_on1, ↓v_on2, ↓v_on3, ↓v_all0, ↓v_all1, ↓v_seqL, ↓v_seqT, ↓v_gNm, ↓v_gNil, ↓v_gCons, ↓v_gTup, ↓g_add, ↓g_addS, ↓g_addT, ↓g_addL, ↓g_sub, ↓g_mul, ↓g_fdiv, ↓g_mod, ↓g_pow, ↓g_eq, ↓g_ne, ↓g_lt, ↓g_gt, ↓g_le, ↓g_ge, ↓g_ltT, ↓g_gtT, ↓g_leT, ↓g_geT, ↓g_inT, ↓g_inL, ↓g_is, ↓g_neg, ↓g_not, ↓g_lenL, ↓g_lenT, ↓g_lenD, ↓g_intI, ↓g_intB, ↓g_abs, ↓g_gcd, ↓g_repr, ↓g_listL, ↓g_listT, ↓g_tupL, ↓g_tupT, ↓g_ixL0, ↓g_ixL1, ↓g_ixL2, ↓g_ixL3, ↓g_ixT0, ↓g_ixT1, ↓g_ixT2, ↓g_ixT3, ↓g_ixL, ↓g_ixT, ↓g_slL, ↓g_slT, ↓g_revL, ↓g_revT, n_non, n_int, n_tup, n_str, n_bl, n_lst, ↓n_enLst, ↓n_onOwn, ↓en0, ↓enS, eqOk_int, eqOk_str, eqv_int, eqv_str, exists_eq_left', atI0, atI1, atI2, atI3, isa, Int.cast_ofNat_Int, List.length_cons, List.length_nil, List.set_cons_zero, List.set_cons_succ, Option.some.injEq, true_and, and_true, if_true, if_false, Bool.not_true, Bool.not_false, Bool.xor_false, Bool.false_xor, Bool.true_xor, decide_eq_true_eq, Bool.not_eq_true', decide_eq_false_iff_not, Nat.reduceAdd, Nat.zero_add, w_err, fnEnds, shaped_c0, shaped_c1, shaped_c2, shaped_c3, List.map_cons, List.map_nil, Bool.false_eq_true, reduceIte, decide_true, decide_false, Bool.not_eq_true, decide_not, Bool.not_not, ne_eq, Nat.reduceLeDiff, sizeBig, Int.reduceAbs, Int.reduceLE, Int.reduceLT, Int.reduceAdd, Int.reduceSub, Int.reduceMul, Int.reduceNeg, Int.reduceToNat, Int.reducePow, Int.reduceEq, Nat.reducePow, Nat.reduceLT, ofString_inj, String.reduceEq, shaped_lit, shaped_int, shaped_bool, shaped_none, sm_lt, mb_lit_l, mb_lit_r, ↓w_pick, ↓w_pickT, ↓w_draw, w_wipe0, w_wipe1, List.nil_append, List.cons_append, reduceCtorEq, Bool.true_eq_false, eq_self, not_true_eq_false, not_false_eq_true, List.any_cons, List.any_nil, Bool.or_false, Bool.false_or, Bool.or_true, Bool.true_or, Bool.and_true, Bool.true_and, Bool.and_false, Bool.false_and, ↓sp__law_draw, ↓sp__law_pick, gKw_0_ap, gKw_1_0_ap, eN, cutT0, cutT1, cutT2, cutT3, cutT4, cutF0, cutF1, cutF2, cutF3, cutF4, List.take_succ_cons, List.take_zero, List.take_nil, List.drop_succ_cons, List.drop_zero, List.drop_nil]
      have e : PyData.tuple [.int fr.o, .int fr.p, .int fr.v] = eK fr.k := rfl
      rw [e]
      refine ⟨nk_K _, by unfold encA; rw [List.length_map]; have := hes.len; omega, ?_⟩
      have e2 : putT (encA eK eI es) (eK fr.k) (.int fr.l) = encA eK eI (putA es fr.k fr.l) := put_enc (g := eI) nk_K_inj es fr.k fr.l
      rw [e2]
      refine hK _ ⟨_, fr, _, _, _, _, rfl, hfr, by omega, ?_⟩
      have := hes.put hfr
      rw [show m - (js.length + 1) + 1 = m - js.length by omega] at this
      exact this
    simp only [d__law_score_L1_2, ↓w_seq, ↓w_set, ↓w_ret, ↓w_retN, ↓w_retV, ↓w_if, ↓w_drop, ↓w_asg, ↓w_par, ↓w_par3, ↓w_nx, ↓w_bk, ↓w_ct, ↓w_frz, ↓w_for, ↓w_app, ↓w_ext, ↓w_bin, ↓w_un, ↓w_var, ↓w_con, ↓w_callB, ↓w_nilU, ↓w_consU, ↓w_consS, ↓w_nilD, ↓w_consD, ↓w_consO, ↓w_tup, ↓w_lst, ↓w_dic0, ↓w_and, ↓w_or, ↓w_not, ↓w_ite, ↓w_chain, ↓w_isa, ↓w_fn, ↓w_fnK, ↓w_sl, ↓w_noO, ↓w_someO, ↓w_yes, ↓w_tst, ↓w_lc, ↓w_it, ↓w_enum, ↓w_zip, ↓w_rng1, ↓w_rng2, ↓w_never, ↓w_kNil, ↓w_kCons, ↓w_disp, ↓w_mg0, ↓w_mg1, ↓w_put0, ↓w_keyS, ↓w_keyI, ↓w_sset, ↓w_dicT, ↓w_inT, ↓w_ixT, ↓w_listT, ↓w_stoT, ↓w_stoU, ↓w_enDt, ↓w_onDt, ↓w_enOw, ↓w_onOw, ↓w_stoL, ↓w_stoD, ↓w_enZ, ↓g_min2, ↓g_minL, ↓g_minT, ↓g_max2, ↓g_maxL, ↓g_maxT, ↓g_sum, ↓g_all, ↓g_any, ↓v_use_d, ↓v_arg_d, ↓v_sto_d, ↓v_rd_d, ↓v_frz_d, ↓v_src_d, ↓v_use_own, ↓v_arg_own, ↓v_sto_own, ↓v_rd_own, ↓v_src_own, ↓v_use_bor, ↓v_arg_bor, ↓v_sto_bor, ↓v_rd_bor, ↓v_frz_bor, ↓v_src_bor, ↓v_use_scr, ↓v_arg_scr, ↓v_sto_scr, ↓v_rd_scr, ↓v_frz_scr, ↓v_src_scr, ↓v_use_box, ↓v_arg_box, ↓v_sto_box, ↓v_rd_box, ↓v_frz_box, ↓v_src_box, ↓v_bl, ↓v_frz_L, ↓v_frz_D, ↓v_frz_T, ↓v_rd_L, ↓v_rd_D, ↓v_dat_l, ↓v_dat_d, ↓v_onD, ↓v_onI, ↓v_onL, ↓v_on1, ↓v_on2, ↓v_on3, ↓v_all0, ↓v_all1, ↓v_seqL, ↓v_seqT, ↓v_gNm, ↓v_gNil, ↓v_gCons, ↓v_gTup, ↓g_add, ↓g_addS, ↓g_addT, ↓g_addL, ↓g_sub, ↓g_mul, ↓g_fdiv, ↓g_mod, ↓g_pow, ↓g_eq, ↓g_ne, ↓g_lt, ↓g_gt, ↓g_le, ↓g_ge, ↓g_ltT, ↓g_gtT, ↓g_leT, ↓g_geT, ↓g_inT, ↓g_inL, ↓g_is, ↓g_neg, ↓g_not, ↓g_lenL, ↓g_lenT, ↓g_lenD, ↓g_intI, ↓g_intB, ↓g_abs, ↓g_gcd, ↓g_repr, ↓g_listL, ↓g_listT, ↓g_tupL, ↓g_tupT, ↓g_ixL0, ↓g_ixL1, ↓g_ixL2, ↓g_ixL3, ↓g_ixT0, ↓g_ixT1, ↓g_ixT2, ↓g_ixT3, ↓g_ixL, ↓g_ixT, ↓g_slL, ↓g_slT, ↓g_revL, ↓g_revT, n_non, n_int, n_tup, n_str, n_bl, n_lst, ↓n_enLst, ↓n_onOwn, ↓en0, ↓enS, eqOk_int, eqOk_str, eqv_int, eqv_str, exists_eq_left', atI0, atI1, atI2, atI3, isa, Int.cast_ofNat_Int, List.length_cons, List.length_nil, List.set_cons_zero, List.set_cons_succ, Option.some.injEq, true_and, and_true, if_true, if_false, Bool.not_true, Bool.not_false, Bool.xor_false, Bool.false_xor, Bool.true_xor, decide_eq_true_eq, Bool.not_eq_true', decide_eq_false_iff_not, Nat.reduceAdd, Nat.zero_add, w_err, fnEnds, shaped_c0, shaped_c1, shaped_c2, shaped_c3, List.map_cons, List.map_nil, Bool.false_eq_true, reduceIte, decide_true, decide_false, Bool.not_eq_true, decide_not, Bool.not_not, ne_eq, Nat.reduceLeDiff, sizeBig, Int.reduceAbs, Int.reduceLE, Int.reduceLT, Int.reduceAdd, Int.reduceSub, Int.reduceMul, Int.reduceNeg, Int.reduceToNat, Int.reducePow, Int.reduceEq, Nat.reducePow, Nat.reduceLT, ofString_inj, String.reduceEq, shaped_lit, shaped_int, shaped_bool, shaped_none, sm_lt, mb_lit_l, mb_lit_r, ↓w_pick, ↓w_pickT, ↓w_draw, w_wipe0, w_wipe1, List.nil_append, List.cons_append, reduceCtorEq, Bool.true_eq_false, eq_self, not_true_eq_false, not_false_eq_true, List.any_cons, List.any_nil, Bool.or_false, Bool.false_or, Bool.or_true, Bool.true_or, Bool.and_true, Bool.true_and, Bool.and_false, Bool.false_and, ↓sp__law_draw, ↓sp__law_pick, gKw_0_ap, gKw_1_0_ap]
    intro r r0 r1
    split
    · intro s s0 s1
      obtain ⟨a1, a2, b1, b2, c1, c2, d1, d2⟩ := hla
      obtain ⟨e1, e2, f1, f2, g1, g2, h1, h2⟩ := hfr
      have sp : ∀ s : Int, 0 ≤ s → s < 3 → s = 0 ∨ s = 1 ∨ s = 2 := fun s h1 h2 => by omega
      rcases sp s s0 s1 with rfl | rfl | rfl
      · have e : cutD [PyData.int fr.o, .int fr.p, .int fr.v, .int fr.l] (some 0) (some 1) = [.int fr.o] := rfl
        simp only [d__law_score_I1_2, ↓w_seq, ↓w_set, ↓w_ret, ↓w_retN, ↓w_retV, ↓w_if, ↓w_drop, ↓w_asg, ↓w_par, ↓w_par3, ↓w_nx, ↓w_bk, ↓w_ct, ↓w_frz, ↓w_for, ↓w_app, ↓w_ext, ↓w_bin, ↓w_un, ↓w_var, ↓w_con, ↓w_callB, ↓w_nilU, ↓w_consU, ↓w_consS, ↓w_nilD, ↓w_consD, ↓w_consO, ↓w_tup, ↓w_lst, ↓w_dic0, ↓w_and, ↓w_or, ↓w_not, ↓w_ite, ↓w_chain, ↓w_isa, ↓w_fn, ↓w_fnK, ↓w_sl, ↓w_noO, ↓w_someO, ↓w_yes, ↓w_tst, ↓w_lc, ↓w_it, ↓w_enum, ↓w_zip, ↓w_rng1, ↓w_rng2, ↓w_never, ↓w_kNil, ↓w_kCons, ↓w_disp, ↓w_mg0, ↓w_mg1, ↓w_put0, ↓w_keyS, ↓w_keyI, ↓w_sset, ↓w_dicT, ↓w_inT, ↓w_ixT, ↓w_listT, ↓w_stoT, ↓w_stoU, ↓w_enDt, ↓w_onDt, ↓w_enOw, ↓w_onOw, ↓w_stoL, ↓w_stoD, ↓w_enZ, ↓g_min2, ↓g_minL, ↓g_minT, ↓g_max2, ↓g_maxL, ↓g_maxT, ↓g_sum, ↓g_all, ↓g_any, ↓v_use_d, ↓v_arg_d, ↓v_sto_d, ↓v_rd_d, ↓v_frz_d, ↓v_src_d, ↓v_use_own, ↓v_arg_own, ↓v_sto_own, ↓v_rd_own, ↓v_src_own, ↓v_use_bor, ↓v_arg_bor, ↓v_sto_bor, ↓v_rd_bor, ↓v_frz_bor, ↓v_src_bor, ↓v_use_scr, ↓v_arg_scr, ↓v_sto_scr, ↓v_rd_scr, ↓v_frz_scr, ↓v_src_scr, ↓v_use_box, ↓v_arg_box, ↓v_sto_box, ↓v_rd_box, ↓v_frz_box, ↓v_src_box, ↓v_bl, ↓v_frz_L, ↓v_frz_D, ↓v_frz_T, ↓v_rd_L, ↓v_rd_D, ↓v_dat_l, ↓v_dat_d, ↓v_onD, ↓v_onI, ↓v_onL, ↓v_on1, ↓v_on2, ↓v_on3, ↓v_all0, ↓v_all1, ↓v_seqL, ↓v_seqT, ↓v_gNm, ↓v_gNil, ↓v_gCons, ↓v_gTup, ↓g_add, ↓g_addS, ↓g_addT, ↓g_addL, ↓g_sub, ↓g_mul, ↓g_fdiv, ↓g_mod, ↓g_pow, ↓g_eq, ↓g_ne, ↓g_lt, ↓g_gt, ↓g_le, ↓g_ge, ↓g_ltT, ↓g_gtT, ↓g_leT, ↓g_geT, ↓g_inT, ↓g_inL, ↓g_is, ↓g_neg, ↓g_not, ↓g_lenL, ↓g_lenT, ↓g_lenD, ↓g_intI, ↓g_intB, ↓g_abs, ↓g_gcd, ↓g_repr, ↓g_listL, ↓g_listT, ↓g_tupL, ↓g_tupT, ↓g_ixL0, ↓g_ixL1, ↓g_ixL2, ↓g_ixL3, ↓g_ixT0, ↓g_ixT1, ↓g_ixT2, ↓g_ixT3, ↓g_ixL, ↓g_ixT, ↓g_slL, ↓g_slT, ↓g_revL, ↓g_revT, n_non, n_int, n_tup, n_str, n_bl, n_lst, ↓n_enLst, ↓n_onOwn, ↓en0, ↓enS, eqOk_int, eqOk_str, eqv_int, eqv_str, exists_eq_left', atI0, atI1, atI2, atI3, isa, Int.cast_ofNat_Int, List.length_cons, List.length_nil, List.set_cons_zero, List.set_cons_succ, Option.some.injEq, true_and, and_true, if_true, if_false, Bool.not_true, Bool.not_false, Bool.xor_false, Bool.false_xor, Bool.true_xor, decide_eq_true_eq, Bool.not_eq_true', decide_eq_false_iff_not, Nat.reduceAdd, Nat.zero_add, w_err, fnEnds, shaped_c0, shaped_c1, shaped_c2, shaped_c3, List.map_cons, List.map_nil, Bool.false_eq_true, reduceIte, decide_true, decide_false, Bool.not_eq_true, decide_not, Bool.not_not, ne_eq, Nat.reduceLeDiff, sizeBig, Int.reduceAbs, Int.reduceLE, Int.reduceLT, Int.reduceAdd, Int.reduceSub, Int.reduceMul, Int.reduceNeg, Int.reduceToNat, Int.reducePow, Int.reduceEq, Nat.reducePow, Nat.reduceLT, ofString_inj, String.reduceEq, shaped_lit, shaped_int, shaped_bool, shaped_none, sm_lt, mb_lit_l, mb_lit_r, ↓w_pick, ↓w_pickT, ↓w_draw, w_wipe0, w_wipe1, List.nil_append, List.cons_append, reduceCtorEq, Bool.true_eq_false, eq_self, not_true_eq_false, not_false_eq_true, List.any_cons, List.any_nil, Bool.or_false, Bool.false_or, Bool.or_true, Bool.true_or, Bool.and_true, Bool.true_and, Bool.and_false, Bool.false_and, ↓sp__law_draw, ↓sp__law_pick, gKw_0_ap, gKw_1_0_ap, eN, cutT0, cutT1, cutT2, cutT3, cutT4, cutF0, cutF1, cutF2, cutF3, cutF4, List.take_succ_cons, List.take_zero, List.take_nil, List.drop_succ_cons, List.drop_zero, List.drop_nil, e]
        exact fin ⟨fr.o, last.p, last.v, last.l⟩ _ ⟨e1, e2, b1, b2, c1, c2, d1, d2⟩
      · have e : cutD [PyData.int fr.o, .int fr.p, .int fr.v, .int fr.l] (some 1) (some 2) = [.int fr.p] := rfl
        simp only [d__law_score_I1_2, ↓w_seq, ↓w_set, ↓w_ret, ↓w_retN, ↓w_retV, ↓w_if, ↓w_drop, ↓w_asg, ↓w_par, ↓w_par3, ↓w_nx, ↓w_bk, ↓w_ct, ↓w_frz, ↓w_for, ↓w_app, ↓w_ext, ↓w_bin, ↓w_un, ↓w_var, ↓w_con, ↓w_callB, ↓w_nilU, ↓w_consU, ↓w_consS, ↓w_nilD, ↓w_consD, ↓w_consO, ↓w_tup, ↓w_lst, ↓w_dic0, ↓w_and, ↓w_or, ↓w_not, ↓w_ite, ↓w_chain, ↓w_isa, ↓w_fn, ↓w_fnK, ↓w_sl, ↓w_noO, ↓w_someO, ↓w_yes, ↓w_tst, ↓w_lc, ↓w_it, ↓w_enum, ↓w_zip, ↓w_rng1, ↓w_rng2, ↓w_never, ↓w_kNil, ↓w_kCons, ↓w_disp, ↓w_mg0, ↓w_mg1, ↓w_put0, ↓w_keyS, ↓w_keyI, ↓w_sset, ↓w_dicT, ↓w_inT, ↓w_ixT, ↓w_listT, ↓w_stoT, ↓w_stoU, ↓w_enDt, ↓w_onDt, ↓w_enOw, ↓w_onOw, ↓w_stoL, ↓w_stoD, ↓w_enZ, ↓g_min2, ↓g_minL, ↓g_minT, ↓g_max2, ↓g_maxL, ↓g_maxT, ↓g_sum, ↓g_all, ↓g_any, ↓v_use_d, ↓v_arg_d, ↓v_sto_d, ↓v_rd_d, ↓v_frz_d, ↓v_src_d, ↓v_use_own, ↓v_arg_own, ↓v_sto_own, ↓v_rd_own, ↓v_src_own, ↓v_use_bor, ↓v_arg_bor, ↓v_sto_bor, ↓v_rd_bor, ↓v_frz_bor, ↓v_src_bor, ↓v_use_scr, ↓v_arg_scr, ↓v_sto_scr, ↓v_rd_scr, ↓v_frz_scr, ↓v_src_scr, ↓v_use_box, ↓v_arg_box, ↓v_sto_box, ↓v_rd_box, ↓v_frz_box, ↓v_src_box, ↓v_bl, ↓v_frz_L, ↓v_frz_D, ↓v_frz_T, ↓v_rd_L, ↓v_rd_D, ↓v_dat_l, ↓v_dat_d, ↓v_onD, ↓v_onI, ↓v_onL, ↓v_on1, ↓v_on2, ↓v_on3, ↓v_all0, ↓v_all1, ↓v_seqL, ↓v_seqT, ↓v_gNm, ↓v_gNil, ↓v_gCons, ↓v_gTup, ↓g_add, ↓g_addS, ↓g_addT, ↓g_addL, ↓g_sub, ↓g_mul, ↓g_fdiv, ↓g_mod, ↓g_pow, ↓g_eq, ↓g_ne, ↓g_lt, ↓g_gt, ↓g_le, ↓g_ge, ↓g_ltT, ↓g_gtT, ↓g_leT, ↓g_geT, ↓g_inT, ↓g_inL, ↓g_is, ↓g_neg, ↓g_not, ↓g_lenL, ↓g_lenT, ↓g_lenD, ↓g_intI, ↓g_intB, ↓g_abs, ↓g_gcd, ↓g_repr, ↓g_listL, ↓g_listT, ↓g_tupL, ↓g_tupT, ↓g_ixL0, ↓g_ixL1, ↓g_ixL2, ↓g_ixL3, ↓g_ixT0, ↓g_ixT1, ↓g_ixT2, ↓g_ixT3, ↓g_ixL, ↓g_ixT, ↓g_slL, ↓g_slT, ↓g_revL, ↓g_revT, n_non, n_int, n_tup, n_str, n_bl, n_lst, ↓n_enLst, ↓n_onOwn, ↓en0, ↓enS, eqOk_int, eqOk_str, eqv_int, eqv_str, exists_eq_left', atI0, atI1, atI2, atI3, isa, Int.cast_ofNat_Int, List.length_cons, List.length_nil, List.set_cons_zero, List.set_cons_succ, Option.some.injEq, true_and, and_true, if_true, if_false, Bool.not_true, Bool.not_false, Bool.xor_false, Bool.false_xor, Bool.true_xor, decide_eq_true_eq, Bool.not_eq_true', decide_eq_false_iff_not, Nat.reduceAdd, Nat.zero_add, w_err, fnEnds, shaped_c0, shaped_c1, shaped_c2, shaped_c3, List.map_cons, List.map_nil, Bool.false_eq_true, reduceIte, decide_true, decide_false, Bool.not_eq_true, decide_not, Bool.not_not, ne_eq, Nat.reduceLeDiff, sizeBig, Int.reduceAbs, Int.reduceLE, Int.reduceLT, Int.reduceAdd, Int.reduceSub, Int.reduceMul, Int.reduceNeg, Int.reduceToNat, Int.reducePow, Int.reduceEq, Nat.reducePow, Nat.reduceLT, ofString_inj, String.reduceEq, shaped_lit, shaped_int, shaped_bool, shaped_none, sm_lt, mb_lit_l, mb_lit_r, ↓w_pick, ↓w_pickT, ↓w_draw, w_wipe0, w_wipe1, List.nil_append, List.cons_append, reduceCtorEq, Bool.true_eq_false, eq_self, not_true_eq_false, not_false_eq_true, List.any_cons, List.any_nil, Bool.or_false, Bool.false_or, Bool.or_true, Bool.true_or, Bool.and_true, Bool.true_and, Bool.and_false, Bool.false_and, ↓sp__law_draw, ↓sp__law_pick, gKw_0_ap, gKw_1_0_ap, eN, cutT0, cutT1, cutT2, cutT3, cutT4, cutF0, cutF1, cutF2, cutF3, cutF4, List.take_succ_cons, List.take_zero, List.take_nil, List.drop_succ_cons, List.drop_zero, List.drop_nil, e]
        exact fin ⟨last.o, fr.p, last.v, last.l⟩ _ ⟨a1, a2, f1, f2, c1, c2, d1, d2⟩
      · have e : cutD [PyData.int fr.o, .int fr.p, .int fr.v, .int fr.l] (some 2) (some 3) = [.int fr.v] := rfl
        simp only [d__law_score_I1_2, ↓w_seq, ↓w_set, ↓w_ret, ↓w_retN, ↓w_retV, ↓w_if, ↓w_drop, ↓w_asg, ↓w_par, ↓w_par3, ↓w_nx, ↓w_bk, ↓w_ct, ↓w_frz, ↓w_for, ↓w_app, ↓w_ext, ↓w_bin, ↓w_un, ↓w_var, ↓w_con, ↓w_callB, ↓w_nilU, ↓w_consU, ↓w_consS, ↓w_nilD, ↓w_consD, ↓w_consO, ↓w_tup, ↓w_lst, ↓w_dic0, ↓w_and, ↓w_or, ↓w_not, ↓w_ite, ↓w_chain, ↓w_isa, ↓w_fn, ↓w_fnK, ↓w_sl, ↓w_noO, ↓w_someO, ↓w_yes, ↓w_tst, ↓w_lc, ↓w_it, ↓w_enum, ↓w_zip, ↓w_rng1, ↓w_rng2, ↓w_never, ↓w_kNil, ↓w_kCons, ↓w_disp, ↓w_mg0, ↓w_mg1, ↓w_put0, ↓w_keyS, ↓w_keyI, ↓w_sset, ↓w_dicT, ↓w_inT, ↓w_ixT, ↓w_listT, ↓w_stoT, ↓w_stoU, ↓w_enDt, ↓w_onDt, ↓w_enOw, ↓w_onOw, ↓w_stoL, ↓w_stoD, ↓w_enZ, ↓g_min2, ↓g_minL, ↓g_minT, ↓g_max2, ↓g_maxL, ↓g_maxT, ↓g_sum, ↓g_all, ↓g_any, ↓v_use_d, ↓v_arg_d, ↓v_sto_d, ↓v_rd_d, ↓v_frz_d, ↓v_src_d, ↓v_use_own, ↓v_arg_own, ↓v_sto_own, ↓v_rd_own, ↓v_src_own, ↓v_use_bor, ↓v_arg_bor, ↓v_sto_bor, ↓v_rd_bor, ↓v_frz_bor, ↓v_src_bor, ↓v_use_scr, ↓v_arg_scr, ↓v_sto_scr, ↓v_rd_scr, ↓v_frz_scr, ↓v_src_scr, ↓v_use_box, ↓v_arg_box, ↓v_sto_box, ↓v_rd_box, ↓v_frz_box, ↓v_src_box, ↓v_bl, ↓v_frz_L, ↓v_frz_D, ↓v_frz_T, ↓v_rd_L, ↓v_rd_D, ↓v_dat_l, ↓v_dat_d, ↓v_onD, ↓v_onI, ↓v_onL, ↓v_on1, ↓v_on2, ↓v_on3, ↓v_all0, ↓v_all1, ↓v_seqL, ↓v_seqT, ↓v_gNm, ↓v_gNil, ↓v_gCons, ↓v_gTup, ↓g_add, ↓g_addS, ↓g_addT, ↓g_addL, ↓g_sub, ↓g_mul, ↓g_fdiv, ↓g_mod, ↓g_pow, ↓g_eq, ↓g_ne, ↓g_lt, ↓g_gt, ↓g_le, ↓g_ge, ↓g_ltT, ↓g_gtT, ↓g_leT, ↓g_geT, ↓g_inT, ↓g_inL, ↓g_is, ↓g_neg, ↓g_not, ↓g_lenL, ↓g_lenT, ↓g_lenD, ↓g_intI, ↓g_intB, ↓g_abs, ↓g_gcd, ↓g_repr, ↓g_listL, ↓g_listT, ↓g_tupL, ↓g_tupT, ↓g_ixL0, ↓g_ixL1, ↓g_ixL2, ↓g_ixL3, ↓g_ixT0, ↓g_ixT1, ↓g_ixT2, ↓g_ixT3, ↓g_ixL, ↓g_ixT, ↓g_slL, ↓g_slT, ↓g_revL, ↓g_revT, n_non, n_int, n_tup, n_str, n_bl, n_lst, ↓n_enLst, ↓n_onOwn, ↓en0, ↓enS, eqOk_int, eqOk_str, eqv_int, eqv_str, exists_eq_left', atI0, atI1, atI2, atI3, isa, Int.cast_ofNat_Int, List.length_cons, List.length_nil, List.set_cons_zero, List.set_cons_succ, Option.some.injEq, true_and, and_true, if_true, if_false, Bool.not_true, Bool.not_false, Bool.xor_false, Bool.false_xor, Bool.true_xor, decide_eq_true_eq, Bool.not_eq_true', decide_eq_false_iff_not, Nat.reduceAdd, Nat.zero_add, w_err, fnEnds, shaped_c0, shaped_c1, shaped_c2, shaped_c3, List.map_cons, List.map_nil, Bool.false_eq_true, reduceIte, decide_true, decide_false, Bool.not_eq_true, decide_not, Bool.not_not, ne_eq, Nat.reduceLeDiff, sizeBig, Int.reduceAbs, Int.reduceLE, Int.reduceLT, Int.reduceAdd, Int.reduceSub, Int.reduceMul, Int.reduceNeg, Int.reduceToNat, Int.reducePow, Int.reduceEq, Nat.reducePow, Nat.reduceLT, ofString_inj, String.reduceEq, shaped_lit, shaped_int, shaped_bool, shaped_none, sm_lt, mb_lit_l, mb_lit_r, ↓w_pick, ↓w_pickT, ↓w_draw, w_wipe0, w_wipe1, List.nil_append, List.cons_append, reduceCtorEq, Bool.true_eq_false, eq_self, not_true_eq_false, not_false_eq_true, List.any_cons, List.any_nil, Bool.or_false, Bool.false_or, Bool.or_true, Bool.true_or, Bool.and_true, Bool.true_and, Bool.and_false, Bool.false_and, ↓sp__law_draw, ↓sp__law_pick, gKw_0_ap, gKw_1_0_ap, eN, cutT0, cutT1, cutT2, cutT3, cutT4, cutF0, cutF1, cutF2, cutF3, cutF4, List.take_succ_cons, List.take_zero, List.take_nil, List.drop_succ_cons, List.drop_zero, List.drop_nil, e]
        exact fin ⟨last.o, last.p, fr.v, last.l⟩ _ ⟨a1, a2, b1, b2, g1, g2, d1, d2⟩
    · exact fin _ _ hfr


theorem h_law : d_law lawEnds (lawEnv 6) := by
  show d_law lawEnds [none, some .box, none, none, none, none]
  simp only [d_law, ↓w_seq, ↓w_set, ↓w_ret, ↓w_retN, ↓w_retV, ↓w_if, ↓w_drop, ↓w_asg, ↓w_par, ↓w_par3, ↓w_nx, ↓w_bk, ↓w_ct, ↓w_frz, ↓w_for, ↓w_app, ↓w_ext, ↓w_bin, ↓w_un, ↓w_var, ↓w_con, ↓w_callB, ↓w_nilU, ↓w_consU, ↓w_consS, ↓w_nilD, ↓w_consD, ↓w_consO, ↓w_tup, ↓w_lst, ↓w_dic0, ↓w_and, ↓w_or, ↓w_not, ↓w_ite, ↓w_chain, ↓w_isa, ↓w_fn, ↓w_fnK, ↓w_sl, ↓w_noO, ↓w_someO, ↓w_yes, ↓w_tst, ↓w_lc, ↓w_it, ↓w_enum, ↓w_zip, ↓w_rng1, ↓w_rng2, ↓w_never, ↓w_kNil, ↓w_kCons, ↓w_disp, ↓w_mg0, ↓w_mg1, ↓w_put0, ↓w_keyS, ↓w_keyI, ↓w_sset, ↓w_dicT, ↓w_inT, ↓w_ixT, ↓w_listT, ↓w_stoT, ↓w_stoU, ↓w_enDt, ↓w_onDt, ↓w_enOw, ↓w_onOw, ↓w_stoL, ↓w_stoD, ↓w_enZ, ↓g_min2, ↓g_minL, ↓g_minT, ↓g_max2, ↓g_maxL, ↓g_maxT, ↓g_sum, ↓g_all, ↓g_any, ↓v_use_d, ↓v_arg_d, ↓v_sto_d, ↓v_rd_d, ↓v_frz_d, ↓v_src_d, ↓v_use_own, ↓v_arg_own, ↓v_sto_own, ↓v_rd_own, ↓v_src_own, ↓v_use_bor, ↓v_arg_bor, ↓v_sto_bor, ↓v_rd_bor, ↓v_frz_bor, ↓v_src_bor, ↓v_use_scr, ↓v_arg_scr, ↓v_sto_scr, ↓v_rd_scr, ↓v_frz_scr, ↓v_src_scr, ↓v_use_box, ↓v_arg_box, ↓v_sto_box, ↓v_rd_box, ↓v_frz_box, ↓v_src_box, ↓v_bl, ↓v_frz_L, ↓v_frz_D, ↓v_frz_T, ↓v_rd_L, ↓v_rd_D, ↓v_dat_l, ↓v_dat_d, ↓v_onD, ↓v_onI, ↓v_onL, ↓v_on1, ↓v_on2, ↓v_on3, ↓v_all0, ↓v_all1, ↓v_seqL, ↓v_seqT, ↓v_gNm, ↓v_gNil, ↓v_gCons, ↓v_gTup, ↓g_add, ↓g_addS, ↓g_addT, ↓g_addL, ↓g_sub, ↓g_mul, ↓g_fdiv, ↓g_mod, ↓g_pow, ↓g_eq, ↓g_ne, ↓g_lt, ↓g_gt, ↓g_le, ↓g_ge, ↓g_ltT, ↓g_gtT, ↓g_leT, ↓g_geT, ↓g_inT, ↓g_inL, ↓g_is, ↓g_neg, ↓g_not, ↓g_lenL, ↓g_lenT, ↓g_lenD, ↓g_intI, ↓g_intB, ↓g_abs, ↓g_gcd, ↓g_repr, ↓g_listL, ↓g_listT, ↓g_tupL, ↓g_tupT, ↓g_ixL0, ↓g_ixL1, ↓g_ixL2, ↓g_ixL3, ↓g_ixT0, ↓g_ixT1, ↓g_ixT2, ↓g_ixT3, ↓g_ixL, ↓g_ixT, ↓g_slL, ↓g_slT, ↓g_revL, ↓g_revT, n_non, n_int, n_tup, n_str, n_bl, n_lst, ↓n_enLst, ↓n_onOwn, ↓en0, ↓enS, eqOk_int, eqOk_str, eqv_int, eqv_str, exists_eq_left', atI0, atI1, atI2, atI3, isa, Int.cast_ofNat_Int, List.length_cons, List.length_nil, List.set_cons_zero, List.set_cons_succ, Option.some.injEq, true_and, and_true, if_true, if_false, Bool.not_true, Bool.not_false, Bool.xor_false, Bool.false_xor, Bool.true_xor, decide_eq_true_eq, Bool.not_eq_true', decide_eq_false_iff_not, Nat.reduceAdd, Nat.zero_add, w_err, fnEnds, shaped_c0, shaped_c1, shaped_c2, shaped_c3, List.map_cons, List.map_nil, Bool.false_eq_true, reduceIte, decide_true, decide_false, Bool.not_eq_true, decide_not, Bool.not_not, ne_eq, Nat.reduceLeDiff, sizeBig, Int.reduceAbs, Int.reduceLE, Int.reduceLT, Int.reduceAdd, Int.reduceSub, Int.reduceMul, Int.reduceNeg, Int.reduceToNat, Int.reducePow, Int.reduceEq, Nat.reducePow, Nat.reduceLT, ofString_inj, String.reduceEq, shaped_lit, shaped_int, shaped_bool, shaped_none, sm_lt, mb_lit_l, mb_lit_r, ↓w_pick, ↓w_pickT, ↓w_draw, w_wipe0, w_wipe1, List.nil_append, List.cons_append, reduceCtorEq, Bool.true_eq_false, eq_self, not_true_eq_false, not_false_eq_true, List.any_cons, List.any_nil, Bool.or_false, Bool.false_or, Bool.or_true, Bool.true_or, Bool.and_true, Bool.true_and, Bool.and_false, Bool.false_and, ↓sp__law_draw, ↓sp__law_pick, gKw_0_ap, gKw_1_0_ap]
  intro r r0 r1
  refine for_mem1 (fun env => ∃ x2 x3 x4 x5, env = [none, some .box, x2, x3, x4, x5]) _ ?_ ?_ _ ⟨_, _, _, _, rfl⟩
  · rintro env ⟨x2, x3, x4, x5, rfl⟩
    simp only [d_law_2, ↓w_seq, ↓w_set, ↓w_ret, ↓w_retN, ↓w_retV, ↓w_if, ↓w_drop, ↓w_asg, ↓w_par, ↓w_par3, ↓w_nx, ↓w_bk, ↓w_ct, ↓w_frz, ↓w_for, ↓w_app, ↓w_ext, ↓w_bin, ↓w_un, ↓w_var, ↓w_con, ↓w_callB, ↓w_nilU, ↓w_consU, ↓w_consS, ↓w_nilD, ↓w_consD, ↓w_consO, ↓w_tup, ↓w_lst, ↓w_dic0, ↓w_and, ↓w_or, ↓w_not, ↓w_ite, ↓w_chain, ↓w_isa, ↓w_fn, ↓w_fnK, ↓w_sl, ↓w_noO, ↓w_someO, ↓w_yes, ↓w_tst, ↓w_lc, ↓w_it, ↓w_enum, ↓w_zip, ↓w_rng1, ↓w_rng2, ↓w_never, ↓w_kNil, ↓w_kCons, ↓w_disp, ↓w_mg0, ↓w_mg1, ↓w_put0, ↓w_keyS, ↓w_keyI, ↓w_sset, ↓w_dicT, ↓w_inT, ↓w_ixT, ↓w_listT, ↓w_stoT, ↓w_stoU, ↓w_enDt, ↓w_onDt, ↓w_enOw, ↓w_onOw, ↓w_stoL, ↓w_stoD, ↓w_enZ, ↓g_min2, ↓g_minL, ↓g_minT, ↓g_max2, ↓g_maxL, ↓g_maxT, ↓g_sum, ↓g_all, ↓g_any, ↓v_use_d, ↓v_arg_d, ↓v_sto_d, ↓v_rd_d, ↓v_frz_d, ↓v_src_d, ↓v_use_own, ↓v_arg_own, ↓v_sto_own, ↓v_rd_own, ↓v_src_own, ↓v_use_bor, ↓v_arg_bor, ↓v_sto_bor, ↓v_rd_bor, ↓v_frz_bor, ↓v_src_bor, ↓v_use_scr, ↓v_arg_scr, ↓v_sto_scr, ↓v_rd_scr, ↓v_frz_scr, ↓v_src_scr, ↓v_use_box, ↓v_arg_box, ↓v_sto_box, ↓v_rd_box, ↓v_frz_box, ↓v_src_box, ↓v_bl, ↓v_frz_L, ↓v_frz_D, ↓v_frz_T, ↓v_rd_L, ↓v_rd_D, ↓v_dat_l, ↓v_dat_d, ↓v_onD, ↓v_onI, ↓v_onL, ↓v_on1, ↓v_on2, ↓v_on3, ↓v_all0, ↓v_all1, ↓v_seqL, ↓v_seqT, ↓v_gNm, ↓v_gNil, ↓v_gCons, ↓v_gTup, ↓g_add, ↓g_addS, ↓g_addT, ↓g_addL, ↓g_sub, ↓g_mul, ↓g_fdiv, ↓g_mod, ↓g_pow, ↓g_eq, ↓g_ne, ↓g_lt, ↓g_gt, ↓g_le, ↓g_ge, ↓g_ltT, ↓g_gtT, ↓g_leT, ↓g_geT, ↓g_inT, ↓g_inL, ↓g_is, ↓g_neg, ↓g_not, ↓g_lenL, ↓g_lenT, ↓g_lenD, ↓g_intI, ↓g_intB, ↓g_abs, ↓g_gcd, ↓g_repr, ↓g_listL, ↓g_listT, ↓g_tupL, ↓g_tupT, ↓g_ixL0, ↓g_ixL1, ↓g_ixL2, ↓g_ixL3, ↓g_ixT0, ↓g_ixT1, ↓g_ixT2, ↓g_ixT3, ↓g_ixL, ↓g_ixT, ↓g_slL, ↓g_slT, ↓g_revL, ↓g_revT, n_non, n_int, n_tup, n_str, n_bl, n_lst, ↓n_enLst, ↓n_onOwn, ↓en0, ↓enS, eqOk_int, eqOk_str, eqv_int, eqv_str, exists_eq_left', atI0, atI1, atI2, atI3, isa, Int.cast_ofNat_Int, List.length_cons, List.length_nil, List.set_cons_zero, List.set_cons_succ, Option.some.injEq, true_and, and_true, if_true, if_false, Bool.not_true, Bool.not_false, Bool.xor_false, Bool.false_xor, Bool.true_xor, decide_eq_true_eq, Bool.not_eq_true', decide_eq_false_iff_not, Nat.reduceAdd, Nat.zero_add, w_err, fnEnds, shaped_c0, shaped_c1, shaped_c2, shaped_c3, List.map_cons, List.map_nil, Bool.false_eq_true, reduceIte, decide_true, decide_false, Bool.not_eq_true, decide_not, Bool.not_not, ne_eq, Nat.reduceLeDiff, sizeBig, Int.reduceAbs, Int.reduceLE, Int.reduceLT, Int.reduceAdd, Int.reduceSub, Int.reduceMul, Int.reduceNeg, Int.reduceToNat, Int.reducePow, Int.reduceEq, Nat.reducePow, Nat.reduceLT, ofString_inj, String.reduceEq, shaped_lit, shaped_int, shaped_bool, shaped_none, sm_lt, mb_lit_l, mb_lit_r, ↓w_pick, ↓w_pickT, ↓w_draw, w_wipe0, w_wipe1, List.nil_append, List.cons_append, reduceCtorEq, Bool.true_eq_false, eq_self, not_true_eq_false, not_false_eq_true, List.any_cons, List.any_nil, Bool.or_false, Bool.false_or, Bool.or_true, Bool.true_or, Bool.and_true, Bool.true_and, Bool.and_false, Bool.false_and, ↓sp__law_draw, ↓sp__law_pick, gKw_0_ap, gKw_1_0_ap]
    have p0 : ptsOf [] = [] := by unfold ptsOf usort; simp
    have v0 : vsOf [] = [] := rfl
    refine ⟨[], rfl, by decide, ?_⟩
    simp only [↓w_seq, ↓w_set, ↓w_ret, ↓w_retN, ↓w_retV, ↓w_if, ↓w_drop, ↓w_asg, ↓w_par, ↓w_par3, ↓w_nx, ↓w_bk, ↓w_ct, ↓w_frz, ↓w_for, ↓w_app, ↓w_ext, ↓w_bin, ↓w_un, ↓w_var, ↓w_con, ↓w_callB, ↓w_nilU, ↓w_consU, ↓w_consS, ↓w_nilD, ↓w_consD, ↓w_consO, ↓w_tup, ↓w_lst, ↓w_dic0, ↓w_and, ↓w_or, ↓w_not, ↓w_ite, ↓w_chain, ↓w_isa, ↓w_fn, ↓w_fnK, ↓w_sl, ↓w_noO, ↓w_someO, ↓w_yes, ↓w_tst, ↓w_lc, ↓w_it, ↓w_enum, ↓w_zip, ↓w_rng1, ↓w_rng2, ↓w_never, ↓w_kNil, ↓w_kCons, ↓w_disp, ↓w_mg0, ↓w_mg1, ↓w_put0, ↓w_keyS, ↓w_keyI, ↓w_sset, ↓w_dicT, ↓w_inT, ↓w_ixT, ↓w_listT, ↓w_stoT, ↓w_stoU, ↓w_enDt, ↓w_onDt, ↓w_enOw, ↓w_onOw, ↓w_stoL, ↓w_stoD, ↓w_enZ, ↓g_min2, ↓g_minL, ↓g_minT, ↓g_max2, ↓g_maxL, ↓g_maxT, ↓g_sum, ↓g_all, ↓g_any, ↓v_use_d, ↓v_arg_d, ↓v_sto_d, ↓v_rd_d, ↓v_frz_d, ↓v_src_d, ↓v_use_own, ↓v_arg_own, ↓v_sto_own, ↓v_rd_own, ↓v_src_own, ↓v_use_bor, ↓v_arg_bor, ↓v_sto_bor, ↓v_rd_bor, ↓v_frz_bor, ↓v_src_bor, ↓v_use_scr, ↓v_arg_scr, ↓v_sto_scr, ↓v_rd_scr, ↓v_frz_scr, ↓v_src_scr, ↓v_use_box, ↓v_arg_box, ↓v_sto_box, ↓v_rd_box, ↓v_frz_box, ↓v_src_box, ↓v_bl, ↓v_frz_L, ↓v_frz_D, ↓v_frz_T, ↓v_rd_L, ↓v_rd_D, ↓v_dat_l, ↓v_dat_d, ↓v_onD, ↓v_onI, ↓v_onL, ↓v_on1, ↓v_on2, ↓v_on3, ↓v_all0, ↓v_all1, ↓v_seqL, ↓v_seqT, ↓v_gNm, ↓v_gNil, ↓v_gCons, ↓v_gTup, ↓g_add, ↓g_addS, ↓g_addT, ↓g_addL, ↓g_sub, ↓g_mul, ↓g_fdiv, ↓g_mod, ↓g_pow, ↓g_eq, ↓g_ne, ↓g_lt, ↓g_gt, ↓g_le, ↓g_ge, ↓g_ltT, ↓g_gtT, ↓g_leT, ↓g_geT, ↓g_inT, ↓g_inL, ↓g_is, ↓g_neg, ↓g_not, ↓g_lenL, ↓g_lenT, ↓g_lenD, ↓g_intI, ↓g_intB, ↓g_abs, ↓g_gcd, ↓g_repr, ↓g_listL, ↓g_listT, ↓g_tupL, ↓g_tupT, ↓g_ixL0, ↓g_ixL1, ↓g_ixL2, ↓g_ixL3, ↓g_ixT0, ↓g_ixT1, ↓g_ixT2, ↓g_ixT3, ↓g_ixL, ↓g_ixT, ↓g_slL, ↓g_slT, ↓g_revL, ↓g_revT, n_non, n_int, n_tup, n_str, n_bl, n_lst, ↓n_enLst, ↓n_onOwn, ↓en0, ↓enS, eqOk_int, eqOk_str, eqv_int, eqv_str, exists_eq_left', atI0, atI1, atI2, atI3, isa, Int.cast_ofNat_Int, List.length_cons, List.length_nil, List.set_cons_zero, List.set_cons_succ, Option.some.injEq, true_and, and_true, if_true, if_false, Bool.not_true, Bool.not_false, Bool.xor_false, Bool.false_xor, Bool.true_xor, decide_eq_true_eq, Bool.not_eq_true', decide_eq_false_iff_not, Nat.reduceAdd, Nat.zero_add, w_err, fnEnds, shaped_c0, shaped_c1, shaped_c2, shaped_c3, List.map_cons, List.map_nil, Bool.false_eq_true, reduceIte, decide_true, decide_false, Bool.not_eq_true, decide_not, Bool.not_not, ne_eq, Nat.reduceLeDiff, sizeBig, Int.reduceAbs, Int.reduceLE, Int.reduceLT, Int.reduceAdd, Int.reduceSub, Int.reduceMul, Int.reduceNeg, Int.reduceToNat, Int.reducePow, Int.reduceEq, Nat.reducePow, Nat.reduceLT, ofString_inj, String.reduceEq, shaped_lit, shaped_int, shaped_bool, shaped_none, sm_lt, mb_lit_l, mb_lit_r, ↓w_pick, ↓w_pickT, ↓w_draw, w_wipe0, w_wipe1, List.nil_append, List.cons_append, reduceCtorEq, Bool.true_eq_false, eq_self, not_true_eq_false, not_false_eq_true, List.any_cons, List.any_nil, Bool.or_false, Bool.false_or, Bool.or_true, Bool.true_or, Bool.and_true, Bool.true_and, Bool.and_false, Bool.false_and, ↓sp__law_draw, ↓sp__law_pick, gKw_0_ap, gKw_1_0_ap]
    refine ⟨[], rfl, by decide, (fun n h => by cases h), ?_⟩
    simp only [↓w_seq, ↓w_set, ↓w_ret, ↓w_retN, ↓w_retV, ↓w_if, ↓w_drop, ↓w_asg, ↓w_par, ↓w_par3, ↓w_nx, ↓w_bk, ↓w_ct, ↓w_frz, ↓w_for, ↓w_app, ↓w_ext, ↓w_bin, ↓w_un, ↓w_var, ↓w_con, ↓w_callB, ↓w_nilU, ↓w_consU, ↓w_consS, ↓w_nilD, ↓w_consD, ↓w_consO, ↓w_tup, ↓w_lst, ↓w_dic0, ↓w_and, ↓w_or, ↓w_not, ↓w_ite, ↓w_chain, ↓w_isa, ↓w_fn, ↓w_fnK, ↓w_sl, ↓w_noO, ↓w_someO, ↓w_yes, ↓w_tst, ↓w_lc, ↓w_it, ↓w_enum, ↓w_zip, ↓w_rng1, ↓w_rng2, ↓w_never, ↓w_kNil, ↓w_kCons, ↓w_disp, ↓w_mg0, ↓w_mg1, ↓w_put0, ↓w_keyS, ↓w_keyI, ↓w_sset, ↓w_dicT, ↓w_inT, ↓w_ixT, ↓w_listT, ↓w_stoT, ↓w_stoU, ↓w_enDt, ↓w_onDt, ↓w_enOw, ↓w_onOw, ↓w_stoL, ↓w_stoD, ↓w_enZ, ↓g_min2, ↓g_minL, ↓g_minT, ↓g_max2, ↓g_maxL, ↓g_maxT, ↓g_sum, ↓g_all, ↓g_any, ↓v_use_d, ↓v_arg_d, ↓v_sto_d, ↓v_rd_d, ↓v_frz_d, ↓v_src_d, ↓v_use_own, ↓v_arg_own, ↓v_sto_own, ↓v_rd_own, ↓v_src_own, ↓v_use_bor, ↓v_arg_bor, ↓v_sto_bor, ↓v_rd_bor, ↓v_frz_bor, ↓v_src_bor, ↓v_use_scr, ↓v_arg_scr, ↓v_sto_scr, ↓v_rd_scr, ↓v_frz_scr, ↓v_src_scr, ↓v_use_box, ↓v_arg_box, ↓v_sto_box, ↓v_rd_box, ↓v_frz_box, ↓v_src_box, ↓v_bl, ↓v_frz_L, ↓v_frz_D, ↓v_frz_T, ↓v_rd_L, ↓v_rd_D, ↓v_dat_l, ↓v_dat_d, ↓v_onD, ↓v_onI, ↓v_onL, ↓v_on1, ↓v_on2, ↓v_on3, ↓v_all0, ↓v_all1, ↓v_seqL, ↓v_seqT, ↓v_gNm, ↓v_gNil, ↓v_gCons, ↓v_gTup, ↓g_add, ↓g_addS, ↓g_addT, ↓g_addL, ↓g_sub, ↓g_mul, ↓g_fdiv, ↓g_mod, ↓g_pow, ↓g_eq, ↓g_ne, ↓g_lt, ↓g_gt, ↓g_le, ↓g_ge, ↓g_ltT, ↓g_gtT, ↓g_leT, ↓g_geT, ↓g_inT, ↓g_inL, ↓g_is, ↓g_neg, ↓g_not, ↓g_lenL, ↓g_lenT, ↓g_lenD, ↓g_intI, ↓g_intB, ↓g_abs, ↓g_gcd, ↓g_repr, ↓g_listL, ↓g_listT, ↓g_tupL, ↓g_tupT, ↓g_ixL0, ↓g_ixL1, ↓g_ixL2, ↓g_ixL3, ↓g_ixT0, ↓g_ixT1, ↓g_ixT2, ↓g_ixT3, ↓g_ixL, ↓g_ixT, ↓g_slL, ↓g_slT, ↓g_revL, ↓g_revT, n_non, n_int, n_tup, n_str, n_bl, n_lst, ↓n_enLst, ↓n_onOwn, ↓en0, ↓enS, eqOk_int, eqOk_str, eqv_int, eqv_str, exists_eq_left', atI0, atI1, atI2, atI3, isa, Int.cast_ofNat_Int, List.length_cons, List.length_nil, List.set_cons_zero, List.set_cons_succ, Option.some.injEq, true_and, and_true, if_true, if_false, Bool.not_true, Bool.not_false, Bool.xor_false, Bool.false_xor, Bool.true_xor, decide_eq_true_eq, Bool.not_eq_true', decide_eq_false_iff_not, Nat.reduceAdd, Nat.zero_add, w_err, fnEnds, shaped_c0, shaped_c1, shaped_c2, shaped_c3, List.map_cons, List.map_nil, Bool.false_eq_true, reduceIte, decide_true, decide_false, Bool.not_eq_true, decide_not, Bool.not_not, ne_eq, Nat.reduceLeDiff, sizeBig, Int.reduceAbs, Int.reduceLE, Int.reduceLT, Int.reduceAdd, Int.reduceSub, Int.reduceMul, Int.reduceNeg, Int.reduceToNat, Int.reducePow, Int.reduceEq, Nat.reducePow, Nat.reduceLT, ofString_inj, String.reduceEq, shaped_lit, shaped_int, shaped_bool, shaped_none, sm_lt, mb_lit_l, mb_lit_r, ↓w_pick, ↓w_pickT, ↓w_draw, w_wipe0, w_wipe1, List.nil_append, List.cons_append, reduceCtorEq, Bool.true_eq_false, eq_self, not_true_eq_false, not_false_eq_true, List.any_cons, List.any_nil, Bool.or_false, Bool.false_or, Bool.or_true, Bool.true_or, Bool.and_true, Bool.true_and, Bool.and_false, Bool.false_and, ↓sp__law_draw, ↓sp__law_pick, gKw_0_ap, gKw_1_0_ap]
    refine ⟨[], (0, 0), rfl, by decide, ?_⟩
    rw [p0, v0]
    have sh : showOk (.list [.tuple [], .tuple [], .tuple []]) := (Tm.lst (n := 10) (k := 1) (c := 3) (n' := 100) (k' := 2) (fal (Tm.tup (n := 1) (k := 0) (c := 0) fan (Nat.le_refl _)) (fal (Tm.tup (n := 1) (k := 0) (c := 0) fan (Nat.le_refl _)) (fal (Tm.tup (n := 1) (k := 0) (c := 0) fan (Nat.le_refl _)) fan))) (Nat.le_refl _)).ok (by decide) (by decide)
    have n0 : (ntsAt [] (0, 0)) = [] := rfl
    rw [n0]
    simp only [↓w_seq, ↓w_set, ↓w_ret, ↓w_retN, ↓w_retV, ↓w_if, ↓w_drop, ↓w_asg, ↓w_par, ↓w_par3, ↓w_nx, ↓w_bk, ↓w_ct, ↓w_frz, ↓w_for, ↓w_app, ↓w_ext, ↓w_bin, ↓w_un, ↓w_var, ↓w_con, ↓w_callB, ↓w_nilU, ↓w_consU, ↓w_consS, ↓w_nilD, ↓w_consD, ↓w_consO, ↓w_tup, ↓w_lst, ↓w_dic0, ↓w_and, ↓w_or, ↓w_not, ↓w_ite, ↓w_chain, ↓w_isa, ↓w_fn, ↓w_fnK, ↓w_sl, ↓w_noO, ↓w_someO, ↓w_yes, ↓w_tst, ↓w_lc, ↓w_it, ↓w_enum, ↓w_zip, ↓w_rng1, ↓w_rng2, ↓w_never, ↓w_kNil, ↓w_kCons, ↓w_disp, ↓w_mg0, ↓w_mg1, ↓w_put0, ↓w_keyS, ↓w_keyI, ↓w_sset, ↓w_dicT, ↓w_inT, ↓w_ixT, ↓w_listT, ↓w_stoT, ↓w_stoU, ↓w_enDt, ↓w_onDt, ↓w_enOw, ↓w_onOw, ↓w_stoL, ↓w_stoD, ↓w_enZ, ↓g_min2, ↓g_minL, ↓g_minT, ↓g_max2, ↓g_maxL, ↓g_maxT, ↓g_sum, ↓g_all, ↓g_any, ↓v_use_d, ↓v_arg_d, ↓v_sto_d, ↓v_rd_d, ↓v_frz_d, ↓v_src_d, ↓v_use_own, ↓v_arg_own, ↓v_sto_own, ↓v_rd_own, ↓v_src_own, ↓v_use_bor, ↓v_arg_bor, ↓v_sto_bor, ↓v_rd_bor, ↓v_frz_bor, ↓v_src_bor, ↓v_use_scr, ↓v_arg_scr, ↓v_sto_scr, ↓v_rd_scr, ↓v_frz_scr, ↓v_src_scr, ↓v_use_box, ↓v_arg_box, ↓v_sto_box, ↓v_rd_box, ↓v_frz_box, ↓v_src_box, ↓v_bl, ↓v_frz_L, ↓v_frz_D, ↓v_frz_T, ↓v_rd_L, ↓v_rd_D, ↓v_dat_l, ↓v_dat_d, ↓v_onD, ↓v_onI, ↓v_onL, ↓v_on1, ↓v_on2, ↓v_on3, ↓v_all0, ↓v_all1, ↓v_seqL, ↓v_seqT, ↓v_gNm, ↓v_gNil, ↓v_gCons, ↓v_gTup, ↓g_add, ↓g_addS, ↓g_addT, ↓g_addL, ↓g_sub, ↓g_mul, ↓g_fdiv, ↓g_mod, ↓g_pow, ↓g_eq, ↓g_ne, ↓g_lt, ↓g_gt, ↓g_le, ↓g_ge, ↓g_ltT, ↓g_gtT, ↓g_leT, ↓g_geT, ↓g_inT, ↓g_inL, ↓g_is, ↓g_neg, ↓g_not, ↓g_lenL, ↓g_lenT, ↓g_lenD, ↓g_intI, ↓g_intB, ↓g_abs, ↓g_gcd, ↓g_repr, ↓g_listL, ↓g_listT, ↓g_tupL, ↓g_tupT, ↓g_ixL0, ↓g_ixL1, ↓g_ixL2, ↓g_ixL3, ↓g_ixT0, ↓g_ixT1, ↓g_ixT2, ↓g_ixT3, ↓g_ixL, ↓g_ixT, ↓g_slL, ↓g_slT, ↓g_revL, ↓g_revT, n_non, n_int, n_tup, n_str, n_bl, n_lst, ↓n_enLst, ↓n_onOwn, ↓en0, ↓enS, eqOk_int, eqOk_str, eqv_int, eqv_str, exists_eq_left', atI0, atI1, atI2, atI3, isa, Int.cast_ofNat_Int, List.length_cons, List.length_nil, List.set_cons_zero, List.set_cons_succ, Option.some.injEq, true_and, and_true, if_true, if_false, Bool.not_true, Bool.not_false, Bool.xor_false, Bool.false_xor, Bool.true_xor, decide_eq_true_eq, Bool.not_eq_true', decide_eq_false_iff_not, Nat.reduceAdd, Nat.zero_add, w_err, fnEnds, shaped_c0, shaped_c1, shaped_c2, shaped_c3, List.map_cons, List.map_nil, Bool.false_eq_true, reduceIte, decide_true, decide_false, Bool.not_eq_true, decide_not, Bool.not_not, ne_eq, Nat.reduceLeDiff, sizeBig, Int.reduceAbs, Int.reduceLE, Int.reduceLT, Int.reduceAdd, Int.reduceSub, Int.reduceMul, Int.reduceNeg, Int.reduceToNat, Int.reducePow, Int.reduceEq, Nat.reducePow, Nat.reduceLT, ofString_inj, String.reduceEq, shaped_lit, shaped_int, shaped_bool, shaped_none, sm_lt, mb_lit_l, mb_lit_r, ↓w_pick, ↓w_pickT, ↓w_draw, w_wipe0, w_wipe1, List.nil_append, List.cons_append, reduceCtorEq, Bool.true_eq_false, eq_self, not_true_eq_false, not_false_eq_true, List.any_cons, List.any_nil, Bool.or_false, Bool.false_or, Bool.or_true, Bool.true_or, Bool.and_true, Bool.true_and, Bool.and_false, Bool.false_and, ↓sp__law_draw, ↓sp__law_pick, gKw_0_ap, gKw_1_0_ap]
    exact ⟨sh, sh, rfl⟩
  · intro x hx env K hK he
    obtain ⟨x2, x3, x4, x5, rfl⟩ := he
    have hm : ∃ m : Nat, x = .int (m : Int) ∧ m ≤ 14 := by
      revert x
      exact fal ⟨r.toNat, by rw [show ((r.toNat : Nat) : Int) = r by omega], by omega⟩ (fal ⟨5, rfl, by omega⟩ (fal ⟨9, rfl, by omega⟩ (fal ⟨14, rfl, by omega⟩ fan)))
    obtain ⟨m, rfl, hm⟩ := hm
    simp only [d_law_L1, ↓w_seq, ↓w_set, ↓w_ret, ↓w_retN, ↓w_retV, ↓w_if, ↓w_drop, ↓w_asg, ↓w_par, ↓w_par3, ↓w_nx, ↓w_bk, ↓w_ct, ↓w_frz, ↓w_for, ↓w_app, ↓w_ext, ↓w_bin, ↓w_un, ↓w_var, ↓w_con, ↓w_callB, ↓w_nilU, ↓w_consU, ↓w_consS, ↓w_nilD, ↓w_consD, ↓w_consO, ↓w_tup, ↓w_lst, ↓w_dic0, ↓w_and, ↓w_or, ↓w_not, ↓w_ite, ↓w_chain, ↓w_isa, ↓w_fn, ↓w_fnK, ↓w_sl, ↓w_noO, ↓w_someO, ↓w_yes, ↓w_tst, ↓w_lc, ↓w_it, ↓w_enum, ↓w_zip, ↓w_rng1, ↓w_rng2, ↓w_never, ↓w_kNil, ↓w_kCons, ↓w_disp, ↓w_mg0, ↓w_mg1, ↓w_put0, ↓w_keyS, ↓w_keyI, ↓w_sset, ↓w_dicT, ↓w_inT, ↓w_ixT, ↓w_listT, ↓w_stoT, ↓w_stoU, ↓w_enDt, ↓w_onDt, ↓w_enOw, ↓w_onOw, ↓w_stoL, ↓w_stoD, ↓w_enZ, ↓g_min2, ↓g_minL, ↓g_minT, ↓g_max2, ↓g_maxL, ↓g_maxT, ↓g_sum, ↓g_all, ↓g_any, ↓v_use_d, ↓v_arg_d, ↓v_sto_d, ↓v_rd_d, ↓v_frz_d, ↓v_src_d, ↓v_use_own, ↓v_arg_own, ↓v_sto_own, ↓v_rd_own, ↓v_src_own, ↓v_use_bor, ↓v_arg_bor, ↓v_sto_bor, ↓v_rd_bor, ↓v_frz_bor, ↓v_src_bor, ↓v_use_scr, ↓v_arg_scr, ↓v_sto_scr, ↓v_rd_scr, ↓v_frz_scr, ↓v_src_scr, ↓v_use_box, ↓v_arg_box, ↓v_sto_box, ↓v_rd_box, ↓v_frz_box, ↓v_src_box, ↓v_bl, ↓v_frz_L, ↓v_frz_D, ↓v_frz_T, ↓v_rd_L, ↓v_rd_D, ↓v_dat_l, ↓v_dat_d, ↓v_onD, ↓v_onI, ↓v_onL, ↓v_on1, ↓v_on2, ↓v_on3, ↓v_all0, ↓v_all1, ↓v_seqL, ↓v_seqT, ↓v_gNm, ↓v_gNil, ↓v_gCons, ↓v_gTup, ↓g_add, ↓g_addS, ↓g_addT, ↓g_addL, ↓g_sub, ↓g_mul, ↓g_fdiv, ↓g_mod, ↓g_pow, ↓g_eq, ↓g_ne, ↓g_lt, ↓g_gt, ↓g_le, ↓g_ge, ↓g_ltT, ↓g_gtT, ↓g_leT, ↓g_geT, ↓g_inT, ↓g_inL, ↓g_is, ↓g_neg, ↓g_not, ↓g_lenL, ↓g_lenT, ↓g_lenD, ↓g_intI, ↓g_intB, ↓g_abs, ↓g_gcd, ↓g_repr, ↓g_listL, ↓g_listT, ↓g_tupL, ↓g_tupT, ↓g_ixL0, ↓g_ixL1, ↓g_ixL2, ↓g_ixL3, ↓g_ixT0, ↓g_ixT1, ↓g_ixT2, ↓g_ixT3, ↓g_ixL, ↓g_ixT, ↓g_slL, ↓g_slT, ↓g_revL, ↓g_revT, n_non, n_int, n_tup, n_str, n_bl, n_lst, ↓n_enLst, ↓n_onOwn, ↓en0, ↓enS, eqOk_int, eqOk_str, eqv_int, eqv_str, exists_eq_left', atI0, atI1, atI2, atI3, isa, Int.cast_ofNat_Int, List.length_cons, List.length_nil, List.set_cons_zero, List.set_cons_succ, Option.some.injEq, true_and, and_true, if_true, if_false, Bool.not_true, Bool.not_false, Bool.xor_false, Bool.false_xor, Bool.true_xor, decide_eq_true_eq, Bool.not_eq_true', decide_eq_false_iff_not, Nat.reduceAdd, Nat.zero_add, w_err, fnEnds, shaped_c0, shaped_c1, shaped_c2, shaped_c3, List.map_cons, List.map_nil, Bool.false_eq_true, reduceIte, decide_true, decide_false, Bool.not_eq_true, decide_not, Bool.not_not, ne_eq, Nat.reduceLeDiff, sizeBig, Int.reduceAbs, Int.reduceLE, Int.reduceLT, Int.reduceAdd, Int.reduceSub, Int.reduceMul, Int.reduceNeg, Int.reduceToNat, Int.reducePow, Int.reduceEq, Nat.reducePow, Nat.reduceLT, ofString_inj, String.reduceEq, shaped_lit, shaped_int, shaped_bool, shaped_none, sm_lt, mb_lit_l, mb_lit_r, ↓w_pick, ↓w_pickT, ↓w_draw, w_wipe0, w_wipe1, List.nil_append, List.cons_append, reduceCtorEq, Bool.true_eq_false, eq_self, not_true_eq_false, not_false_eq_true, List.any_cons, List.any_nil, Bool.or_false, Bool.false_or, Bool.or_true, Bool.true_or, Bool.and_true, Bool.true_and, Bool.and_false, Bool.false_and, ↓sp__law_draw, ↓sp__law_pick, gKw_0_ap, gKw_1_0_ap]
    refine ⟨m, rfl, by omega, fun ns hns => ?_⟩
    simp only [d_law_L1_2, ↓w_seq, ↓w_set, ↓w_ret, ↓w_retN, ↓w_retV, ↓w_if, ↓w_drop, ↓w_asg, ↓w_par, ↓w_par3, ↓w_nx, ↓w_bk, ↓w_ct, ↓w_frz, ↓w_for, ↓w_app, ↓w_ext, ↓w_bin, ↓w_un, ↓w_var, ↓w_con, ↓w_callB, ↓w_nilU, ↓w_consU, ↓w_consS, ↓w_nilD, ↓w_consD, ↓w_consO, ↓w_tup, ↓w_lst, ↓w_dic0, ↓w_and, ↓w_or, ↓w_not, ↓w_ite, ↓w_chain, ↓w_isa, ↓w_fn, ↓w_fnK, ↓w_sl, ↓w_noO, ↓w_someO, ↓w_yes, ↓w_tst, ↓w_lc, ↓w_it, ↓w_enum, ↓w_zip, ↓w_rng1, ↓w_rng2, ↓w_never, ↓w_kNil, ↓w_kCons, ↓w_disp, ↓w_mg0, ↓w_mg1, ↓w_put0, ↓w_keyS, ↓w_keyI, ↓w_sset, ↓w_dicT, ↓w_inT, ↓w_ixT, ↓w_listT, ↓w_stoT, ↓w_stoU, ↓w_enDt, ↓w_onDt, ↓w_enOw, ↓w_onOw, ↓w_stoL, ↓w_stoD, ↓w_enZ, ↓g_min2, ↓g_minL, ↓g_minT, ↓g_max2, ↓g_maxL, ↓g_maxT, ↓g_sum, ↓g_all, ↓g_any, ↓v_use_d, ↓v_arg_d, ↓v_sto_d, ↓v_rd_d, ↓v_frz_d, ↓v_src_d, ↓v_use_own, ↓v_arg_own, ↓v_sto_own, ↓v_rd_own, ↓v_src_own, ↓v_use_bor, ↓v_arg_bor, ↓v_sto_bor, ↓v_rd_bor, ↓v_frz_bor, ↓v_src_bor, ↓v_use_scr, ↓v_arg_scr, ↓v_sto_scr, ↓v_rd_scr, ↓v_frz_scr, ↓v_src_scr, ↓v_use_box, ↓v_arg_box, ↓v_sto_box, ↓v_rd_box, ↓v_frz_box, ↓v_src_box, ↓v_bl, ↓v_frz_L, ↓v_frz_D, ↓v_frz_T, ↓v_rd_L, ↓v_rd_D, ↓v_dat_l, ↓v_dat_d, ↓v_onD, ↓v_onI, ↓v_onL, ↓v_on1, ↓v_on2, ↓v_on3, ↓v_all0, ↓v_all1, ↓v_seqL, ↓v_seqT, ↓v_gNm, ↓v_gNil, ↓v_gCons, ↓v_gTup, ↓g_add, ↓g_addS, ↓g_addT, ↓g_addL, ↓g_sub, ↓g_mul, ↓g_fdiv, ↓g_mod, ↓g_pow, ↓g_eq, ↓g_ne, ↓g_lt, ↓g_gt, ↓g_le, ↓g_ge, ↓g_ltT, ↓g_gtT, ↓g_leT, ↓g_geT, ↓g_inT, ↓g_inL, ↓g_is, ↓g_neg, ↓g_not, ↓g_lenL, ↓g_lenT, ↓g_lenD, ↓g_intI, ↓g_intB, ↓g_abs, ↓g_gcd, ↓g_repr, ↓g_listL, ↓g_listT, ↓g_tupL, ↓g_tupT, ↓g_ixL0, ↓g_ixL1, ↓g_ixL2, ↓g_ixL3, ↓g_ixT0, ↓g_ixT1, ↓g_ixT2, ↓g_ixT3, ↓g_ixL, ↓g_ixT, ↓g_slL, ↓g_slT, ↓g_revL, ↓g_revT, n_non, n_int, n_tup, n_str, n_bl, n_lst, ↓n_enLst, ↓n_onOwn, ↓en0, ↓enS, eqOk_int, eqOk_str, eqv_int, eqv_str, exists_eq_left', atI0, atI1, atI2, atI3, isa, Int.cast_ofNat_Int, List.length_cons, List.length_nil, List.set_cons_zero, List.set_cons_succ, Option.some.injEq, true_and, and_true, if_true, if_false, Bool.not_true, Bool.not_false, Bool.xor_false, Bool.false_xor, Bool.true_xor, decide_eq_true_eq, Bool.not_eq_true', decide_eq_false_iff_not, Nat.reduceAdd, Nat.zero_add, w_err, fnEnds, shaped_c0, shaped_c1, shaped_c2, shaped_c3, List.map_cons, List.map_nil, Bool.false_eq_true, reduceIte, decide_true, decide_false, Bool.not_eq_true, decide_not, Bool.not_not, ne_eq, Nat.reduceLeDiff, sizeBig, Int.reduceAbs, Int.reduceLE, Int.reduceLT, Int.reduceAdd, Int.reduceSub, Int.reduceMul, Int.reduceNeg, Int.reduceToNat, Int.reducePow, Int.reduceEq, Nat.reducePow, Nat.reduceLT, ofString_inj, String.reduceEq, shaped_lit, shaped_int, shaped_bool, shaped_none, sm_lt, mb_lit_l, mb_lit_r, ↓w_pick, ↓w_pickT, ↓w_draw, w_wipe0, w_wipe1, List.nil_append, List.cons_append, reduceCtorEq, Bool.true_eq_false, eq_self, not_true_eq_false, not_false_eq_true, List.any_cons, List.any_nil, Bool.or_false, Bool.false_or, Bool.or_true, Bool.true_or, Bool.and_true, Bool.true_and, Bool.and_false, Bool.false_and, ↓sp__law_draw, ↓sp__law_pick, gKw_0_ap, gKw_1_0_ap]
    refine ⟨ns, rfl, ⟨Nat.le_trans hns.1 (by omega), hns.2⟩, ?_⟩
    simp only [d_law_L1_3, ↓w_seq, ↓w_set, ↓w_ret, ↓w_retN, ↓w_retV, ↓w_if, ↓w_drop, ↓w_asg, ↓w_par, ↓w_par3, ↓w_nx, ↓w_bk, ↓w_ct, ↓w_frz, ↓w_for, ↓w_app, ↓w_ext, ↓w_bin, ↓w_un, ↓w_var, ↓w_con, ↓w_callB, ↓w_nilU, ↓w_consU, ↓w_consS, ↓w_nilD, ↓w_consD, ↓w_consO, ↓w_tup, ↓w_lst, ↓w_dic0, ↓w_and, ↓w_or, ↓w_not, ↓w_ite, ↓w_chain, ↓w_isa, ↓w_fn, ↓w_fnK, ↓w_sl, ↓w_noO, ↓w_someO, ↓w_yes, ↓w_tst, ↓w_lc, ↓w_it, ↓w_enum, ↓w_zip, ↓w_rng1, ↓w_rng2, ↓w_never, ↓w_kNil, ↓w_kCons, ↓w_disp, ↓w_mg0, ↓w_mg1, ↓w_put0, ↓w_keyS, ↓w_keyI, ↓w_sset, ↓w_dicT, ↓w_inT, ↓w_ixT, ↓w_listT, ↓w_stoT, ↓w_stoU, ↓w_enDt, ↓w_onDt, ↓w_enOw, ↓w_onOw, ↓w_stoL, ↓w_stoD, ↓w_enZ, ↓g_min2, ↓g_minL, ↓g_minT, ↓g_max2, ↓g_maxL, ↓g_maxT, ↓g_sum, ↓g_all, ↓g_any, ↓v_use_d, ↓v_arg_d, ↓v_sto_d, ↓v_rd_d, ↓v_frz_d, ↓v_src_d, ↓v_use_own, ↓v_arg_own, ↓v_sto_own, ↓v_rd_own, ↓v_src_own, ↓v_use_bor, ↓v_arg_bor, ↓v_sto_bor, ↓v_rd_bor, ↓v_frz_bor, ↓v_src_bor, ↓v_use_scr, ↓v_arg_scr, ↓v_sto_scr, ↓v_rd_scr, ↓v_frz_scr, ↓v_src_scr, ↓v_use_box, ↓v_arg_box, ↓v_sto_box, ↓v_rd_box, ↓v_frz_box, ↓v_src_box, ↓v_bl, ↓v_frz_L, ↓v_frz_D, ↓v_frz_T, ↓v_rd_L, ↓v_rd_D, ↓v_dat_l, ↓v_dat_d, ↓v_onD, ↓v_onI, ↓v_onL, ↓v_on1, ↓v_on2, ↓v_on3, ↓v_all0, ↓v_all1, ↓v_seqL, ↓v_seqT, ↓v_gNm, ↓v_gNil, ↓v_gCons, ↓v_gTup, ↓g_add, ↓g_addS, ↓g_addT, ↓g_addL, ↓g_sub, ↓g_mul, ↓g_fdiv, ↓g_mod, ↓g_pow, ↓g_eq, ↓g_ne, ↓g_lt, ↓g_gt, ↓g_le, ↓g_ge, ↓g_ltT, ↓g_gtT, ↓g_leT, ↓g_geT, ↓g_inT, ↓g_inL, ↓g_is, ↓g_neg, ↓g_not, ↓g_lenL, ↓g_lenT, ↓g_lenD, ↓g_intI, ↓g_intB, ↓g_abs, ↓g_gcd, ↓g_repr, ↓g_listL, ↓g_listT, ↓g_tupL, ↓g_tupT, ↓g_ixL0, ↓g_ixL1, ↓g_ixL2, ↓g_ixL3, ↓g_ixT0, ↓g_ixT1, ↓g_ixT2, ↓g_ixT3, ↓g_ixL, ↓g_ixT, ↓g_slL, ↓g_slT, ↓g_revL, ↓g_revT, n_non, n_int, n_tup, n_str, n_bl, n_lst, ↓n_enLst, ↓n_onOwn, ↓en0, ↓enS, eqOk_int, eqOk_str, eqv_int, eqv_str, exists_eq_left', atI0, atI1, atI2, atI3, isa, Int.cast_ofNat_Int, List.length_cons, List.length_nil, List.set_cons_zero, List.set_cons_succ, Option.some.injEq, true_and, and_true, if_true, if_false, Bool.not_true, Bool.not_false, Bool.xor_false, Bool.false_xor, Bool.true_xor, decide_eq_true_eq, Bool.not_eq_true', decide_eq_false_iff_not, Nat.reduceAdd, Nat.zero_add, w_err, fnEnds, shaped_c0, shaped_c1, shaped_c2, shaped_c3, List.map_cons, List.map_nil, Bool.false_eq_true, reduceIte, decide_true, decide_false, Bool.not_eq_true, decide_not, Bool.not_not, ne_eq, Nat.reduceLeDiff, sizeBig, Int.reduceAbs, Int.reduceLE, Int.reduceLT, Int.reduceAdd, Int.reduceSub, Int.reduceMul, Int.reduceNeg, Int.reduceToNat, Int.reducePow, Int.reduceEq, Nat.reducePow, Nat.reduceLT, ofString_inj, String.reduceEq, shaped_lit, shaped_int, shaped_bool, shaped_none, sm_lt, mb_lit_l, mb_lit_r, ↓w_pick, ↓w_pickT, ↓w_draw, w_wipe0, w_wipe1, List.nil_append, List.cons_append, reduceCtorEq, Bool.true_eq_false, eq_self, not_true_eq_false, not_false_eq_true, List.any_cons, List.any_nil, Bool.or_false, Bool.false_or, Bool.or_true, Bool.true_or, Bool.and_true, Bool.true_and, Bool.and_false, Bool.false_and, ↓sp__law_draw, ↓sp__law_pick, gKw_0_ap, gKw_1_0_ap]
    intro c c0 c1
    refine ⟨by unfold bd62; omega, ?_⟩
    rw [rngL_map]
    refine lc_det (fun i : Nat => PyData.int (i : Nat)) (fun i => some (eN ⟨4, 60 + (i : Int) / 4, (i : Int) % 4, 1⟩)) (List.range (1 + c).toNat) [] (by rw [sizeLine_eq, List.length_nil, List.length_range]; omega) (fun i _ K2 hK2 => ?_) ?_
    · simp only [lcStep, ↓w_seq, ↓w_set, ↓w_ret, ↓w_retN, ↓w_retV, ↓w_if, ↓w_drop, ↓w_asg, ↓w_par, ↓w_par3, ↓w_nx, ↓w_bk, ↓w_ct, ↓w_frz, ↓w_for, ↓w_app, ↓w_ext, ↓w_bin, ↓w_un, ↓w_var, ↓w_con, ↓w_callB, ↓w_nilU, ↓w_consU, ↓w_consS, ↓w_nilD, ↓w_consD, ↓w_consO, ↓w_tup, ↓w_lst, ↓w_dic0, ↓w_and, ↓w_or, ↓w_not, ↓w_ite, ↓w_chain, ↓w_isa, ↓w_fn, ↓w_fnK, ↓w_sl, ↓w_noO, ↓w_someO, ↓w_yes, ↓w_tst, ↓w_lc, ↓w_it, ↓w_enum, ↓w_zip, ↓w_rng1, ↓w_rng2, ↓w_never, ↓w_kNil, ↓w_kCons, ↓w_disp, ↓w_mg0, ↓w_mg1, ↓w_put0, ↓w_keyS, ↓w_keyI, ↓w_sset, ↓w_dicT, ↓w_inT, ↓w_ixT, ↓w_listT, ↓w_stoT, ↓w_stoU, ↓w_enDt, ↓w_onDt, ↓w_enOw, ↓w_onOw, ↓w_stoL, ↓w_stoD, ↓w_enZ, ↓g_min2, ↓g_minL, ↓g_minT, ↓g_max2, ↓g_maxL, ↓g_maxT, ↓g_sum, ↓g_all, ↓g_any, ↓v_use_d, ↓v_arg_d, ↓v_sto_d, ↓v_rd_d, ↓v_frz_d, ↓v_src_d, ↓v_use_own, ↓v_arg_own, ↓v_sto_own, ↓v_rd_own, ↓v_src_own, ↓v_use_bor, ↓v_arg_bor, ↓v_sto_bor, ↓v_rd_bor, ↓v_frz_bor, ↓v_src_bor, ↓v_use_scr, ↓v_arg_scr, ↓v_sto_scr, ↓v_rd_scr, ↓v_frz_scr, ↓v_src_scr, ↓v_use_box, ↓v_arg_box, ↓v_sto_box, ↓v_rd_box, ↓v_frz_box, ↓v_src_box, ↓v_bl, ↓v_frz_L, ↓v_frz_D, ↓v_frz_T, ↓v_rd_L, ↓v_rd_D, ↓v_dat_l, ↓v_dat_d, ↓v_onD, ↓v_onI, ↓v_onL, ↓v_on1, ↓v_on2, ↓v_on3, ↓v_all0, ↓v_all1, ↓v_seqL, ↓v_seqT, ↓v_gNm, ↓v_gNil, ↓v_gCons, ↓v_gTup, ↓g_add, ↓g_addS, ↓g_addT, ↓g_addL, ↓g_sub, ↓g_mul, ↓g_fdiv, ↓g_mod, ↓g_pow, ↓g_eq, ↓g_ne, ↓g_lt, ↓g_gt, ↓g_le, ↓g_ge, ↓g_ltT, ↓g_gtT, ↓g_leT, ↓g_geT, ↓g_inT, ↓g_inL, ↓g_is, ↓g_neg, ↓g_not, ↓g_lenL, ↓g_lenT, ↓g_lenD, ↓g_intI, ↓g_intB, ↓g_abs, ↓g_gcd, ↓g_repr, ↓g_listL, ↓g_listT, ↓g_tupL, ↓g_tupT, ↓g_ixL0, ↓g_ixL1, ↓g_ixL2, ↓g_ixL3, ↓g_ixT0, ↓g_ixT1, ↓g_ixT2, ↓g_ixT3, ↓g_ixL, ↓g_ixT, ↓g_slL, ↓g_slT, ↓g_revL, ↓g_revT, n_non, n_int, n_tup, n_str, n_bl, n_lst, ↓n_enLst, ↓n_onOwn, ↓en0, ↓enS, eqOk_int, eqOk_str, eqv_int, eqv_str, exists_eq_left', atI0, atI1, atI2, atI3, isa, Int.cast_ofNat_Int, List.length_cons, List.length_nil, List.set_cons_zero, List.set_cons_succ, Option.some.injEq, true_and, and_true, if_true, if_false, Bool.not_true, Bool.not_false, Bool.xor_false, Bool.false_xor, Bool.true_xor, decide_eq_true_eq, Bool.not_eq_true', decide_eq_false_iff_not, Nat.reduceAdd, Nat.zero_add, w_err, fnEnds, shaped_c0, shaped_c1, shaped_c2, shaped_c3, List.map_cons, List.map_nil, Bool.false_eq_true, reduceIte, decide_true, decide_false, Bool.not_eq_true, decide_not, Bool.not_not, ne_eq, Nat.reduceLeDiff, sizeBig, Int.reduceAbs, Int.reduceLE, Int.reduceLT, Int.reduceAdd, Int.reduceSub, Int.reduceMul, Int.reduceNeg, Int.reduceToNat, Int.reducePow, Int.reduceEq, Nat.reducePow, Nat.reduceLT, ofString_inj, String.reduceEq, shaped_lit, shaped_int, shaped_bool, shaped_none, sm_lt, mb_lit_l, mb_lit_r, ↓w_pick, ↓w_pickT, ↓w_draw, w_wipe0, w_wipe1, List.nil_append, List.cons_append, reduceCtorEq, Bool.true_eq_false, eq_self, not_true_eq_false, not_false_eq_true, List.any_cons, List.any_nil, Bool.or_false, Bool.false_or, Bool.or_true, Bool.true_or, Bool.and_true, Bool.true_and, Bool.and_false, Bool.false_and, ↓sp__law_draw, ↓sp__law_pick, gKw_0_ap, gKw_1_0_ap]
      have e1 : (i : Int).fdiv 4 = (i : Int) / 4 := Int.fdiv_eq_ediv_of_nonneg _ (by omega)
      have e2 : (i : Int).fmod 4 = (i : Int) % 4 := Int.fmod_eq_emod_of_nonneg _ (by omega)
      rw [e1, e2]
      exact hK2
    · rw [List.filterMap_eq_map']
      simp only [↓w_seq, ↓w_set, ↓w_ret, ↓w_retN, ↓w_retV, ↓w_if, ↓w_drop, ↓w_asg, ↓w_par, ↓w_par3, ↓w_nx, ↓w_bk, ↓w_ct, ↓w_frz, ↓w_for, ↓w_app, ↓w_ext, ↓w_bin, ↓w_un, ↓w_var, ↓w_con, ↓w_callB, ↓w_nilU, ↓w_consU, ↓w_consS, ↓w_nilD, ↓w_consD, ↓w_consO, ↓w_tup, ↓w_lst, ↓w_dic0, ↓w_and, ↓w_or, ↓w_not, ↓w_ite, ↓w_chain, ↓w_isa, ↓w_fn, ↓w_fnK, ↓w_sl, ↓w_noO, ↓w_someO, ↓w_yes, ↓w_tst, ↓w_lc, ↓w_it, ↓w_enum, ↓w_zip, ↓w_rng1, ↓w_rng2, ↓w_never, ↓w_kNil, ↓w_kCons, ↓w_disp, ↓w_mg0, ↓w_mg1, ↓w_put0, ↓w_keyS, ↓w_keyI, ↓w_sset, ↓w_dicT, ↓w_inT, ↓w_ixT, ↓w_listT, ↓w_stoT, ↓w_stoU, ↓w_enDt, ↓w_onDt, ↓w_enOw, ↓w_onOw, ↓w_stoL, ↓w_stoD, ↓w_enZ, ↓g_min2, ↓g_minL, ↓g_minT, ↓g_max2, ↓g_maxL, ↓g_maxT, ↓g_sum, ↓g_all, ↓g_any, ↓v_use_d, ↓v_arg_d, ↓v_sto_d, ↓v_rd_d, ↓v_frz_d, ↓v_src_d, ↓v_use_own, ↓v_arg_own, ↓v_sto_own, ↓v_rd_own, ↓v_src_own, ↓v_use_bor, ↓v_arg_bor, ↓v_sto_bor, ↓v_rd_bor, ↓v_frz_bor, ↓v_src_bor, ↓v_use_scr, ↓v_arg_scr, ↓v_sto_scr, ↓v_rd_scr, ↓v_frz_scr, ↓v_src_scr, ↓v_use_box, ↓v_arg_box, ↓v_sto_box, ↓v_rd_box, ↓v_frz_box, ↓v_src_box, ↓v_bl, ↓v_frz_L, ↓v_frz_D, ↓v_frz_T, ↓v_rd_L, ↓v_rd_D, ↓v_dat_l, ↓v_dat_d, ↓v_onD, ↓v_onI, ↓v_onL, ↓v_on1, ↓v_on2, ↓v_on3, ↓v_all0, ↓v_all1, ↓v_seqL, ↓v_seqT, ↓v_gNm, ↓v_gNil, ↓v_gCons, ↓v_gTup, ↓g_add, ↓g_addS, ↓g_addT, ↓g_addL, ↓g_sub, ↓g_mul, ↓g_fdiv, ↓g_mod, ↓g_pow, ↓g_eq, ↓g_ne, ↓g_lt, ↓g_gt, ↓g_le, ↓g_ge, ↓g_ltT, ↓g_gtT, ↓g_leT, ↓g_geT, ↓g_inT, ↓g_inL, ↓g_is, ↓g_neg, ↓g_not, ↓g_lenL, ↓g_lenT, ↓g_lenD, ↓g_intI, ↓g_intB, ↓g_abs, ↓g_gcd, ↓g_repr, ↓g_listL, ↓g_listT, ↓g_tupL, ↓g_tupT, ↓g_ixL0, ↓g_ixL1, ↓g_ixL2, ↓g_ixL3, ↓g_ixT0, ↓g_ixT1, ↓g_ixT2, ↓g_ixT3, ↓g_ixL, ↓g_ixT, ↓g_slL, ↓g_slT, ↓g_revL, ↓g_revT, n_non, n_int, n_tup, n_str, n_bl, n_lst, ↓n_enLst, ↓n_onOwn, ↓en0, ↓enS, eqOk_int, eqOk_str, eqv_int, eqv_str, exists_eq_left', atI0, atI1, atI2, atI3, isa, Int.cast_ofNat_Int, List.length_cons, List.length_nil, List.set_cons_zero, List.set_cons_succ, Option.some.injEq, true_and, and_true, if_true, if_false, Bool.not_true, Bool.not_false, Bool.xor_false, Bool.false_xor, Bool.true_xor, decide_eq_true_eq, Bool.not_eq_true', decide_eq_false_iff_not, Nat.reduceAdd, Nat.zero_add, w_err, fnEnds, shaped_c0, shaped_c1, shaped_c2, shaped_c3, List.map_cons, List.map_nil, Bool.false_eq_true, reduceIte, decide_true, decide_false, Bool.not_eq_true, decide_not, Bool.not_not, ne_eq, Nat.reduceLeDiff, sizeBig, Int.reduceAbs, Int.reduceLE, Int.reduceLT, Int.reduceAdd, Int.reduceSub, Int.reduceMul, Int.reduceNeg, Int.reduceToNat, Int.reducePow, Int.reduceEq, Nat.reducePow, Nat.reduceLT, ofString_inj, String.reduceEq, shaped_lit, shaped_int, shaped_bool, shaped_none, sm_lt, mb_lit_l, mb_lit_r, ↓w_pick, ↓w_pickT, ↓w_draw, w_wipe0, w_wipe1, List.nil_append, List.cons_append, reduceCtorEq, Bool.true_eq_false, eq_self, not_true_eq_false, not_false_eq_true, List.any_cons, List.any_nil, Bool.or_false, Bool.false_or, Bool.or_true, Bool.true_or, Bool.and_true, Bool.true_and, Bool.and_false, Bool.false_and, ↓sp__law_draw, ↓sp__law_pick, gKw_0_ap, gKw_1_0_ap]
      simp only [d_law_L1_4, ↓w_seq, ↓w_set, ↓w_ret, ↓w_retN, ↓w_retV, ↓w_if, ↓w_drop, ↓w_asg, ↓w_par, ↓w_par3, ↓w_nx, ↓w_bk, ↓w_ct, ↓w_frz, ↓w_for, ↓w_app, ↓w_ext, ↓w_bin, ↓w_un, ↓w_var, ↓w_con, ↓w_callB, ↓w_nilU, ↓w_consU, ↓w_consS, ↓w_nilD, ↓w_consD, ↓w_consO, ↓w_tup, ↓w_lst, ↓w_dic0, ↓w_and, ↓w_or, ↓w_not, ↓w_ite, ↓w_chain, ↓w_isa, ↓w_fn, ↓w_fnK, ↓w_sl, ↓w_noO, ↓w_someO, ↓w_yes, ↓w_tst, ↓w_lc, ↓w_it, ↓w_enum, ↓w_zip, ↓w_rng1, ↓w_rng2, ↓w_never, ↓w_kNil, ↓w_kCons, ↓w_disp, ↓w_mg0, ↓w_mg1, ↓w_put0, ↓w_keyS, ↓w_keyI, ↓w_sset, ↓w_dicT, ↓w_inT, ↓w_ixT, ↓w_listT, ↓w_stoT, ↓w_stoU, ↓w_enDt, ↓w_onDt, ↓w_enOw, ↓w_onOw, ↓w_stoL, ↓w_stoD, ↓w_enZ, ↓g_min2, ↓g_minL, ↓g_minT, ↓g_max2, ↓g_maxL, ↓g_maxT, ↓g_sum, ↓g_all, ↓g_any, ↓v_use_d, ↓v_arg_d, ↓v_sto_d, ↓v_rd_d, ↓v_frz_d, ↓v_src_d, ↓v_use_own, ↓v_arg_own, ↓v_sto_own, ↓v_rd_own, ↓v_src_own, ↓v_use_bor, ↓v_arg_bor, ↓v_sto_bor, ↓v_rd_bor, ↓v_frz_bor, ↓v_src_bor, ↓v_use_scr, ↓v_arg_scr, ↓v_sto_scr, ↓v_rd_scr, ↓v_frz_scr, ↓v_src_scr, ↓v_use_box, ↓v_arg_box, ↓v_sto_box, ↓v_rd_box, ↓v_frz_box, ↓v_src_box, ↓v_bl, ↓v_frz_L, ↓v_frz_D, ↓v_frz_T, ↓v_rd_L, ↓v_rd_D, ↓v_dat_l, ↓v_dat_d, ↓v_onD, ↓v_onI, ↓v_onL, ↓v_on1, ↓v_on2, ↓v_on3, ↓v_all0, ↓v_all1, ↓v_seqL, ↓v_seqT, ↓v_gNm, ↓v_gNil, ↓v_gCons, ↓v_gTup, ↓g_add, ↓g_addS, ↓g_addT, ↓g_addL, ↓g_sub, ↓g_mul, ↓g_fdiv, ↓g_mod, ↓g_pow, ↓g_eq, ↓g_ne, ↓g_lt, ↓g_gt, ↓g_le, ↓g_ge, ↓g_ltT, ↓g_gtT, ↓g_leT, ↓g_geT, ↓g_inT, ↓g_inL, ↓g_is, ↓g_neg, ↓g_not, ↓g_lenL, ↓g_lenT, ↓g_lenD, ↓g_intI, ↓g_intB, ↓g_abs, ↓g_gcd, ↓g_repr, ↓g_listL, ↓g_listT, ↓g_tupL, ↓g_tupT, ↓g_ixL0, ↓g_ixL1, ↓g_ixL2, ↓g_ixL3, ↓g_ixT0, ↓g_ixT1, ↓g_ixT2, ↓g_ixT3, ↓g_ixL, ↓g_ixT, ↓g_slL, ↓g_slT, ↓g_revL, ↓g_revT, n_non, n_int, n_tup, n_str, n_bl, n_lst, ↓n_enLst, ↓n_onOwn, ↓en0, ↓enS, eqOk_int, eqOk_str, eqv_int, eqv_str, exists_eq_left', atI0, atI1, atI2, atI3, isa, Int.cast_ofNat_Int, List.length_cons, List.length_nil, List.set_cons_zero, List.set_cons_succ, Option.some.injEq, true_and, and_true, if_true, if_false, Bool.not_true, Bool.not_false, Bool.xor_false, Bool.false_xor, Bool.true_xor, decide_eq_true_eq, Bool.not_eq_true', decide_eq_false_iff_not, Nat.reduceAdd, Nat.zero_add, w_err, fnEnds, shaped_c0, shaped_c1, shaped_c2, shaped_c3, List.map_cons, List.map_nil, Bool.false_eq_true, reduceIte, decide_true, decide_false, Bool.not_eq_true, decide_not, Bool.not_not, ne_eq, Nat.reduceLeDiff, sizeBig, Int.reduceAbs, Int.reduceLE, Int.reduceLT, Int.reduceAdd, Int.reduceSub, Int.reduceMul, Int.reduceNeg, Int.reduceToNat, Int.reducePow, Int.reduceEq, Nat.reducePow, Nat.reduceLT, ofString_inj, String.reduceEq, shaped_lit, shaped_int, shaped_bool, shaped_none, sm_lt, mb_lit_l, mb_lit_r, ↓w_pick, ↓w_pickT, ↓w_draw, w_wipe0, w_wipe1, List.nil_append, List.cons_append, reduceCtorEq, Bool.true_eq_false, eq_self, not_true_eq_false, not_false_eq_true, List.any_cons, List.any_nil, Bool.or_false, Bool.false_or, Bool.or_true, Bool.true_or, Bool.and_true, Bool.true_and, Bool.and_false, Bool.false_and, ↓sp__law_draw, ↓sp__law_pick, gKw_0_ap, gKw_1_0_ap]
      split
      · have em : (List.range (1 + c).toNat).map (fun i : Nat => eN ⟨4, 60 + (i : Int) / 4, (i : Int) % 4, 1⟩) = ((List.range (1 + c).toNat).map fun i : Nat => (⟨4, 60 + (i : Int) / 4, (i : Int) % 4, 1⟩ : Nt)).map eN := by rw [List.map_map]; rfl
        rw [em]
        refine ⟨_, rfl, ⟨by rw [List.length_map, List.length_range]; omega, fun x hx => ?_, ?_⟩, ?_⟩
        · obtain ⟨i, hi, rfl⟩ := List.mem_map.mp hx
          have := List.mem_range.mp hi
          exact ⟨by show (0 : Int) ≤ 4; decide, by show (4 : Int) ≤ 9999; decide, by show 0 ≤ 60 + (i : Int) / 4; omega, by show 60 + (i : Int) / 4 ≤ 127; omega, by show 0 ≤ (i : Int) % 4; omega, by show (i : Int) % 4 ≤ 7; omega, by show (1 : Int) ≤ 1; decide, by show (1 : Int) ≤ 999; decide⟩
        · rw [List.pairwise_map]
          refine List.pairwise_lt_range.imp fun {a b} h => ?_
          refine decide_eq_true (.inr ⟨rfl, ?_⟩)
          show 60 + (a : Int) / 4 < 60 + (b : Int) / 4 ∨ (60 + (a : Int) / 4 = 60 + (b : Int) / 4 ∧ (a : Int) % 4 < (b : Int) % 4)
          omega
        · simp only [↓w_seq, ↓w_set, ↓w_ret, ↓w_retN, ↓w_retV, ↓w_if, ↓w_drop, ↓w_asg, ↓w_par, ↓w_par3, ↓w_nx, ↓w_bk, ↓w_ct, ↓w_frz, ↓w_for, ↓w_app, ↓w_ext, ↓w_bin, ↓w_un, ↓w_var, ↓w_con, ↓w_callB, ↓w_nilU, ↓w_consU, ↓w_consS, ↓w_nilD, ↓w_consD, ↓w_consO, ↓w_tup, ↓w_lst, ↓w_dic0, ↓w_and, ↓w_or, ↓w_not, ↓w_ite, ↓w_chain, ↓w_isa, ↓w_fn, ↓w_fnK, ↓w_sl, ↓w_noO, ↓w_someO, ↓w_yes, ↓w_tst, ↓w_lc, ↓w_it, ↓w_enum, ↓w_zip, ↓w_rng1, ↓w_rng2, ↓w_never, ↓w_kNil, ↓w_kCons, ↓w_disp, ↓w_mg0, ↓w_mg1, ↓w_put0, ↓w_keyS, ↓w_keyI, ↓w_sset, ↓w_dicT, ↓w_inT, ↓w_ixT, ↓w_listT, ↓w_stoT, ↓w_stoU, ↓w_enDt, ↓w_onDt, ↓w_enOw, ↓w_onOw, ↓w_stoL, ↓w_stoD, ↓w_enZ, ↓g_min2, ↓g_minL, ↓g_minT, ↓g_max2, ↓g_maxL, ↓g_maxT, ↓g_sum, ↓g_all, ↓g_any, ↓v_use_d, ↓v_arg_d, ↓v_sto_d, ↓v_rd_d, ↓v_frz_d, ↓v_src_d, ↓v_use_own, ↓v_arg_own, ↓v_sto_own, ↓v_rd_own, ↓v_src_own, ↓v_use_bor, ↓v_arg_bor, ↓v_sto_bor, ↓v_rd_bor, ↓v_frz_bor, ↓v_src_bor, ↓v_use_scr, ↓v_arg_scr, ↓v_sto_scr, ↓v_rd_scr, ↓v_frz_scr, ↓v_src_scr, ↓v_use_box, ↓v_arg_box, ↓v_sto_box, ↓v_rd_box, ↓v_frz_box, ↓v_src_box, ↓v_bl, ↓v_frz_L, ↓v_frz_D, ↓v_frz_T, ↓v_rd_L, ↓v_rd_D, ↓v_dat_l, ↓v_dat_d, ↓v_onD, ↓v_onI, ↓v_onL, ↓v_on1, ↓v_on2, ↓v_on3, ↓v_all0, ↓v_all1, ↓v_seqL, ↓v_seqT, ↓v_gNm, ↓v_gNil, ↓v_gCons, ↓v_gTup, ↓g_add, ↓g_addS, ↓g_addT, ↓g_addL, ↓g_sub, ↓g_mul, ↓g_fdiv, ↓g_mod, ↓g_pow, ↓g_eq, ↓g_ne, ↓g_lt, ↓g_gt, ↓g_le, ↓g_ge, ↓g_ltT, ↓g_gtT, ↓g_leT, ↓g_geT, ↓g_inT, ↓g_inL, ↓g_is, ↓g_neg, ↓g_not, ↓g_lenL, ↓g_lenT, ↓g_lenD, ↓g_intI, ↓g_intB, ↓g_abs, ↓g_gcd, ↓g_repr, ↓g_listL, ↓g_listT, ↓g_tupL, ↓g_tupT, ↓g_ixL0, ↓g_ixL1, ↓g_ixL2, ↓g_ixL3, ↓g_ixT0, ↓g_ixT1, ↓g_ixT2, ↓g_ixT3, ↓g_ixL, ↓g_ixT, ↓g_slL, ↓g_slT, ↓g_revL, ↓g_revT, n_non, n_int, n_tup, n_str, n_bl, n_lst, ↓n_enLst, ↓n_onOwn, ↓en0, ↓enS, eqOk_int, eqOk_str, eqv_int, eqv_str, exists_eq_left', atI0, atI1, atI2, atI3, isa, Int.cast_ofNat_Int, List.length_cons, List.length_nil, List.set_cons_zero, List.set_cons_succ, Option.some.injEq, true_and, and_true, if_true, if_false, Bool.not_true, Bool.not_false, Bool.xor_false, Bool.false_xor, Bool.true_xor, decide_eq_true_eq, Bool.not_eq_true', decide_eq_false_iff_not, Nat.reduceAdd, Nat.zero_add, w_err, fnEnds, shaped_c0, shaped_c1, shaped_c2, shaped_c3, List.map_cons, List.map_nil, Bool.false_eq_true, reduceIte, decide_true, decide_false, Bool.not_eq_true, decide_not, Bool.not_not, ne_eq, Nat.reduceLeDiff, sizeBig, Int.reduceAbs, Int.reduceLE, Int.reduceLT, Int.reduceAdd, Int.reduceSub, Int.reduceMul, Int.reduceNeg, Int.reduceToNat, Int.reducePow, Int.reduceEq, Nat.reducePow, Nat.reduceLT, ofString_inj, String.reduceEq, shaped_lit, shaped_int, shaped_bool, shaped_none, sm_lt, mb_lit_l, mb_lit_r, ↓w_pick, ↓w_pickT, ↓w_draw, w_wipe0, w_wipe1, List.nil_append, List.cons_append, reduceCtorEq, Bool.true_eq_false, eq_self, not_true_eq_false, not_false_eq_true, List.any_cons, List.any_nil, Bool.or_false, Bool.false_or, Bool.or_true, Bool.true_or, Bool.and_true, Bool.true_and, Bool.and_false, Bool.false_and, ↓sp__law_draw, ↓sp__law_pick, gKw_0_ap, gKw_1_0_ap]
          exact hK _ ⟨_, _, _, _, rfl⟩
      · exact hK _ ⟨_, _, _, _, rfl⟩

theorem hbox_law : ∀ ns Q Ex, ns.length ≤ 63 → (∀ o, boxOk1 o → Q (.own o)) → sp__law_box [.scr ns] Q Ex := fun ns Q Ex h q => ⟨h, q⟩
theorem hk_law {K : PySem.W.Frag} : ∀ (F H : Hp) (b : Addr) (o : Ow), boxOk1 o → OwR K F H b o → F b = none → Same F H → ∃ l, l ≠ [] ∧ bx1.ok H b l := fun F H b o h w hf e => box1_is F H b o h w hf e
section
variable {P : Program} {w : World} {K : PySem.W.Frag} {mg : Str → Option Value} {base : Heap}
theorem ok_points_of {fa : Addr} {fd : FuncData} (T : Tx K mg) (kin : K.In base) (F : Fun K "points_of" "points_of" s_points_of fa fd) : FnG P w K mg base 1 fa fd p_points_of (liftSp bx1 K mg 1 sp_points_of) :=
  FnG.data F sc_points_of rfl (fun cdv A outer s H E hr hg => b_points_of T kin hr hg) h_points_of
theorem ok_voices_of {fa : Addr} {fd : FuncData} (T : Tx K mg) (kin : K.In base) (F : Fun K "voices_of" "voices_of" s_voices_of fa fd) : FnG P w K mg base 1 fa fd p_voices_of (liftSp bx1 K mg 1 sp_voices_of) :=
  FnG.data F sc_voices_of rfl (fun cdv A outer s H E hr hg => b_voices_of T kin hr hg) h_voices_of
theorem ok_notes_at {fa : Addr} {fd : FuncData} (T : Tx K mg) (kin : K.In base) (F : Fun K "notes_at" "notes_at" s_notes_at fa fd) : FnG P w K mg base 1 fa fd p_notes_at (liftSp bx1 K mg 2 sp_notes_at) :=
  FnG.data F sc_notes_at rfl (fun cdv A outer s H E hr hg => b_notes_at T kin hr hg) h_notes_at
theorem ok__law_box {fa : Addr} {fd : FuncData} (T : Tx K mg) (kin : K.In base) (F : Fun K "_law_box" "_law_box" s__law_box fa fd) : FnG P w K mg base 1 fa fd p__law_box (liftSp bx1 K mg 1 sp__law_box) :=
  FnG.data F sc__law_box rfl (fun cdv A outer s H E hr hg => b__law_box T kin hr hg) h__law_box
theorem ok__law_once {fa : Addr} {fd : FuncData} (T : Tx K mg) (kin : K.In base) (F : Fun K "_law_once" "_law_once" s__law_once fa fd) : FnG P w K mg base 1 fa fd p__law_once (liftSp bx1 K mg 1 sp__law_once) :=
  FnG.data F sc__law_once rfl (fun cdv A outer s H E hr hg => b__law_once T kin hr hg) h__law_once
theorem ok__law_pick {fa : Addr} {fd : FuncData} (T : Tx K mg) (kin : K.In base) (F__law_draw : FnAt P w K mg base bx1 1 "_law_draw" 2 p__law_draw sp__law_draw) (F : Fun K "_law_pick" "_law_pick" s__law_pick fa fd) : FnG P w K mg base 2 fa fd p__law_pick (liftSp bx1 K mg 2 sp__law_pick) :=
  FnG.data F sc__law_pick rfl (fun cdv A outer s H E hr hg => b__law_pick T kin F__law_draw hr hg) h__law_pick
theorem ok__law_is_right {fa : Addr} {fd : FuncData} (T : Tx K mg) (kin : K.In base) (F_points_of : FnAt P w K mg base bx1 1 "points_of" 1 p_points_of sp_points_of) (F_voices_of : FnAt P w K mg base bx1 1 "voices_of" 1 p_voices_of sp_voices_of) (F_notes_at : FnAt P w K mg base bx1 1 "notes_at" 2 p_notes_at sp_notes_at) (F__law_draw : FnAt P w K mg base bx1 1 "_law_draw" 2 p__law_draw sp__law_draw) (F__law_once : FnAt P w K mg base bx1 1 "_law_once" 1 p__law_once sp__law_once) (K_points_of_0 : FnKw P w K mg base bx1 1 "points_of" 1 p_points_of ["score"] gKw_0 sp_points_of) (K_notes_at_1_0 : FnKw P w K mg base bx1 1 "notes_at" 2 p_notes_at ["point", "score"] gKw_1_0 sp_notes_at) (K_voices_of_0 : FnKw P w K mg base bx1 1 "voices_of" 1 p_voices_of ["score"] gKw_0 sp_voices_of) (F : Fun K "_law_is_right" "_law_is_right" s__law_is_right fa fd) : FnG P w K mg base 2 fa fd p__law_is_right (liftSp bx1 K mg 2 sp__law_is_right) :=
  FnG.data F sc__law_is_right rfl (fun cdv A outer s H E hr hg => b__law_is_right T kin F_points_of F_voices_of F_notes_at F__law_draw F__law_once K_points_of_0 K_notes_at_1_0 K_voices_of_0 hr hg) h__law_is_right
theorem ok__law_note {fa : Addr} {fd : FuncData} (T : Tx K mg) (kin : K.In base) (F__law_draw : FnAt P w K mg base bx1 1 "_law_draw" 2 p__law_draw sp__law_draw) (F__law_pick : FnAt P w K mg base bx1 2 "_law_pick" 2 p__law_pick sp__law_pick) (F : Fun K "_law_note" "_law_note" s__law_note fa fd) : FnG P w K mg base 3 fa fd p__law_note (liftSp bx1 K mg 1 sp__law_note) :=
  FnG.data F sc__law_note rfl (fun cdv A outer s H E hr hg => b__law_note T kin F__law_draw F__law_pick hr hg) h__law_note
theorem ok__law_score {fa : Addr} {fd : FuncData} (T : Tx K mg) (kin : K.In base) (F__law_draw : FnAt P w K mg base bx1 1 "_law_draw" 2 p__law_draw sp__law_draw) (F__law_note : FnAt P w K mg base bx1 3 "_law_note" 1 p__law_note sp__law_note) (F : Fun K "_law_score" "_law_score" s__law_score fa fd) : FnG P w K mg base 4 fa fd p__law_score (liftSp bx1 K mg 2 sp__law_score) :=
  FnG.data F sc__law_score rfl (fun cdv A outer s H E hr hg => b__law_score T kin F__law_draw F__law_note hr hg) h__law_score
theorem ok__law_draw {fa : Addr} {fd : FuncData} (T : Tx K mg) (kin : K.In base) (F : Fun K "_law_draw" "_law_draw" s__law_draw fa fd) : FnG P w K mg base 1 fa fd p__law_draw (liftSp bx1 K mg 2 sp__law_draw) :=
  FnG.draw1 F sc__law_draw rfl rfl fun cdv A outer s H E hr hg => b__law_draw T kin hr hg
theorem ok_law {fa : Addr} {fd : FuncData} (T : Tx K mg) (kin : K.In base) (F_points_of : FnAt P w K mg base bx1 1 "points_of" 1 p_points_of sp_points_of) (F_voices_of : FnAt P w K mg base bx1 1 "voices_of" 1 p_voices_of sp_voices_of) (F_notes_at : FnAt P w K mg base bx1 1 "notes_at" 2 p_notes_at sp_notes_at) (F__law_box : FnAt P w K mg base bx1 1 "_law_box" 1 p__law_box sp__law_box) (F__law_draw : FnAt P w K mg base bx1 1 "_law_draw" 2 p__law_draw sp__law_draw) (F__law_score : FnAt P w K mg base bx1 4 "_law_score" 2 p__law_score sp__law_score) (F__law_is_right : FnAt P w K mg base bx1 2 "_law_is_right" 2 p__law_is_right sp__law_is_right) (F : Fun K "law" "law" s_law fa fd) : FnG P w K mg base 5 fa fd p_law (spLaw K) := by
  obtain ⟨s0, rest, hbody⟩ : ∃ s0 rest, defBody s_law = s0 :: rest := ⟨_, _, rfl⟩
  refine FnG.law (D := d_law) F sc_law (by decide) hbody (fun cdv A outer s H E hr hg => ?_) hbox_law hk_law h_law
  obtain ⟨s1, r1, e, h0, h1⟩ := b_law T kin F_points_of F_voices_of F_notes_at F__law_box F__law_draw F__law_score F__law_is_right hr hg
  rw [hbody] at e
  cases e
  exact ⟨h0, h1⟩
end
theorem all_mk {l : PySem.W.OpenLaw} {w : World} {K : PySem.W.Frag} {h : Heap} {mg : Str → Option Value} {fa : Addr} (X : K.In h) (G : h.Ns mainGlobals mg) (hfa : mg "law" = some (.ref fa)) {f_points_of : Addr} {f_voices_of : Addr} {f_notes_at : Addr} {f__law_box : Addr} {f__law_draw : Addr} {f__law_once : Addr} {f__law_pick : Addr} {f__law_is_right : Addr} {f__law_note : Addr} {f__law_score : Addr} {f_law : Addr}
    {od_points_of an_points_of : Option Addr} {sl_points_of : Array (Option Value)} {oc_points_of kV_points_of dc_points_of pm_points_of cd_points_of ct_points_of : Value}
    {od_voices_of an_voices_of : Option Addr} {sl_voices_of : Array (Option Value)} {oc_voices_of kV_voices_of dc_voices_of pm_voices_of cd_voices_of ct_voices_of : Value}
    {od_notes_at an_notes_at : Option Addr} {sl_notes_at : Array (Option Value)} {oc_notes_at kV_notes_at dc_notes_at pm_notes_at cd_notes_at ct_notes_at : Value}
    {od__law_box an__law_box : Option Addr} {sl__law_box : Array (Option Value)} {oc__law_box kV__law_box dc__law_box pm__law_box cd__law_box ct__law_box : Value}
    {od__law_draw an__law_draw : Option Addr} {sl__law_draw : Array (Option Value)} {oc__law_draw kV__law_draw dc__law_draw pm__law_draw cd__law_draw ct__law_draw : Value}
    {od__law_once an__law_once : Option Addr} {sl__law_once : Array (Option Value)} {oc__law_once kV__law_once dc__law_once pm__law_once cd__law_once ct__law_once : Value}
    {od__law_pick an__law_pick : Option Addr} {sl__law_pick : Array (Option Value)} {oc__law_pick kV__law_pick dc__law_pick pm__law_pick cd__law_pick ct__law_pick : Value}
    {od__law_is_right an__law_is_right : Option Addr} {sl__law_is_right : Array (Option Value)} {oc__law_is_right kV__law_is_right dc__law_is_right pm__law_is_right cd__law_is_right ct__law_is_right : Value}
    {od__law_note an__law_note : Option Addr} {sl__law_note : Array (Option Value)} {oc__law_note kV__law_note dc__law_note pm__law_note cd__law_note ct__law_note : Value}
    {od__law_score an__law_score : Option Addr} {sl__law_score : Array (Option Value)} {oc__law_score kV__law_score dc__law_score pm__law_score cd__law_score ct__law_score : Value}
    {od_law an_law : Option Addr} {sl_law : Array (Option Value)} {oc_law kV_law dc_law pm_law cd_law ct_law : Value}
    (a_points_of : PySem.W.nsIn K mainGlobals "points_of" = some (some (.ref f_points_of))) (l_points_of : K.lookup f_points_of = some ⟨oc_points_of, od_points_of, .func (PySem.W.fnOf "points_of" "points_of" (defArgs s_points_of) (defBody s_points_of) (defScope s_points_of) .none kV_points_of dc_points_of pm_points_of an_points_of cd_points_of ct_points_of), sl_points_of⟩) (c_points_of : PySem.W.codeIn K cd_points_of "points_of" = true) (k_points_of : PySem.W.keepIn K (.ref f_points_of) = true)
    (a_voices_of : PySem.W.nsIn K mainGlobals "voices_of" = some (some (.ref f_voices_of))) (l_voices_of : K.lookup f_voices_of = some ⟨oc_voices_of, od_voices_of, .func (PySem.W.fnOf "voices_of" "voices_of" (defArgs s_voices_of) (defBody s_voices_of) (defScope s_voices_of) .none kV_voices_of dc_voices_of pm_voices_of an_voices_of cd_voices_of ct_voices_of), sl_voices_of⟩) (c_voices_of : PySem.W.codeIn K cd_voices_of "voices_of" = true) (k_voices_of : PySem.W.keepIn K (.ref f_voices_of) = true)
    (a_notes_at : PySem.W.nsIn K mainGlobals "notes_at" = some (some (.ref f_notes_at))) (l_notes_at : K.lookup f_notes_at = some ⟨oc_notes_at, od_notes_at, .func (PySem.W.fnOf "notes_at" "notes_at" (defArgs s_notes_at) (defBody s_notes_at) (defScope s_notes_at) .none kV_notes_at dc_notes_at pm_notes_at an_notes_at cd_notes_at ct_notes_at), sl_notes_at⟩) (c_notes_at : PySem.W.codeIn K cd_notes_at "notes_at" = true) (k_notes_at : PySem.W.keepIn K (.ref f_notes_at) = true)
    (a__law_box : PySem.W.nsIn K mainGlobals "_law_box" = some (some (.ref f__law_box))) (l__law_box : K.lookup f__law_box = some ⟨oc__law_box, od__law_box, .func (PySem.W.fnOf "_law_box" "_law_box" (defArgs s__law_box) (defBody s__law_box) (defScope s__law_box) .none kV__law_box dc__law_box pm__law_box an__law_box cd__law_box ct__law_box), sl__law_box⟩) (c__law_box : PySem.W.codeIn K cd__law_box "_law_box" = true) (k__law_box : PySem.W.keepIn K (.ref f__law_box) = true)
    (a__law_draw : PySem.W.nsIn K mainGlobals "_law_draw" = some (some (.ref f__law_draw))) (l__law_draw : K.lookup f__law_draw = some ⟨oc__law_draw, od__law_draw, .func (PySem.W.fnOf "_law_draw" "_law_draw" (defArgs s__law_draw) (defBody s__law_draw) (defScope s__law_draw) .none kV__law_draw dc__law_draw pm__law_draw an__law_draw cd__law_draw ct__law_draw), sl__law_draw⟩) (c__law_draw : PySem.W.codeIn K cd__law_draw "_law_draw" = true) (k__law_draw : PySem.W.keepIn K (.ref f__law_draw) = true)
    (a__law_once : PySem.W.nsIn K mainGlobals "_law_once" = some (some (.ref f__law_once))) (l__law_once : K.lookup f__law_once = some ⟨oc__law_once, od__law_once, .func (PySem.W.fnOf "_law_once" "_law_once" (defArgs s__law_once) (defBody s__law_once) (defScope s__law_once) .none kV__law_once dc__law_once pm__law_once an__law_once cd__law_once ct__law_once), sl__law_once⟩) (c__law_once : PySem.W.codeIn K cd__law_once "_law_once" = true) (k__law_once : PySem.W.keepIn K (.ref f__law_once) = true)
    (a__law_pick : PySem.W.nsIn K mainGlobals "_law_pick" = some (some (.ref f__law_pick))) (l__law_pick : K.lookup f__law_pick = some ⟨oc__law_pick, od__law_pick, .func (PySem.W.fnOf "_law_pick" "_law_pick" (defArgs s__law_pick) (defBody s__law_pick) (defScope s__law_pick) .none kV__law_pick dc__law_pick pm__law_pick an__law_pick cd__law_pick ct__law_pick), sl__law_pick⟩) (c__law_pick : PySem.W.codeIn K cd__law_pick "_law_pick" = true) (k__law_pick : PySem.W.keepIn K (.ref f__law_pick) = true)
    (a__law_is_right : PySem.W.nsIn K mainGlobals "_law_is_right" = some (some (.ref f__law_is_right))) (l__law_is_right : K.lookup f__law_is_right = some ⟨oc__law_is_right, od__law_is_right, .func (PySem.W.fnOf "_law_is_right" "_law_is_right" (defArgs s__law_is_right) (defBody s__law_is_right) (defScope s__law_is_right) .none kV__law_is_right dc__law_is_right pm__law_is_right an__law_is_right cd__law_is_right ct__law_is_right), sl__law_is_right⟩) (c__law_is_right : PySem.W.codeIn K cd__law_is_right "_law_is_right" = true) (k__law_is_right : PySem.W.keepIn K (.ref f__law_is_right) = true)
    (a__law_note : PySem.W.nsIn K mainGlobals "_law_note" = some (some (.ref f__law_note))) (l__law_note : K.lookup f__law_note = some ⟨oc__law_note, od__law_note, .func (PySem.W.fnOf "_law_note" "_law_note" (defArgs s__law_note) (defBody s__law_note) (defScope s__law_note) .none kV__law_note dc__law_note pm__law_note an__law_note cd__law_note ct__law_note), sl__law_note⟩) (c__law_note : PySem.W.codeIn K cd__law_note "_law_note" = true) (k__law_note : PySem.W.keepIn K (.ref f__law_note) = true)
    (a__law_score : PySem.W.nsIn K mainGlobals "_law_score" = some (some (.ref f__law_score))) (l__law_score : K.lookup f__law_score = some ⟨oc__law_score, od__law_score, .func (PySem.W.fnOf "_law_score" "_law_score" (defArgs s__law_score) (defBody s__law_score) (defScope s__law_score) .none kV__law_score dc__law_score pm__law_score an__law_score cd__law_score ct__law_score), sl__law_score⟩) (c__law_score : PySem.W.codeIn K cd__law_score "_law_score" = true) (k__law_score : PySem.W.keepIn K (.ref f__law_score) = true)
    (a_law : PySem.W.nsIn K mainGlobals "law" = some (some (.ref f_law))) (l_law : K.lookup f_law = some ⟨oc_law, od_law, .func (PySem.W.fnOf "law" "law" (defArgs s_law) (defBody s_law) (defScope s_law) .none kV_law dc_law pm_law an_law cd_law ct_law), sl_law⟩) (c_law : PySem.W.codeIn K cd_law "law" = true) (k_law : PySem.W.keepIn K (.ref f_law) = true)
    (z_abs : PySem.W.nsIn K mainGlobals "abs" = some none)
    (z_enumerate : PySem.W.nsIn K mainGlobals "enumerate" = some none)
    (z_int : PySem.W.nsIn K mainGlobals "int" = some none)
    (z_len : PySem.W.nsIn K mainGlobals "len" = some none)
    (z_list : PySem.W.nsIn K mainGlobals "list" = some none)
    (z_range : PySem.W.nsIn K mainGlobals "range" = some none)
    (z_repr : PySem.W.nsIn K mainGlobals "repr" = some none)
    (z_set : PySem.W.nsIn K mainGlobals "set" = some none)
    (z_sorted : PySem.W.nsIn K mainGlobals "sorted" = some none)
    (z_tuple : PySem.W.nsIn K mainGlobals "tuple" = some none) :
    ∃ fd : FuncData, (∀ (s : Shared) (v : Value), BindsTo s fd ⟨[v], []⟩ [("script", v)]) ∧ ∀ base : Heap, K.In base → base.Ns mainGlobals mg → FnG l.prog w K mg base 5 fa fd ["script"] (spLaw K) := by
  have e := hfa.symm.trans (PySem.W.mg_of X G a_law)
  cases e
  have T : Tx K mg := { sys := trivial, z_abs := PySem.W.mg_none_of X G z_abs, z_enumerate := PySem.W.mg_none_of X G z_enumerate, z_int := PySem.W.mg_none_of X G z_int, z_len := PySem.W.mg_none_of X G z_len, z_list := PySem.W.mg_none_of X G z_list, z_range := PySem.W.mg_none_of X G z_range, z_repr := PySem.W.mg_none_of X G z_repr, z_set := PySem.W.mg_none_of X G z_set, z_sorted := PySem.W.mg_none_of X G z_sorted, z_tuple := PySem.W.mg_none_of X G z_tuple }
  have E_points_of := fun_mk (st := s_points_of) l_points_of c_points_of k_points_of
  have B_points_of := E_points_of.binds (ps := p_points_of) fun _ _ _ _ _ _ us hl => match us, hl with | [_], _ => rfl
  have E_voices_of := fun_mk (st := s_voices_of) l_voices_of c_voices_of k_voices_of
  have B_voices_of := E_voices_of.binds (ps := p_voices_of) fun _ _ _ _ _ _ us hl => match us, hl with | [_], _ => rfl
  have E_notes_at := fun_mk (st := s_notes_at) l_notes_at c_notes_at k_notes_at
  have B_notes_at := E_notes_at.binds (ps := p_notes_at) fun _ _ _ _ _ _ us hl => match us, hl with | [_, _], _ => rfl
  have E__law_box := fun_mk (st := s__law_box) l__law_box c__law_box k__law_box
  have B__law_box := E__law_box.binds (ps := p__law_box) fun _ _ _ _ _ _ us hl => match us, hl with | [_], _ => rfl
  have E__law_draw := fun_mk (st := s__law_draw) l__law_draw c__law_draw k__law_draw
  have B__law_draw := E__law_draw.binds (ps := p__law_draw) fun _ _ _ _ _ _ us hl => match us, hl with | [_, _], _ => rfl
  have E__law_once := fun_mk (st := s__law_once) l__law_once c__law_once k__law_once
  have B__law_once := E__law_once.binds (ps := p__law_once) fun _ _ _ _ _ _ us hl => match us, hl with | [_], _ => rfl
  have E__law_pick := fun_mk (st := s__law_pick) l__law_pick c__law_pick k__law_pick
  have B__law_pick := E__law_pick.binds (ps := p__law_pick) fun _ _ _ _ _ _ us hl => match us, hl with | [_, _], _ => rfl
  have E__law_is_right := fun_mk (st := s__law_is_right) l__law_is_right c__law_is_right k__law_is_right
  have B__law_is_right := E__law_is_right.binds (ps := p__law_is_right) fun _ _ _ _ _ _ us hl => match us, hl with | [_, _], _ => rfl
  have E__law_note := fun_mk (st := s__law_note) l__law_note c__law_note k__law_note
  have B__law_note := E__law_note.binds (ps := p__law_note) fun _ _ _ _ _ _ us hl => match us, hl with | [_], _ => rfl
  have E__law_score := fun_mk (st := s__law_score) l__law_score c__law_score k__law_score
  have B__law_score := E__law_score.binds (ps := p__law_score) fun _ _ _ _ _ _ us hl => match us, hl with | [_, _], _ => rfl
  have E_law := fun_mk (st := s_law) l_law c_law k_law
  have B_law := E_law.binds (ps := p_law) fun _ _ _ _ _ _ us hl => match us, hl with | [_], _ => rfl
  refine ⟨PySem.W.fnOf "law" "law" (defArgs s_law) (defBody s_law) (defScope s_law) .none kV_law dc_law pm_law an_law cd_law ct_law, fun s v => .of_eq rfl, fun base kin _ => ?_⟩
  have G_points_of := ok_points_of (P := l.prog) (w := w) (mg := mg) (base := base) T kin E_points_of
  have F_points_of : FnAt l.prog w K mg base bx1 1 "points_of" 1 p_points_of sp_points_of := ⟨_, _, G_points_of, PySem.W.mg_of X G a_points_of, k_points_of, B_points_of⟩
  have K_points_of_0 : FnKw l.prog w K mg base bx1 1 "points_of" 1 p_points_of ["score"] gKw_0 sp_points_of := ⟨_, _, G_points_of, PySem.W.mg_of X G a_points_of, k_points_of, HA.Fun.kwb (g := fun xs => gKw_0 xs) E_points_of (fun _ _ _ _ _ _ ws hl => match ws, hl with | [_], _ => rfl) (fun h => gKw_0_rel _ _ _ h)⟩
  have G_voices_of := ok_voices_of (P := l.prog) (w := w) (mg := mg) (base := base) T kin E_voices_of
  have F_voices_of : FnAt l.prog w K mg base bx1 1 "voices_of" 1 p_voices_of sp_voices_of := ⟨_, _, G_voices_of, PySem.W.mg_of X G a_voices_of, k_voices_of, B_voices_of⟩
  have K_voices_of_0 : FnKw l.prog w K mg base bx1 1 "voices_of" 1 p_voices_of ["score"] gKw_0 sp_voices_of := ⟨_, _, G_voices_of, PySem.W.mg_of X G a_voices_of, k_voices_of, HA.Fun.kwb (g := fun xs => gKw_0 xs) E_voices_of (fun _ _ _ _ _ _ ws hl => match ws, hl with | [_], _ => rfl) (fun h => gKw_0_rel _ _ _ h)⟩
  have G_notes_at := ok_notes_at (P := l.prog) (w := w) (mg := mg) (base := base) T kin E_notes_at
  have F_notes_at : FnAt l.prog w K mg base bx1 1 "notes_at" 2 p_notes_at sp_notes_at := ⟨_, _, G_notes_at, PySem.W.mg_of X G a_notes_at, k_notes_at, B_notes_at⟩
  have K_notes_at_1_0 : FnKw l.prog w K mg base bx1 1 "notes_at" 2 p_notes_at ["point", "score"] gKw_1_0 sp_notes_at := ⟨_, _, G_notes_at, PySem.W.mg_of X G a_notes_at, k_notes_at, HA.Fun.kwb (g := fun xs => gKw_1_0 xs) E_notes_at (fun _ _ _ _ _ _ ws hl => match ws, hl with | [_, _], _ => rfl) (fun h => gKw_1_0_rel _ _ _ h)⟩
  have G__law_box := ok__law_box (P := l.prog) (w := w) (mg := mg) (base := base) T kin E__law_box
  have F__law_box : FnAt l.prog w K mg base bx1 1 "_law_box" 1 p__law_box sp__law_box := ⟨_, _, G__law_box, PySem.W.mg_of X G a__law_box, k__law_box, B__law_box⟩
  have G__law_draw := ok__law_draw (P := l.prog) (w := w) (mg := mg) (base := base) T kin E__law_draw
  have F__law_draw : FnAt l.prog w K mg base bx1 1 "_law_draw" 2 p__law_draw sp__law_draw := ⟨_, _, G__law_draw, PySem.W.mg_of X G a__law_draw, k__law_draw, B__law_draw⟩
  have G__law_once := ok__law_once (P := l.prog) (w := w) (mg := mg) (base := base) T kin E__law_once
  have F__law_once : FnAt l.prog w K mg base bx1 1 "_law_once" 1 p__law_once sp__law_once := ⟨_, _, G__law_once, PySem.W.mg_of X G a__law_once, k__law_once, B__law_once⟩
  have G__law_pick := ok__law_pick (P := l.prog) (w := w) (mg := mg) (base := base) T kin F__law_draw E__law_pick
  have F__law_pick : FnAt l.prog w K mg base bx1 2 "_law_pick" 2 p__law_pick sp__law_pick := ⟨_, _, G__law_pick, PySem.W.mg_of X G a__law_pick, k__law_pick, B__law_pick⟩
  have G__law_is_right := ok__law_is_right (P := l.prog) (w := w) (mg := mg) (base := base) T kin F_points_of F_voices_of F_notes_at F__law_draw F__law_once K_points_of_0 K_notes_at_1_0 K_voices_of_0 E__law_is_right
  have F__law_is_right : FnAt l.prog w K mg base bx1 2 "_law_is_right" 2 p__law_is_right sp__law_is_right := ⟨_, _, G__law_is_right, PySem.W.mg_of X G a__law_is_right, k__law_is_right, B__law_is_right⟩
  have G__law_note := ok__law_note (P := l.prog) (w := w) (mg := mg) (base := base) T kin F__law_draw F__law_pick E__law_note
  have F__law_note : FnAt l.prog w K mg base bx1 3 "_law_note" 1 p__law_note sp__law_note := ⟨_, _, G__law_note, PySem.W.mg_of X G a__law_note, k__law_note, B__law_note⟩
  have G__law_score := ok__law_score (P := l.prog) (w := w) (mg := mg) (base := base) T kin F__law_draw F__law_note E__law_score
  have F__law_score : FnAt l.prog w K mg base bx1 4 "_law_score" 2 p__law_score sp__law_score := ⟨_, _, G__law_score, PySem.W.mg_of X G a__law_score, k__law_score, B__law_score⟩
  exact ok_law T kin F_points_of F_voices_of F_notes_at F__law_box F__law_draw F__law_score F__law_is_right E_law
end K02
open PySem PySem.W PyProof.Rows
set_option Elab.async false
set_option maxRecDepth 100000 in
set_option maxHeartbeats 0 in
theorem PySem.Challenge.cw_heardagain_k02_points_and_voices_holds : PySem.Challenge.rw_heardagain_k02_points_and_voices.Holds := by
  w_on; o_law; k_head; (case hw => w_witness2)
  k_fill
  refine HA.walk_ofG (l := PySem.Challenge.rw_heardagain_k02_points_and_voices) (k := 5) (x := "script") rfl rfl ⟨rfl, by decide, by decide⟩ (fun w h Y => PySem.W.kIn_of Y) ?F
  case F =>
    intro w mg fa h KX G hmg
    refine' K02.all_mk KX G hmg ?a_points_of ?l_points_of ?c_points_of ?k_points_of ?a_voices_of ?l_voices_of ?c_voices_of ?k_voices_of ?a_notes_at ?l_notes_at ?c_notes_at ?k_notes_at ?a__law_box ?l__law_box ?c__law_box ?k__law_box ?a__law_draw ?l__law_draw ?c__law_draw ?k__law_draw ?a__law_once ?l__law_once ?c__law_once ?k__law_once ?a__law_pick ?l__law_pick ?c__law_pick ?k__law_pick ?a__law_is_right ?l__law_is_right ?c__law_is_right ?k__law_is_right ?a__law_note ?l__law_note ?c__law_note ?k__law_note ?a__law_score ?l__law_score ?c__law_score ?k__law_score ?a_law ?l_law ?c_law ?k_law ?z_abs ?z_enumerate ?z_int ?z_len ?z_list ?z_range ?z_repr ?z_set ?z_sorted ?z_tuple
    (case a_points_of => first | k_is | rfl); (case l_points_of => first | k_is | rfl); (case c_points_of => first | k_is | rfl); (case k_points_of => first | k_is | rfl); (case a_voices_of => first | k_is | rfl); (case l_voices_of => first | k_is | rfl); (case c_voices_of => first | k_is | rfl); (case k_voices_of => first | k_is | rfl); (case a_notes_at => first | k_is | rfl); (case l_notes_at => first | k_is | rfl); (case c_notes_at => first | k_is | rfl); (case k_notes_at => first | k_is | rfl); (case a__law_box => first | k_is | rfl); (case l__law_box => first | k_is | rfl); (case c__law_box => first | k_is | rfl); (case k__law_box => first | k_is | rfl); (case a__law_draw => first | k_is | rfl); (case l__law_draw => first | k_is | rfl); (case c__law_draw => first | k_is | rfl); (case k__law_draw => first | k_is | rfl); (case a__law_once => first | k_is | rfl); (case l__law_once => first | k_is | rfl); (case c__law_once => first | k_is | rfl); (case k__law_once => first | k_is | rfl); (case a__law_pick => first | k_is | rfl); (case l__law_pick => first | k_is | rfl); (case c__law_pick => first | k_is | rfl); (case k__law_pick => first | k_is | rfl); (case a__law_is_right => first | k_is | rfl); (case l__law_is_right => first | k_is | rfl); (case c__law_is_right => first | k_is | rfl); (case k__law_is_right => first | k_is | rfl); (case a__law_note => first | k_is | rfl); (case l__law_note => first | k_is | rfl); (case c__law_note => first | k_is | rfl); (case k__law_note => first | k_is | rfl); (case a__law_score => first | k_is | rfl); (case l__law_score => first | k_is | rfl); (case c__law_score => first | k_is | rfl); (case k__law_score => first | k_is | rfl); (case a_law => first | k_is | rfl); (case l_law => first | k_is | rfl); (case c_law => first | k_is | rfl); (case k_law => first | k_is | rfl); (case z_abs => first | k_is | rfl); (case z_enumerate => first | k_is | rfl); (case z_int => first | k_is | rfl); (case z_len => first | k_is | rfl); (case z_list => first | k_is | rfl); (case z_range => first | k_is | rfl); (case z_repr => first | k_is | rfl); (case z_set => first | k_is | rfl); (case z_sorted => first | k_is | rfl); (case z_tuple => first | k_is | rfl)
