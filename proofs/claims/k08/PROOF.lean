import PyProof.Rows.All
import Wide.All
import OpenK.AllK
import Wide.FinOn
import HandS.ForMost
import HandS.Exc
import HandS.ExcOwn
import HandS.TryOnly
import HandS.WordsExc
import HandS.ExcInit
import HandS.CallSlots
import HandS.Deep
import HandS.IsInst
import HandS.Gcd
import HandS.Wide
import HandS.TupAny
import PyProof.ReprRoads
import KE.DataCmp
import HandS.WideBits
import HandS.Style
import KE.KRevSl
import HandS.Small
import PyProof.ReprLen
import PySem.Challenge.RW_heardagain_k08_what_are_fractions_and_mo
set_option Elab.async false
set_option linter.all false
set_option maxRecDepth 100000
set_option maxHeartbeats 4000000
/-! ### data in the abstract heap -/
namespace HA
open PySem PySem.Spec PyProof.Rows L2

def keyD : Key → PyData
  | .inl i => .int i
  | .inr x => .str x

mutual
/-- v stands for the datum in the frozen part F -/
inductive Rp (K : PySem.W.Frag) (F : Hp) : V → PyData → Prop
  | non : Rp K F .non .none
  | bl (b : Bool) : Rp K F (.bl b) (.bool b)
  | int (i : Int) : Rp K F (.int i) (.int i)
  | str (x : Str) : Rp K F (.str x) (.str x)
  | lst {a : Addr} {xs : List V} {ds : List PyData} : F a = some (.lst xs) → RpAll K F xs ds → Rp K F (.ref a) (.list ds)
  | tup {a : Addr} {xs : List V} {ds : List PyData} : SqT K F a xs → RpAll K F xs ds → Rp K F (.ref a) (.tuple ds)
  | dic {a : Addr} {kvs : List (Key × V)} {ds : List (PyData × PyData)} : F a = some (.dK kvs) → RpKv K F kvs ds → Rp K F (.ref a) (.dict ds)
inductive RpAll (K : PySem.W.Frag) (F : Hp) : List V → List PyData → Prop
  | nil : RpAll K F [] []
  | cons {v : V} {vs : List V} {d : PyData} {ds : List PyData} : Rp K F v d → RpAll K F vs ds → RpAll K F (v :: vs) (d :: ds)
inductive RpKv (K : PySem.W.Frag) (F : Hp) : List (Key × V) → List (PyData × PyData) → Prop
  | nil : RpKv K F [] []
  | cons {k : Key} {v : V} {kvs : List (Key × V)} {d : PyData} {ds : List (PyData × PyData)} : Rp K F v d → RpKv K F kvs ds → RpKv K F ((k, v) :: kvs) ((keyD k, d) :: ds)
end

section
variable {K : PySem.W.Frag} {F F' H : Hp}
theorem sqT_mono (e : Same F F') {a : Addr} {xs : List V} (h : SqT K F a xs) : SqT K F' a xs := by
  rcases h with (h | ⟨o, h⟩) | h
  · exact .inl (.inl (e _ _ h))
  · exact .inl (.inr ⟨o, e _ _ h⟩)
  · exact .inr h
theorem sqL_mono (e : Same F F') {a : Addr} {xs : List V} (h : SqL K F a xs) : SqL K F' a xs := by
  rcases h with (h | ⟨o, h⟩) | h
  · exact .inl (.inl (e _ _ h))
  · exact .inl (.inr ⟨o, e _ _ h⟩)
  · exact .inr h
mutual
theorem Rp.mono (e : Same F F') : ∀ {d : PyData} {v : V}, Rp K F v d → Rp K F' v d
  | .none, _, h => by cases h; exact .non
  | .bool _, _, h => by cases h; exact .bl _
  | .int _, _, h => by cases h; exact .int _
  | .str _, _, h => by cases h; exact .str _
  | .list ds, _, h => by
    cases h with
    | lst h1 h2 => exact .lst (e _ _ h1) (RpAll.mono e h2)
  | .tuple ds, _, h => by
    cases h with
    | tup h1 h2 => exact .tup (sqT_mono e h1) (RpAll.mono e h2)
  | .dict ds, _, h => by
    cases h with
    | dic h1 h2 => exact .dic (e _ _ h1) (RpKv.mono e h2)
theorem RpAll.mono (e : Same F F') : ∀ {ds : List PyData} {vs : List V}, RpAll K F vs ds → RpAll K F' vs ds
  | [], _, h => by cases h; exact .nil
  | _ :: _, _, h => by
    cases h with
    | cons h1 h2 => exact .cons (Rp.mono e h1) (RpAll.mono e h2)
theorem RpKv.mono (e : Same F F') : ∀ {ds : List (PyData × PyData)} {vs : List (Key × V)}, RpKv K F vs ds → RpKv K F' vs ds
  | [], _, h => by cases h; exact .nil
  | (_, _) :: _, _, h => by
    cases h with
    | cons h1 h2 => exact .cons (Rp.mono e h1) (RpKv.mono e h2)
end
theorem RpAll.length : ∀ {ds : List PyData} {vs : List V}, RpAll K F vs ds → vs.length = ds.length
  | [], _, h => by cases h; rfl
  | _ :: _, _, h => by
    cases h with
    | cons h1 h2 => simp [RpAll.length h2]
theorem RpAll.append : ∀ {ds es : List PyData} {vs ws : List V}, RpAll K F vs ds → RpAll K F ws es → RpAll K F (vs ++ ws) (ds ++ es)
  | [], _, _, _, h, g => by cases h; exact g
  | _ :: _, _, _, _, h, g => by
    cases h with
    | cons h1 h2 => exact .cons h1 (RpAll.append h2 g)
theorem RpAll.take : ∀ {ds : List PyData} {vs : List V} (n : Nat), RpAll K F vs ds → RpAll K F (vs.take n) (ds.take n)
  | _, _, 0, _ => .nil
  | [], _, _ + 1, h => by cases h; exact .nil
  | _ :: _, _, n + 1, h => by
    cases h with
    | cons h1 h2 => exact .cons h1 (RpAll.take n h2)
theorem RpAll.drop : ∀ {ds : List PyData} {vs : List V} (n : Nat), RpAll K F vs ds → RpAll K F (vs.drop n) (ds.drop n)
  | _, _, 0, h => h
  | [], _, _ + 1, h => by cases h; exact .nil
  | _ :: _, _, n + 1, h => by
    cases h with
    | cons h1 h2 => exact RpAll.drop n h2
theorem RpAll.reverse : ∀ {ds : List PyData} {vs : List V}, RpAll K F vs ds → RpAll K F vs.reverse ds.reverse
  | [], _, h => by cases h; exact .nil
  | _ :: _, _, h => by
    cases h with
    | cons h1 h2 =>
      rw [List.reverse_cons, List.reverse_cons]
      exact RpAll.append (RpAll.reverse h2) (.cons h1 .nil)
theorem RpAll.get : ∀ {ds : List PyData} {vs : List V} {i : Nat} {v : V}, RpAll K F vs ds → vs[i]? = some v → ∃ d, ds[i]? = some d ∧ Rp K F v d
  | [], _, _, _, h, e => by cases h; simp at e
  | d :: ds, _, i, v, h, e => by
    cases h with
    | cons h1 h2 =>
      cases i with
      | zero => simp at e; subst e; exact ⟨d, rfl, h1⟩
      | succ i => exact RpAll.get (i := i) h2 (by simpa using e)
theorem RpAll.getD : ∀ {ds : List PyData} {vs : List V} {i : Nat} {d : PyData}, RpAll K F vs ds → ds[i]? = some d → ∃ v, vs[i]? = some v ∧ Rp K F v d
  | [], _, _, _, h, e => by simp at e
  | d :: ds, _, i, v, h, e => by
    cases h with
    | cons h1 h2 =>
      cases i with
      | zero => simp at e; subst e; exact ⟨_, rfl, h1⟩
      | succ i => exact RpAll.getD (i := i) h2 (by simpa using e)
theorem RpAll.set {x : V} {d : PyData} (r : Rp K F x d) : ∀ {ds : List PyData} {vs : List V} (i : Nat), RpAll K F vs ds → RpAll K F (vs.set i x) (ds.set i d)
  | [], _, _, h => by cases h; exact .nil
  | _ :: _, _, 0, h => by
    cases h with
    | cons h1 h2 => exact .cons r h2
  | _ :: _, _, i + 1, h => by
    cases h with
    | cons h1 h2 => exact .cons h1 (RpAll.set r i h2)

/-- v can be read as the datum: its top in H, the rest frozen -/
inductive Rr (K : PySem.W.Frag) (F H : Hp) : V → PyData → Prop
  | fz {v : V} {d : PyData} : Rp K F v d → Rr K F H v d
  | lst {a : Addr} {xs : List V} {ds : List PyData} : H a = some (.lst xs) → RpAll K F xs ds → Rr K F H (.ref a) (.list ds)
  | dic {a : Addr} {kvs : List (Key × V)} {ds : List (PyData × PyData)} : H a = some (.dK kvs) → RpKv K F kvs ds → Rr K F H (.ref a) (.dict ds)
  | scr {a : Addr} {ns : List Int} : SqL K F a (ns.map V.int) → Rr K F H (.ref a) (.list (ns.map PyData.int))
theorem RpAll.ints : ∀ ns : List Int, RpAll K F (ns.map V.int) (ns.map PyData.int)
  | [] => .nil
  | n :: ns => .cons (.int n) (RpAll.ints ns)
theorem Rr.list (e : Same F H) {v : V} {ds : List PyData} (h : Rr K F H v (.list ds)) : ∃ a xs, v = .ref a ∧ SqL K H a xs ∧ RpAll K F xs ds := by
  cases h with
  | fz h => cases h with
    | lst h1 h2 => exact ⟨_, _, rfl, SqL.of (e _ _ h1), h2⟩
  | lst h1 h2 => exact ⟨_, _, rfl, SqL.of h1, h2⟩
  | scr h1 => exact ⟨_, _, rfl, sqL_mono e h1, RpAll.ints _⟩
theorem Rr.tuple {v : V} {ds : List PyData} (h : Rr K F H v (.tuple ds)) : ∃ a xs, v = .ref a ∧ SqT K F a xs ∧ RpAll K F xs ds := by
  cases h with
  | fz h => cases h with
    | tup h1 h2 => exact ⟨_, _, rfl, h1, h2⟩
theorem Rr.dict (e : Same F H) {v : V} {ds : List (PyData × PyData)} (h : Rr K F H v (.dict ds)) : ∃ a xs, v = .ref a ∧ H a = some (.dK xs) ∧ RpKv K F xs ds := by
  cases h with
  | fz h => cases h with
    | dic h1 h2 => exact ⟨_, _, rfl, e _ _ h1, h2⟩
  | dic h1 h2 => exact ⟨_, _, rfl, h1, h2⟩
theorem Rr.none {v : V} (h : Rr K F H v .none) : v = .non := by
  cases h with
  | fz h => cases h; rfl
theorem Rr.bool {v : V} {b : Bool} (h : Rr K F H v (.bool b)) : v = .bl b := by
  cases h with
  | fz h => cases h; rfl
theorem Rr.int {v : V} {b : Int} (h : Rr K F H v (.int b)) : v = .int b := by
  cases h with
  | fz h => cases h; rfl
theorem Rr.str {v : V} {b : Str} (h : Rr K F H v (.str b)) : v = .str b := by
  cases h with
  | fz h => cases h; rfl
end

/-! ### reading them in the model's heap -/
def noSys (_ : Cx) : Prop := True
section
variable {X : Cx} {pins : List (Addr × Obj)} {σ : List (Option V)} {H : Hp} {s : Shared}
mutual
theorem Rp.reads (I : Inv X pins σ H s) : ∀ (d : PyData) (v : V) (u : Value), Rp X.K H v d → RelV v u → ∃ as, Reads s.heap u d as
  | .none, _, _, h, r => by
    cases h
    cases r
    exact ⟨_, Reads.none⟩
  | .bool b, _, _, h, r => by
    cases h
    cases r
    exact ⟨_, Reads.bool b⟩
  | .int i, _, _, h, r => by
    cases h
    obtain ⟨t, rfl⟩ := r
    exact ⟨_, Reads.int i t⟩
  | .str x, _, _, h, r => by
    cases h
    obtain ⟨t, rfl⟩ := r
    exact ⟨_, Reads.str x t⟩
  | .list ds, _, _, h, r => by
    cases h with
    | lst hl ha =>
      cases r
      obtain ⟨its, rv, ⟨o, n, ho, hc, _, hd⟩, _⟩ := I.list (SqL.of hl)
      obtain ⟨as, hr⟩ := RpAll.reads I ds _ its ha rv
      exact ⟨_, Reads.list ho hc hd hr⟩
  | .tuple ds, _, _, h, r => by
    cases h with
    | tup hl ha =>
      cases r
      obtain ⟨its, rv, ⟨o, ho, hc, n, hd⟩, _⟩ := I.tuple hl
      obtain ⟨as, hr⟩ := RpAll.reads I ds _ its ha rv
      exact ⟨_, Reads.tuple ho hc hd hr⟩
  | .dict ds, _, _, h, r => by
    cases h with
    | dic hl ha =>
      cases r
      obtain ⟨_, _, vs, rk, o, es, ep, h1, h2, h3, h4, h5, _⟩ := I.hok _ _ hl
      obtain ⟨as, bs, r1, r2⟩ := RpKv.reads I ds _ vs es.toList ha rk h5
      exact ⟨_, Reads.dict h1 h2.1 h3 r1 r2⟩
theorem RpAll.reads (I : Inv X pins σ H s) : ∀ (ds : List PyData) (vs : List V) (us : List Value), RpAll X.K H vs ds → Vals vs us → ∃ as, ReadsAll s.heap us ds as
  | [], _, _, h, r => by
    cases h
    cases r
    exact ⟨_, ReadsAll.nil⟩
  | d :: ds, _, _, h, r => by
    cases h with
    | cons h1 h2 =>
      cases r with
      | cons r1 r2 =>
        obtain ⟨as, q1⟩ := Rp.reads I d _ _ h1 r1
        obtain ⟨bs, q2⟩ := RpAll.reads I ds _ _ h2 r2
        exact ⟨_, ReadsAll.cons q1 q2⟩
theorem RpKv.reads (I : Inv X pins σ H s) : ∀ (ds : List (PyData × PyData)) (kvs : List (Key × V)) (us : List (Key × Value)) (es : List DictEntry), RpKv X.K H kvs ds → KV kvs us → Pairs (mixKind X.prog X.w) es us →
    ∃ as bs, ReadsAll s.heap (es.map (·.key)) (ds.map (·.1)) as ∧ ReadsAll s.heap (es.map (·.val)) (ds.map (·.2)) bs
  | [], _, _, _, h, r, p => by
    cases h
    cases r
    cases p
    exact ⟨_, _, ReadsAll.nil, ReadsAll.nil⟩
  | (d1, d2) :: ds, _, _, _, h, r, p => by
    cases h with
    | cons h1 h2 =>
      cases r with
      | cons r1 r2 =>
        cases p with
        | cons p1 p2 p3 =>
          obtain ⟨re, rv⟩ := r1
          obtain ⟨as, bs, q1, q2⟩ := RpKv.reads I ds _ _ _ h2 r2 p3
          simp only at re
          subst re
          rw [← p2] at rv
          obtain ⟨cs, q3⟩ := Rp.reads I d2 _ _ h1 rv
          have hk := p1
          rw [mixKind_is] at hk
          rcases keyIs_shape hk with ⟨i, t, e1, e2⟩ | ⟨x, t, e1, e2⟩
          · rw [e1]
            refine ⟨[] ++ as, cs ++ bs, ?_, ?_⟩
            · rw [List.map_cons, List.map_cons, e2]
              exact ReadsAll.cons (Reads.int i t) q1
            · rw [List.map_cons, List.map_cons]
              exact ReadsAll.cons q3 q2
          · rw [e1]
            refine ⟨[] ++ as, cs ++ bs, ?_, ?_⟩
            · rw [List.map_cons, List.map_cons, e2]
              exact ReadsAll.cons (Reads.str x t) q1
            · rw [List.map_cons, List.map_cons]
              exact ReadsAll.cons q3 q2
end
/-! what repr makes of them: only the dicts have to stand elsewhere than sys.modules -/
mutual
theorem Rp.shows (I : Inv X pins σ H s) : ∀ (d : PyData) (v : V) (u : Value), Rp X.K H v d → RelV v u → d.showable = true → d.shown.length ≤ sizeLine → ∃ bs, ReadAtMost s.heap d.depth bs ∧ ReprK X.prog X.w bs s.heap d.depth u d.shown
  | .none, _, _, h, r, _, _ => by
    cases h
    cases r
    exact ⟨[], (fun _ h => nomatch h), .of_is ReprIs.none _ _ _⟩
  | .bool b, _, _, h, r, _, _ => by
    cases h
    cases r
    exact ⟨[], (fun _ h => nomatch h), .of_is (ReprIs.bool b) _ _ _⟩
  | .int i, _, _, h, r, hs, _ => by
    cases h
    obtain ⟨t, rfl⟩ := r
    exact ⟨[], (fun _ h => nomatch h), .of_is (ReprIs.int t (of_decide_eq_true hs)) _ _ _⟩
  | .str x, _, _, h, r, _, hz => by
    cases h
    obtain ⟨t, rfl⟩ := r
    exact ⟨[], (fun _ h => nomatch h), .of_is (ReprIs.str x t hz) _ _ _⟩
  | .list ds, _, _, h, r, hs, hz => by
    cases h with
    | lst hl ha =>
      rename_i a xs
      cases r
      obtain ⟨its, rv, ⟨o, n, h1, h2, _, h3⟩, _⟩ := I.list (SqL.of hl)
      have hz' : (listText (PyData.shownAll ds)).length ≤ sizeLine := hz
      obtain ⟨as, h4⟩ := RpAll.reads I ds _ its ha rv
      obtain ⟨bs, hb, hk⟩ := RpAll.shows I ds _ its ha rv hs fun t ht => Nat.le_trans (listText_mem_le ht) hz'
      have r0 : Reads s.heap (.ref a) (.list ds) _ := .list h1 h2 h3 h4
      have hna : a ∉ bs := not_mem_of_deeper r0 (Nat.lt_succ_self _) hb
      refine ⟨a :: bs, ReadAtMost.cons r0 (by simp only [PyData.depth]; omega) hb, ?_⟩
      cases its with
      | nil =>
        cases h4
        show ReprK _ _ _ _ _ _ (listText [])
        rw [listText_nil]
        exact ReprK.listEmpty h1 h2 h3
      | cons x l => exact ReprK.list h1 h2 h3 hna (by simpa using hk.length_eq) (fun i y e => hk.item i y (by simpa using e))
  | .tuple ds, _, _, h, r, hs, hz => by
    cases h with
    | tup hl ha =>
      rename_i a xs
      cases r
      obtain ⟨its, rv, ⟨o, h1, h2, n, h3⟩, _⟩ := I.tuple hl
      have hz' : (tupleText (PyData.shownAll ds)).length ≤ sizeLine := hz
      obtain ⟨as, h4⟩ := RpAll.reads I ds _ its ha rv
      obtain ⟨bs, hb, hk⟩ := RpAll.shows I ds _ its ha rv hs fun t ht => Nat.le_trans (tupleText_mem_le ht) hz'
      have r0 : Reads s.heap (.ref a) (.tuple ds) _ := .tuple h1 h2 h3 h4
      have hna : a ∉ bs := not_mem_of_deeper r0 (Nat.lt_succ_self _) hb
      exact ⟨a :: bs, ReadAtMost.cons r0 (by simp only [PyData.depth]; omega) hb, ReprK.tuple h1 h2 h3 hna hk⟩
  | .dict ds, _, _, h, r, hs, hz => by
    cases h with
    | dic hl ha =>
      rename_i a kvs
      cases r
      obtain ⟨_, hsys, vs, rk, o, es, ep, h1, h2, h3, _, h5, _⟩ := I.hok _ _ hl
      have hz' : (dictText (PyData.shownKv ds)).length ≤ sizeLine := hz
      obtain ⟨as, cs, q1, q2⟩ := RpKv.reads I ds _ vs es.toList ha rk h5
      obtain ⟨b1, b2, hb1, hb2, k1, k2⟩ := RpKv.shows I ds _ vs es.toList ha rk h5 hs fun t ht => Nat.le_trans (dictText_mem_le ht) hz'
      have r0 : Reads s.heap (.ref a) (.dict ds) _ := .dict h1 h2.1 h3 q1 q2
      have hb : ReadAtMost s.heap (PyData.depthKv ds) (b1 ++ b2) := (hb1.mono (PyData.depthAll_keys_le ds)).append (hb2.mono (PyData.depthAll_vals_le ds))
      have hna : a ∉ b1 ++ b2 := not_mem_of_deeper r0 (Nat.lt_succ_self _) hb
      refine ⟨a :: (b1 ++ b2), ReadAtMost.cons r0 (by simp only [PyData.depth]; omega) hb, ?_⟩
      simp only [PyData.depth, PyData.shown, PyData.shownKv_eq]
      exact ReprK.dict h1 h2.1 h3 hsys hna (ReprEntriesK.of_two es.toList _ _ (k1.more_le (fun b hb => List.mem_append_left _ hb) (PyData.depthAll_keys_le ds)) (k2.more_le (fun b hb => List.mem_append_right _ hb) (PyData.depthAll_vals_le ds)))
theorem RpAll.shows (I : Inv X pins σ H s) : ∀ (ds : List PyData) (vs : List V) (us : List Value), RpAll X.K H vs ds → Vals vs us → PyData.showableAll ds = true → (∀ t ∈ PyData.shownAll ds, t.length ≤ sizeLine) →
    ∃ bs, ReadAtMost s.heap (PyData.depthAll ds) bs ∧ ReprAllK X.prog X.w bs s.heap (PyData.depthAll ds) us (PyData.shownAll ds)
  | [], _, _, h, r, _, _ => by
    cases h
    cases r
    exact ⟨[], (fun _ h => nomatch h), .nil⟩
  | d :: ds, _, _, h, r, hs, hz => by
    cases h with
    | cons h1 h2 =>
      cases r with
      | cons r1 r2 =>
        have hs' : d.showable = true ∧ PyData.showableAll ds = true := by simpa [PyData.showableAll] using hs
        obtain ⟨b1, hb1, k1⟩ := Rp.shows I d _ _ h1 r1 hs'.1 (hz _ List.mem_cons_self)
        obtain ⟨b2, hb2, k2⟩ := RpAll.shows I ds _ _ h2 r2 hs'.2 fun t ht => hz t (List.mem_cons_of_mem _ ht)
        refine ⟨b1 ++ b2, (hb1.mono (Nat.le_max_left _ _)).append (hb2.mono (Nat.le_max_right _ _)), ?_⟩
        exact .cons ((k1.more fun b hb => List.mem_append_left _ hb).level_le (Nat.le_max_left _ _)) (k2.more_le (fun b hb => List.mem_append_right _ hb) (Nat.le_max_right _ _))
theorem RpKv.shows (I : Inv X pins σ H s) : ∀ (ds : List (PyData × PyData)) (kvs : List (Key × V)) (us : List (Key × Value)) (es : List DictEntry), RpKv X.K H kvs ds → KV kvs us → Pairs (mixKind X.prog X.w) es us → PyData.showableKv ds = true → (∀ t ∈ PyData.shownKv ds, t.length ≤ sizeLine) →
    ∃ b1 b2, ReadAtMost s.heap (PyData.depthAll (ds.map (·.1))) b1 ∧ ReadAtMost s.heap (PyData.depthAll (ds.map (·.2))) b2 ∧
      ReprAllK X.prog X.w b1 s.heap (PyData.depthAll (ds.map (·.1))) (es.map (·.key)) (PyData.shownAll (ds.map (·.1))) ∧ ReprAllK X.prog X.w b2 s.heap (PyData.depthAll (ds.map (·.2))) (es.map (·.val)) (PyData.shownAll (ds.map (·.2)))
  | [], _, _, _, h, r, p, _, _ => by
    cases h
    cases r
    cases p
    exact ⟨[], [], (fun _ h => nomatch h), (fun _ h => nomatch h), .nil, .nil⟩
  | (d1, d2) :: ds, _, _, _, h, r, p, hs, hz => by
    cases h with
    | @cons key v kvs _ _ h1 h2 =>
      cases r with
      | @cons _ kb _ us r1 r2 =>
        obtain ⟨kb, ub⟩ := kb
        cases p with
        | @cons en _ es _ p1 p2 p3 =>
          obtain ⟨re, rv⟩ := r1
          have hs' : ((keyD key).showable = true ∧ d2.showable = true) ∧ PyData.showableKv ds = true := by simpa [PyData.showableKv] using hs
          obtain ⟨b1, b2, hb1, hb2, k1, k2⟩ := RpKv.shows I ds _ _ _ h2 r2 p3 hs'.2 fun t ht => hz t (List.mem_cons_of_mem _ ht)
          have hlen := hz _ (List.mem_cons_self (a := (keyD key).shown ++ ": " ++ d2.shown) (l := PyData.shownKv ds))
          rw [strLen_append, strLen_append] at hlen
          have re : key = kb := re
          subst re
          have p2 : en.val = ub := p2
          have rv : RelV v ub := rv
          rw [← p2] at rv
          obtain ⟨c2, hc2, j2⟩ := Rp.shows I d2 _ _ h1 rv hs'.1.2 (by omega)
          have hk := p1
          rw [mixKind_is] at hk
          have fin : ∀ (kv : Value), ReprK X.prog X.w [] s.heap (keyD key).depth kv (keyD key).shown → ∃ b1 b2, ReadAtMost s.heap (PyData.depthAll (((keyD key, d2) :: ds).map (·.1))) b1 ∧ ReadAtMost s.heap (PyData.depthAll (((keyD key, d2) :: ds).map (·.2))) b2 ∧
              ReprAllK X.prog X.w b1 s.heap (PyData.depthAll (((keyD key, d2) :: ds).map (·.1))) (kv :: es.map (·.key)) (PyData.shownAll (((keyD key, d2) :: ds).map (·.1))) ∧
              ReprAllK X.prog X.w b2 s.heap (PyData.depthAll (((keyD key, d2) :: ds).map (·.2))) (en.val :: es.map (·.val)) (PyData.shownAll (((keyD key, d2) :: ds).map (·.2))) := fun kv j1 =>
            ⟨b1, c2 ++ b2, hb1.mono (Nat.le_max_right _ _), (hc2.mono (Nat.le_max_left _ _)).append (hb2.mono (Nat.le_max_right _ _)),
              .cons ((j1.more fun b hb => (nomatch hb)).level_le (Nat.le_max_left _ _)) (k1.more_le (fun b hb => hb) (Nat.le_max_right _ _)),
              .cons ((j2.more fun b hb => List.mem_append_left _ hb).level_le (Nat.le_max_left _ _)) (k2.more_le (fun b hb => List.mem_append_right _ hb) (Nat.le_max_right _ _))⟩
          rcases keyIs_shape hk with ⟨i, t, e1, e2⟩ | ⟨x, t, e1, e2⟩
          · have e1 : key = .inl i := e1
            subst e1
            refine fin en.key ?_
            rw [e2]
            exact .of_is (ReprIs.int t (of_decide_eq_true hs'.1.1)) _ _ _
          · have e1 : key = .inr x := e1
            subst e1
            refine fin en.key ?_
            rw [e2]
            exact .of_is (ReprIs.str x t (by have e : (keyD (.inr x)).shown = reprText x := rfl; rw [e] at hlen; omega)) _ _ _
end
theorem shows_list (I : Inv X pins σ H s) {a : Addr} {xs : List V} {ds : List PyData} (hl : SqL X.K H a xs) (ha : RpAll X.K H xs ds) (hs : (PyData.list ds).showable = true) (hz : (PyData.list ds).shown.length ≤ sizeLine) : ∃ T idr, ShowsBy X.prog X.w s.heap a (.list ds) T idr := by
  obtain ⟨its, rv, ⟨o, n, h1, h2, _, h3⟩, _⟩ := I.list hl
  have hz' : (listText (PyData.shownAll ds)).length ≤ sizeLine := hz
  obtain ⟨as, h4⟩ := RpAll.reads I ds _ its ha rv
  obtain ⟨bs, hb, hk⟩ := RpAll.shows I ds _ its ha rv hs fun t ht => Nat.le_trans (listText_mem_le ht) hz'
  have hna : a ∉ bs := not_mem_of_deeper (.list h1 h2 h3 h4) (by simp only [PyData.depth]; omega) hb
  refine ⟨"list", "list.__repr__", F.slot_list_repr.toG, F.slot_list_str, F.slot_list_format, fun s hk0 => ⟨o, hk0 _ _ h1, h2⟩, fun A E s Q hg hu hk0 hQ => ?_⟩
  have hu : A.units + (PyData.depthAll ds + 1) < cLine := hu
  have hQ : ∀ h' u tk, (∀ b o, s.heap.get? b = some o → h'.get? b = some o) → Q (.str (listText (PyData.shownAll ds)) u) { s with heap := h', toks := tk } := hQ
  cases its with
  | nil =>
    cases h4
    have e : listText (PyData.shownAll []) = ("[]" : Str) := listText_nil
    rw [e] at hQ
    exact call_list_repr_empty ⟨o, hk0 _ _ h1, h2⟩ (hk0 _ _ h1) h3 (hQ s.heap _ _ fun _ _ e => e)
  | cons x l => exact call_list_reprK h1 h2 h3 hna (by simpa using hk.length_eq) (fun i y e => hk.item i y (by simpa using e)) hg (fun b _ => Clear.nil b) hu hk0 hQ hz'
theorem shows_tup (I : Inv X pins σ H s) {a : Addr} {xs : List V} {ds : List PyData} (hl : SqT X.K H a xs) (ha : RpAll X.K H xs ds) (hs : (PyData.tuple ds).showable = true) (hz : (PyData.tuple ds).shown.length ≤ sizeLine) : ∃ T idr, ShowsBy X.prog X.w s.heap a (.tuple ds) T idr := by
  obtain ⟨its, rv, ⟨o, h1, h2, n, h3⟩, _⟩ := I.tuple hl
  have hz' : (tupleText (PyData.shownAll ds)).length ≤ sizeLine := hz
  obtain ⟨as, h4⟩ := RpAll.reads I ds _ its ha rv
  obtain ⟨bs, hb, hk⟩ := RpAll.shows I ds _ its ha rv hs fun t ht => Nat.le_trans (tupleText_mem_le ht) hz'
  have hna : a ∉ bs := not_mem_of_deeper (.tuple h1 h2 h3 h4) (by simp only [PyData.depth]; omega) hb
  refine ⟨"tuple", "tuple.__repr__", F.slot_tuple_repr, F.slot_tuple_str, F.slot_tuple_format, fun s hk0 => ⟨o, hk0 _ _ h1, h2⟩, fun A E s Q hg hu hk0 hQ => ?_⟩
  exact call_tuple_reprK h1 h2 h3 hna hk hg (fun b _ => Clear.nil b) hu hk0 hQ hz'
theorem shows_dic (I : Inv X pins σ H s) {a : Addr} {kvs : List (Key × V)} {ds : List (PyData × PyData)} (hl : H a = some (.dK kvs)) (ha : RpKv X.K H kvs ds) (hs : (PyData.dict ds).showable = true) (hz : (PyData.dict ds).shown.length ≤ sizeLine) : ∃ T idr, ShowsBy X.prog X.w s.heap a (.dict ds) T idr := by
  obtain ⟨_, hsys, vs, rk, o, es, ep, h1, h2, h3, _, h5, _⟩ := I.hok _ _ hl
  have hz' : (dictText (PyData.shownKv ds)).length ≤ sizeLine := hz
  obtain ⟨as, cs, q1, q2⟩ := RpKv.reads I ds _ vs es.toList ha rk h5
  obtain ⟨b1, b2, hb1, hb2, k1, k2⟩ := RpKv.shows I ds _ vs es.toList ha rk h5 hs fun t ht => Nat.le_trans (dictText_mem_le ht) hz'
  have hb : ReadAtMost s.heap (PyData.depthKv ds) (b1 ++ b2) := (hb1.mono (PyData.depthAll_keys_le ds)).append (hb2.mono (PyData.depthAll_vals_le ds))
  have hna : a ∉ b1 ++ b2 := not_mem_of_deeper (.dict h1 h2.1 h3 q1 q2) (by simp only [PyData.depth]; omega) hb
  refine ⟨"dict", "dict.__repr__", F.slot_dict_repr, F.slot_dict_str, F.slot_dict_format, fun s hk0 => ⟨o, hk0 _ _ h1, h2.1⟩, fun A E s Q hg hu hk0 hQ => ?_⟩
  have hu : A.units + (PyData.depthKv ds + 1) < cLine := hu
  have hQ : ∀ h' u tk, (∀ b o, s.heap.get? b = some o → h'.get? b = some o) → Q (.str (dictText (PyData.shownKv ds)) u) { s with heap := h', toks := tk } := hQ
  rw [PyData.shownKv_eq] at hQ
  exact call_dict_reprK h1 h2.1 h3 hsys hna (ReprEntriesK.of_two es.toList _ _ (k1.more_le (fun b hb => List.mem_append_left _ hb) (PyData.depthAll_keys_le ds)) (k2.more_le (fun b hb => List.mem_append_right _ hb) (PyData.depthAll_vals_le ds))) hg (fun b _ => Clear.nil b) hu hk0 hQ
    (by rw [← PyData.shownKv_eq]; exact hz')
theorem Rr.reads {F : Hp} (e : Same F H) (I : Inv X pins σ H s) {d : PyData} {v : V} {u : Value} (h : Rr X.K F H v d) (r : RelV v u) : ∃ as, Reads s.heap u d as := by
  cases h with
  | fz h => exact Rp.reads I d v u (h.mono e) r
  | lst h1 h2 => exact Rp.reads I _ _ u (.lst h1 (h2.mono e)) r
  | dic h1 h2 => exact Rp.reads I _ _ u (.dic h1 (h2.mono e)) r
  | scr h1 =>
    rename_i a ns
    have hl := sqL_mono e h1
    cases r
    obtain ⟨its, rv, ⟨o, n, ho, hc, _, hd⟩, _⟩ := I.list hl
    obtain ⟨as, hr⟩ := RpAll.reads I (ns.map PyData.int) _ its (RpAll.ints (F := H) ns) rv
    exact ⟨_, Reads.list ho hc hd hr⟩
end
end HA

namespace HA
open PySem PySem.Spec PyProof.Rows L2
abbrev Sg := List (Option V)

/-! ### what a law draws from: objects of its own that change -/
structure BoxKind where
  ok : Hp → Addr → List Addr → Prop
  loc : ∀ {H H' : Hp} {b : Addr} {l : List Addr}, ok H b l → (∀ a ∈ l, H' a = H a) → ok H' b l
  there : ∀ {H : Hp} {b : Addr} {l : List Addr}, ok H b l → ∀ a ∈ l, H a ≠ none

/-- F: what never changes again; b, l: the box and its objects ([]: none is there) -/
structure AS where
  F : Hp
  b : Addr
  l : List Addr

structure AOk (bk : BoxKind) (S : AS) (H : Hp) : Prop where
  sub : Same S.F H
  out : ∀ a ∈ S.l, S.F a = none
  box : S.l = [] ∨ bk.ok H S.b S.l

structure Ext (bk : BoxKind) (S S' : AS) (H H' : Hp) : Prop where
  fz : Same S.F S'.F
  nw : ∀ a, S.F a = none → S'.F a ≠ none → H a = none
  eb : S'.b = S.b
  el : S'.l = S.l
  kp : ∀ a o, H a = some o → a ∉ S.l → H' a = some o
  ok : AOk bk S' H'

section
variable {bk : BoxKind} {S S' S'' : AS} {H H' H'' : Hp}
theorem AOk.there (x : AOk bk S H) {a : Addr} (h : a ∈ S.l) : H a ≠ none := by
  rcases x.box with e | e
  · rw [e] at h; cases h
  · exact bk.there e a h
/-- the box's part of AOk -/
def Bx (bk : BoxKind) (S : AS) (H : Hp) : Prop := S.l = [] ∨ bk.ok H S.b S.l
theorem Bx.there (x : Bx bk S H) {a : Addr} (h : a ∈ S.l) : H a ≠ none := by
  rcases x with e | e
  · rw [e] at h; cases h
  · exact bk.there e a h
theorem Ext.fr (e : Ext bk S S' H H') (x : Bx bk S H) {a : Addr} (h : H' a = none) : H a = none := by
  cases q : H a with
  | none => rfl
  | some o =>
    by_cases m : a ∈ S.l
    · rw [← e.el] at m
      exact absurd h (e.ok.there m)
    · rw [e.kp a o q m] at h; cases h
theorem Ext.tr (x : Bx bk S H) (e : Ext bk S S' H H') (f : Ext bk S' S'' H' H'') : Ext bk S S'' H H'' := by
  refine ⟨e.fz.trans f.fz, fun a h1 h2 => ?_, f.eb.trans e.eb, f.el.trans e.el, fun a o h m => f.kp a o (e.kp a o h m) (by rw [e.el]; exact m), f.ok⟩
  by_cases q : S'.F a = none
  · exact e.fr x (f.nw a q h2)
  · exact e.nw a h1 q
theorem AOk.fz (x : AOk bk S H) {a : Addr} {o : HO} (h : S.F a = some o) : a ∉ S.l := fun m => by
  rw [x.out a m] at h; cases h
theorem AOk.free (x : AOk bk S H) {a : Addr} (h : H a = none) : S.F a = none := Same.free x.sub h
theorem Ext.refl (x : AOk bk S H) : Ext bk S S H H := ⟨Same.refl _, fun _ h1 h2 => absurd h1 h2, rfl, rfl, fun _ _ h _ => h, x⟩
theorem Ext.free (e : Ext bk S S' H H') (x : AOk bk S H) {a : Addr} (h : H' a = none) : H a = none := by
  cases q : H a with
  | none => rfl
  | some o =>
    by_cases m : a ∈ S.l
    · rw [← e.el] at m
      exact absurd h (e.ok.there m)
    · rw [e.kp a o q m] at h; cases h
theorem Ext.trans (x : AOk bk S H) (e : Ext bk S S' H H') (f : Ext bk S' S'' H' H'') : Ext bk S S'' H H'' := by
  refine ⟨e.fz.trans f.fz, fun a h1 h2 => ?_, f.eb.trans e.eb, f.el.trans e.el, fun a o h m => f.kp a o (e.kp a o h m) (by rw [e.el]; exact m), f.ok⟩
  by_cases q : S'.F a = none
  · exact e.free x (f.nw a q h2)
  · exact e.nw a h1 q
/-- a new object that is frozen at once -/
theorem Ext.new (x : AOk bk S H) {p : Addr} {o : HO} (hp : H p = none) : Ext bk S { S with F := upd S.F p o } H (upd H p o) := by
  have fp : S.F p = none := x.free hp
  have lp : p ∉ S.l := fun m => x.there m hp
  refine ⟨fun a u h => ?_, fun a h1 h2 => ?_, rfl, rfl, fun a u h _ => ?_, ⟨fun a u h => ?_, fun a m => ?_, ?_⟩⟩
  · show upd S.F p o a = some u
    rw [upd_ne (ne_of_none h fp)]; exact h
  · by_cases e : a = p
    · rw [e]; exact hp
    · exact absurd (show upd S.F p o a = none by rw [upd_ne e]; exact h1) h2
  · rw [upd_ne (ne_of_none h hp)]; exact h
  · show upd H p o a = some u
    by_cases e : a = p
    · subst e
      have h' : upd S.F a o a = some u := h
      rw [upd_same] at h'
      rw [upd_same]; exact h'
    · have h' : upd S.F p o a = some u := h
      rw [upd_ne e] at h'
      rw [upd_ne e]; exact x.sub a u h'
  · show upd S.F p o a = none
    rw [upd_ne (show a ≠ p from fun e => lp (by rw [← e]; exact m))]; exact x.out a m
  · rcases x.box with e | e
    · exact .inl e
    · exact .inr (bk.loc e fun a m => upd_ne fun z => lp (z ▸ m))
/-- a new object that may still be changed -/
theorem Ext.laid (x : AOk bk S H) {p : Addr} {o : HO} (hp : H p = none) : Ext bk S S H (upd H p o) := by
  have lp : p ∉ S.l := fun m => x.there m hp
  refine ⟨Same.refl _, fun a h1 h2 => absurd h1 h2, rfl, rfl, fun a u h _ => ?_, ⟨fun a u h => ?_, x.out, ?_⟩⟩
  · rw [upd_ne (ne_of_none h hp)]; exact h
  · have h' := x.sub a u h
    rw [upd_ne (ne_of_none h' hp)]; exact h'
  · rcases x.box with e | e
    · exact .inl e
    · exact .inr (bk.loc e fun a m => upd_ne fun z => lp (z ▸ m))
end

/-! ### results -/
/-- an object that is still to be changed -/
inductive Ow where
  | lst (xs : List PyData)
  | dic (kvs : List (PyData × PyData))
/-- what an expression gives: a datum; a new object; one that a name owns; the box -/
inductive RV where
  | d (x : PyData)
  | own (o : Ow)
  | bor (o : Ow)
  | box
  | scr (ns : List Int)
abbrev En := List (Option RV)
structure Err where
  cls : Str
  arg : Option (Str × PyData)

def Ow.dat : Ow → PyData
  | .lst xs => .list xs
  | .dic kvs => .dict kvs
/-- read as a datum -/
def RV.use (r : RV) (k : PyData → Prop) : Prop := match r with
  | .d x => k x
  | .own o => k o.dat
  | .bor o => k o.dat
  | .box => False
  | .scr ns => k (.list (ns.map PyData.int))
/-- handed on: a new object is frozen -/
def RV.arg (r : RV) (k : RV → Prop) : Prop := match r with
  | .d x => k (.d x)
  | .own o => k (.d o.dat)
  | .bor _ => False
  | .box => k .box
  | .scr ns => k (.scr ns)
def RV.dat (r : RV) (k : PyData → Prop) : Prop := match r with
  | .d x => k x
  | .own o => k o.dat
  | .bor _ => False
  | .box => False
  | .scr _ => False

section
variable (K : PySem.W.Frag)
def OwR (F H : Hp) (a : Addr) : Ow → Prop
  | .lst xs => ∃ vs, H a = some (.lst vs) ∧ RpAll K F vs xs
  | .dic ks => ∃ vs, H a = some (.dK vs) ∧ RpKv K F vs ks
/-- H: ahead, H': behind -/
def RRes (S' : AS) (H H' : Hp) (v : V) : RV → Prop
  | .d x => Rp K S'.F v x
  | .own o => ∃ a, v = .ref a ∧ H a = none ∧ a ∉ S'.l ∧ S'.F a = none ∧ OwR K S'.F H' a o
  | .bor o => ∃ a, v = .ref a ∧ a ∉ S'.l ∧ S'.F a = none ∧ OwR K S'.F H' a o
  | .box => S'.l ≠ [] ∧ v = .ref S'.b
  | .scr ns => ∃ a, v = .ref a ∧ SqL K S'.F a (ns.map V.int)
/-- what a slot holds; Hz: the heap at the def's entry -/
def RSlot (S : AS) (Hz H : Hp) (v : V) : RV → Prop
  | .d x => Rp K S.F v x
  | .own o => ∃ a, v = .ref a ∧ Hz a = none ∧ a ∉ S.l ∧ S.F a = none ∧ OwR K S.F H a o
  | .bor _ => False
  | .box => S.l ≠ [] ∧ v = .ref S.b
  | .scr ns => ∃ a, v = .ref a ∧ SqL K S.F a (ns.map V.int)
structure Abs (S : AS) (Hz H : Hp) (σ : Sg) (env : En) : Prop where
  len : env.length = σ.length
  at_ : ∀ (i : Nat) (r : RV), env[i]? = some (some r) → ∃ v : V, σ[i]? = some (some v) ∧ RSlot K S Hz H v r
  ap : ∀ (i j : Nat) (o o' : Ow) (v : V), i ≠ j → env[i]? = some (some (.own o)) → env[j]? = some (some (.own o')) → σ[i]? = some (some v) → σ[j]? ≠ some (some v)
def ErrR (mg : Str → Option Value) (S : AS) (H : Hp) (cls : Value) (d : Option Addr) (e : Err) : Prop :=
  ∃ C, mg e.cls = some (.ref C) ∧ cls = .ref C ∧ match e.arg with
    | none => d = none
    | some (f, x) => ∃ dx v, d = some dx ∧ H dx = some (.xd [(f, v)]) ∧ Rp K S.F v x
end

section
variable {K : PySem.W.Frag} {bk : BoxKind} {S S' S'' : AS} {Hz H H' H'' : Hp} {σ : Sg} {env : En} {v : V}
theorem OwR.mono (e : Same S.F S'.F) {a : Addr} {o : Ow} (h : OwR K S.F H a o) (k : ∀ u, H a = some u → H' a = some u) : OwR K S'.F H' a o := by
  cases o with
  | lst xs => obtain ⟨vs, h1, h2⟩ := h; exact ⟨vs, k _ h1, h2.mono e⟩
  | dic ks => obtain ⟨vs, h1, h2⟩ := h; exact ⟨vs, k _ h1, h2.mono e⟩
theorem OwR.there {a : Addr} {o : Ow} (h : OwR K S.F H a o) : ∃ u, H a = some u := by
  cases o with
  | lst xs => obtain ⟨vs, h1, h2⟩ := h; exact ⟨_, h1⟩
  | dic ks => obtain ⟨vs, h1, h2⟩ := h; exact ⟨_, h1⟩
theorem OwR.rr {a : Addr} {o : Ow} (h : OwR K S.F H a o) : Rr K S.F H (.ref a) o.dat := by
  cases o with
  | lst xs => obtain ⟨vs, h1, h2⟩ := h; exact .lst h1 h2
  | dic ks => obtain ⟨vs, h1, h2⟩ := h; exact .dic h1 h2
theorem Abs.ext (x : Abs K S Hz H σ env) (e : Ext bk S S' H H') : Abs K S' Hz H' σ env := by
  refine ⟨x.len, fun i r h => ?_, x.ap⟩
  obtain ⟨v, h1, h2⟩ := x.at_ i r h
  refine ⟨v, h1, ?_⟩
  cases r with
  | d y => exact Rp.mono e.fz h2
  | own o =>
    obtain ⟨a, rfl, z, la, fa, oa⟩ := h2
    obtain ⟨u, hu⟩ := oa.there
    refine ⟨a, rfl, z, by rw [e.el]; exact la, ?_, oa.mono e.fz fun u h => e.kp a u h la⟩
    cases q : S'.F a with
    | none => rfl
    | some w =>
      have := e.nw a fa (by rw [q]; exact fun z => nomatch z)
      rw [hu] at this; cases this
  | bor o => exact h2.elim
  | box =>
    obtain ⟨h3, h4⟩ := h2
    exact ⟨by rw [e.el]; exact h3, by rw [e.eb]; exact h4⟩
  | scr ns =>
    obtain ⟨a, h3, h4⟩ := h2
    exact ⟨a, h3, sqL_mono e.fz h4⟩
/-- v can be read as x -/
def Rq (K : PySem.W.Frag) (S : AS) (H : Hp) (v : V) (x : PyData) : Prop := Rp K S.F v x ∨ (∃ a o, v = .ref a ∧ a ∉ S.l ∧ OwR K S.F H a o ∧ x = o.dat) ∨ ∃ (a : Addr) (ns : List Int), v = .ref a ∧ SqL K S.F a (ns.map V.int) ∧ x = .list (ns.map PyData.int)
theorem Rq.rr {x : PyData} (h : Rq K S H v x) : Rr K S.F H v x := by
  rcases h with h | ⟨a, o, rfl, _, h, rfl⟩ | ⟨a, ns, rfl, h, rfl⟩
  · exact .fz h
  · exact h.rr
  · exact .scr h
theorem Rq.ext {x : PyData} (h : Rq K S H v x) (e : Ext bk S S' H H') : Rq K S' H' v x := by
  rcases h with h | ⟨a, o, rfl, l, h, rfl⟩ | ⟨a, ns, rfl, h, rfl⟩
  · exact .inl (h.mono e.fz)
  · exact .inr (.inl ⟨a, o, rfl, by rw [e.el]; exact l, h.mono e.fz fun u q => e.kp a u q l, rfl⟩)
  · exact .inr (.inr ⟨a, ns, rfl, sqL_mono e.fz h, rfl⟩)
/-- a result can be read -/
theorem RRes.rq {r : RV} {k : PyData → Prop} (h : RRes K S' H H' v r) (u : r.use k) : ∃ x, Rq K S' H' v x ∧ k x := by
  cases r with
  | d x => exact ⟨x, .inl h, u⟩
  | own o => obtain ⟨a, rfl, _, l, _, oa⟩ := h; exact ⟨_, .inr (.inl ⟨a, o, rfl, l, oa, rfl⟩), u⟩
  | bor o => obtain ⟨a, rfl, l, _, oa⟩ := h; exact ⟨_, .inr (.inl ⟨a, o, rfl, l, oa, rfl⟩), u⟩
  | box => exact u.elim
  | scr ns => obtain ⟨a, rfl, l⟩ := h; exact ⟨_, .inr (.inr ⟨a, ns, rfl, l, rfl⟩), u⟩
/-- seen from further ahead -/
theorem RRes.back {r : RV} {H0 : Hp} (h : RRes K S' H H' v r) (k : ∀ a, H a = none → H0 a = none) : RRes K S' H0 H' v r := by
  cases r with
  | d x => exact h
  | own o => obtain ⟨a, e, n, f⟩ := h; exact ⟨a, e, k a n, f⟩
  | bor o => exact h
  | box => exact h
  | scr ns => exact h
end

/-! ### readings over data -/
abbrev TD := En → (RV → Prop) → (Err → Prop) → Prop
abbrev TDT := En → (Bool → Prop) → (Err → Prop) → Prop
abbrev TDA := En → (List RV → Prop) → (Err → Prop) → Prop
section
variable (bk : BoxKind) (X : Cx) (W : WX)
def ExOk (S : AS) (σ : Sg) (H : Hp) (Ex : Err → Prop) : Prop := ∀ e cls d H' S', Ex e → Ext bk S S' H H' → ErrR X.K X.mg S' H' cls d e → W cls d σ H'
def Con (S : AS) (H : Hp) (Q : VK) (Qd : RV → Prop) : Prop := ∀ r v H' S', Qd r → Ext bk S S' H H' → RRes X.K S' H H' v r → Q v H'
/-- arguments: data, or the box -/
def RArg (K : PySem.W.Frag) (S : AS) (v : V) : RV → Prop
  | .d x => Rp K S.F v x
  | .own _ => False
  | .bor _ => False
  | .box => S.l ≠ [] ∧ v = .ref S.b
  | .scr ns => ∃ a, v = .ref a ∧ SqL K S.F a (ns.map V.int)
def RArgs (K : PySem.W.Frag) (S : AS) : List V → List RV → Prop := Paired (RArg K S)
def liftE (t : TD) : TE := fun σ H Q => ∃ S env Hz Qd Ex, AOk bk S H ∧ Abs X.K S Hz H σ env ∧ ExOk bk X W S σ H Ex ∧ Con bk X S H Q Qd ∧ t env Qd Ex
def liftT (t : TDT) : TT := fun σ H Q => ∃ S env Hz Qd Ex, AOk bk S H ∧ Abs X.K S Hz H σ env ∧ ExOk bk X W S σ H Ex ∧ (∀ b H' S', Qd b → Ext bk S S' H H' → Q b H') ∧ t env Qd Ex
def liftA (t : TDA) : TA := fun σ H Q => ∃ S env Hz Qd Ex, AOk bk S H ∧ Abs X.K S Hz H σ env ∧ ExOk bk X W S σ H Ex ∧ (∀ rs vs H' S', Qd rs → Ext bk S S' H H' → RArgs X.K S' vs rs → Q vs H') ∧ t env Qd Ex
/-- the judgements -/
def PD (e : Expr) (t : TD) : Prop := PE X e (liftE bk X W t)
def PDT (e : Expr) (t : TDT) : Prop := PT X e (liftT bk X W t)
def PDA (es : List Expr) (t : TDA) : Prop := PA X es (liftA bk X W t)
end
section
variable {bk : BoxKind} {X : Cx} {W : WX} {S S' : AS} {σ : Sg} {H H' : Hp} {Ex : Err → Prop}
theorem ExOk.ext (h : ExOk bk X W S σ H Ex) (x : AOk bk S H) (e : Ext bk S S' H H') : ExOk bk X W S' σ H' Ex := fun er cls d H2 S2 h1 h2 h3 => h er cls d H2 S2 h1 (Ext.trans x e h2) h3
theorem Con.ext {Q : VK} {Qd : RV → Prop} (h : Con bk X S H Q Qd) (x : AOk bk S H) (e : Ext bk S S' H H') : Con bk X S' H' Q Qd := fun r v H2 S2 q e2 r2 => h r v H2 S2 q (Ext.trans x e e2) (r2.back fun _ => e.free x)
theorem PE.imp {e : Expr} {t t' : TE} (h : PE X e t) (i : ∀ σ H Q, t' σ H Q → t σ H Q) : PE X e t' := ⟨fun pins s σ H Q I q => h.run pins s σ H Q I (i σ H Q q)⟩
theorem PT.imp {e : Expr} {t t' : TT} (h : PT X e t) (i : ∀ σ H Q, t' σ H Q → t σ H Q) : PT X e t' := ⟨fun pins s σ H Q I q => h.run pins s σ H Q I (i σ H Q q)⟩
theorem PA.imp {es : List Expr} {t t' : TA} (h : PA X es t) (i : ∀ σ H Q, t' σ H Q → t σ H Q) : PA X es t' := ⟨fun pos pins s σ H Q I q => h.run pos pins s σ H Q I (i σ H Q q)⟩
theorem PS.imp {st : Stmt} {t t' : TS} (h : PS X st t) (i : ∀ D σ H, t' D σ H → t D σ H) : PS X st t' := ⟨fun pins s σ H D I q => h.run pins s σ H D I (i D σ H q)⟩
theorem PSs.imp {st : List Stmt} {t t' : TS} (h : PSs X st t) (i : ∀ D σ H, t' D σ H → t D σ H) : PSs X st t' := ⟨fun pins s σ H D I q => h.run pins s σ H D I (i D σ H q)⟩
theorem RArgs.ext {vs : List V} {rs : List RV} (h : RArgs X.K S vs rs) (e : Ext bk S S' H H') : RArgs X.K S' vs rs := Paired.mapP h fun v r z => by
  cases r with
  | d x => exact Rp.mono e.fz z
  | own o => exact z
  | bor o => exact z
  | box => obtain ⟨z1, z2⟩ := z; exact ⟨by rw [e.el]; exact z1, by rw [e.eb]; exact z2⟩
  | scr ns => obtain ⟨a, z1, z2⟩ := z; exact ⟨a, z1, sqL_mono e.fz z2⟩
end

/-! ### operators, by values -/
abbrev GD := PyData → PyData → (RV → Prop) → Prop
section
variable (bk : BoxKind) (X : Cx)
/-- f takes two data as g says -/
def OpD (f : Value → Value → Sem Value) (g : GD) : Prop := OpR X f fun x y H Q => ∃ S dx dy Qd, AOk bk S H ∧ Rq X.K S H x dx ∧ Rq X.K S H y dy ∧ Con bk X S H Q Qd ∧ g dx dy Qd
def UnD (f : Value → Sem Value) (g : PyData → (RV → Prop) → Prop) : Prop := UnR X f fun x H Q => ∃ S dx Qd, AOk bk S H ∧ Rq X.K S H x dx ∧ Con bk X S H Q Qd ∧ g dx Qd
end
def tBinD (g : GD) (ta tb : TD) : TD := fun env Q Ex => ta env (fun r => r.use fun x => tb env (fun r' => r'.use fun y => g x y Q) Ex) Ex
def tUnD (g : PyData → (RV → Prop) → Prop) (ta : TD) : TD := fun env Q Ex => ta env (fun r => r.use fun x => g x Q) Ex
section
variable {bk : BoxKind} {X : Cx} {W : WX}
/-- the two operands, evaluated -/
theorem two_data {ta tb : TD} {g : GD} {σ : Sg} {H : Hp} {Q : VK} (h : liftE bk X W (tBinD g ta tb) σ H Q) :
    liftE bk X W ta σ H fun x H1 => liftE bk X W tb σ H1 fun y H2 => ∃ S dx dy Qd, AOk bk S H2 ∧ Rq X.K S H2 x dx ∧ Rq X.K S H2 y dy ∧ Con bk X S H2 Q Qd ∧ g dx dy Qd := by
  obtain ⟨S, env, Hz, Qd, Ex, ok, ab, ex, con, t⟩ := h
  refine ⟨S, env, Hz, _, Ex, ok, ab, ex, fun r v H1 S1 q1 e1 r1 => ?_, t⟩
  obtain ⟨x, rx, q2⟩ := r1.rq q1
  refine ⟨S1, env, Hz, _, Ex, e1.ok, ab.ext e1, ex.ext ok e1, fun r' v' H2 S2 q3 e2 r2 => ?_, q2⟩
  obtain ⟨y, ry, q4⟩ := r2.rq q3
  exact ⟨S2, x, y, Qd, e2.ok, rx.ext e2, ry, con.ext ok (Ext.trans ok e1 e2), q4⟩
theorem one_data {ta : TD} {g : PyData → (RV → Prop) → Prop} {σ : Sg} {H : Hp} {Q : VK} (h : liftE bk X W (tUnD g ta) σ H Q) :
    liftE bk X W ta σ H fun x H1 => ∃ S dx Qd, AOk bk S H1 ∧ Rq X.K S H1 x dx ∧ Con bk X S H1 Q Qd ∧ g dx Qd := by
  obtain ⟨S, env, Hz, Qd, Ex, ok, ab, ex, con, t⟩ := h
  refine ⟨S, env, Hz, _, Ex, ok, ab, ex, fun r v H1 S1 q1 e1 r1 => ?_, t⟩
  obtain ⟨x, rx, q2⟩ := r1.rq q1
  exact ⟨S1, x, Qd, e1.ok, rx, con.ext ok e1, q2⟩
variable {a b : Expr} {ta tb : TD} {pos : Pos}
theorem pd_bin {op : Operator} {g : GD} (ho : OpD bk X (binaryOp op) g) (ha : PD bk X W a ta) (hb : PD bk X W b tb) : PD bk X W (.BinOp a op b pos) (tBinD g ta tb) :=
  PE.imp (pe_op ho ha hb) fun _ _ _ h => two_data h
theorem pd_un {op : UnaryOp} {g : PyData → (RV → Prop) → Prop} (ho : UnD bk X (unaryOp op) g) (ha : PD bk X W a ta) : PD bk X W (.UnaryOp op a pos) (tUnD g ta) :=
  PE.imp (pe_un ho ha) fun _ _ _ h => one_data h
theorem pd_cmp {op : CmpOp} {g : GD} (ho : OpD bk X (compareOp op) g) (ha : PD bk X W a ta) (hb : PD bk X W b tb) (hm : behindInMarks op b = false) : PD bk X W (.Compare a [op] [b] pos) (tBinD g ta tb) :=
  PE.imp (pe_cmpR ho ha hb hm) fun _ _ _ h => two_data h
/-- a value that is a bool, as a test -/
def tTst (t : TD) : TDT := fun env Q Ex => t env (fun r => r.use fun x => match x with | .bool b => Q b | _ => False) Ex
theorem lift_tst {t : TD} {σ : Sg} {H : Hp} {Q : Bool → Hp → Prop} (h : liftT bk X W (tTst t) σ H Q) : liftE bk X W t σ H fun x H' => ∃ k, x = .bl k ∧ Q k H' := by
  obtain ⟨S, env, Hz, Qd, Ex, ok, ab, ex, con, t⟩ := h
  refine ⟨S, env, Hz, _, Ex, ok, ab, ex, fun r v H1 S1 q1 e1 r1 => ?_, t⟩
  obtain ⟨x, rx, q2⟩ := r1.rq q1
  cases x with
  | bool b =>
    have := rx.rr.bool
    exact ⟨b, this, con b H1 S1 q2 e1⟩
  | _ => exact q2.elim
theorem pdt_cmp {op : CmpOp} {g : GD} (ho : OpD bk X (compareOp op) g) (ha : PD bk X W a ta) (hb : PD bk X W b tb) (hm : behindInMarks op b = false) : PDT bk X W (.Compare a [op] [b] pos) (tTst (tBinD g ta tb)) :=
  PT.imp (pt_cmpR ho ha hb hm) fun _ _ _ h => by
    obtain ⟨S, env, Hz, Qd, Ex, h1⟩ := lift_tst h
    exact two_data ⟨S, env, Hz, Qd, Ex, h1⟩
theorem pdt_val (h : PD bk X W a ta) (he : ∀ whole, isTrue a X.env whole = (do let v ← whole; standAt a.pos; holding [v] (truthy v))) : PDT bk X W a (tTst ta) :=
  PT.imp (pt_val h he) fun _ _ _ q => lift_tst q
end
end HA

namespace HA
open PySem PySem.Spec PyProof.Rows L2

/-! ### what the operators give, over data -/
/-- an int that may be a factor -/
def Sm (i : Int) : Prop := i.natAbs < 2 ^ 8000
/-- two factors -/
def Mb (i j : Int) : Prop := i.natAbs < 2 ^ 64 ∨ j.natAbs < 2 ^ 64 ∨ ∃ a b, i.natAbs < 2 ^ a ∧ j.natAbs < 2 ^ b ∧ a + b ≤ 134217728
theorem Sm.mb {i j : Int} (h : Sm i) (g : Sm j) : Mb i j := .inr (.inr ⟨8000, 8000, h, g, by decide⟩)
theorem Mb.ok {i j : Int} (h : Mb i j) : IntMulOk i j := by
  rcases h with h | h | ⟨a, b, h1, h2, h3⟩
  · exact IntMulOk.of_left (PyProof.Rows.intBits_le h)
  · have z : ¬ (Builtin.Int.intBits j > shortFactorBits) := Nat.not_lt.mpr (PyProof.Rows.intBits_le h)
    unfold IntMulOk
    rw [decide_eq_false z]
    simp
  · exact (mulx_ok h1 h2 h3).ok
def gAdd : GD
  | .int i, .int j, Q => Q (.d (.int (i + j)))
  | .str a, .str b, Q => a.length + b.length ≤ sizeLine ∧ Q (.d (.str (a ++ b)))
  | .tuple xs, .tuple ys, Q => xs.length + ys.length ≤ sizeLine ∧ Q (.d (.tuple (xs ++ ys)))
  | .list xs, .list ys, Q => xs.length + ys.length ≤ sizeLine ∧ Q (.own (.lst (xs ++ ys)))
  | _, _, _ => False
def gSub : GD
  | .int i, .int j, Q => Q (.d (.int (i - j)))
  | _, _, _ => False
def gMul : GD
  | .int i, .int j, Q => Mb i j ∧ Q (.d (.int (i * j)))
  | _, _, _ => False
def gFdiv : GD
  | .int i, .int j, Q => j ≠ 0 ∧ Sm j ∧ Q (.d (.int (i.fdiv j)))
  | _, _, _ => False
def gMod : GD
  | .int i, .int j, Q => j ≠ 0 ∧ Q (.d (.int (i.fmod j)))
  | _, _, _ => False
def gPow : GD
  | .int i, .int j, Q => 0 ≤ j ∧ j ≤ 1000000 ∧ i.natAbs < 2 ^ 64 ∧ Q (.d (.int (i ^ j.toNat)))
  | _, _, _ => False
def isTxt : PyData → Bool
  | .str _ => true
  | _ => false
/-- what == looks at: two texts, or data of a shape -/
def eqOk (x y : PyData) : Prop := (isTxt x = true ∧ isTxt y = true) ∨ (SeqAt.shaped x = true ∧ SeqAt.shaped y = true)
def gEq : GD := fun x y Q => eqOk x y ∧ Q (.d (.bool (PyData.eqv x y)))
def gNe : GD := fun x y Q => eqOk x y ∧ Q (.d (.bool (!PyData.eqv x y)))
def ordOk (x y : PyData) : Prop := PySem.W.alike x y = true ∧ x ≠ .none ∧ x.depth ≤ 64
def gOrd (p : Int → Int → Bool) (r : PyData → PyData → Bool) : GD := fun x y Q => match x, y with
  | .int i, .int j => Q (.d (.bool (p i j)))
  | x, y => ordOk x y ∧ Q (.d (.bool (r x y)))
def gLt : GD := gOrd (fun i j => decide (i < j)) fun x y => PySem.W.dataLt x y
def gGt : GD := gOrd (fun i j => decide (j < i)) fun x y => PySem.W.dataLt y x
def gLe : GD := gOrd (fun i j => decide (i ≤ j)) fun x y => !PySem.W.dataLt y x
def gGe : GD := gOrd (fun i j => decide (j ≤ i)) fun x y => !PySem.W.dataLt x y
def isNon : PyData → Bool
  | .none => true
  | _ => false
def gIn (neg : Bool) : GD := fun x y Q => match y with
  | .tuple ys => SeqAt.shaped x = true ∧ SeqAt.shaped (.list ys) = true ∧ Q (.d (.bool (xor neg (ys.any fun z => PyData.eqv z x))))
  | .list ys => SeqAt.shaped x = true ∧ SeqAt.shaped (.list ys) = true ∧ Q (.d (.bool (xor neg (ys.any fun z => PyData.eqv z x))))
  | .str z => match x with
    | .str w => Q (.d (.bool (xor neg (!(Builtin.Str.occurrences z w 0 z.length 1).isEmpty))))
    | _ => False
  | _ => False
def gIs (neg : Bool) : GD := fun x y Q => y = .none ∧ Q (.d (.bool (xor neg (isNon x))))
def gNeg : PyData → (RV → Prop) → Prop
  | .int i, Q => Q (.d (.int (-i)))
  | _, _ => False
def gNot : PyData → (RV → Prop) → Prop
  | .bool b, Q => Q (.d (.bool !b))
  | _, _ => False

section
variable {bk : BoxKind} {X : Cx} {S : AS} {H : Hp} {Q : VK} {Qd : RV → Prop}
theorem Con.data (c : Con bk X S H Q Qd) (ok : AOk bk S H) {x : PyData} {v : V} (q : Qd (.d x)) (r : Rp X.K S.F v x) : Q v H := c _ v H S q (Ext.refl ok) r
theorem Con.tup (c : Con bk X S H Q Qd) (ok : AOk bk S H) {xs : List PyData} {vs : List V} (q : Qd (.d (.tuple xs))) (r : RpAll X.K S.F vs xs) (p : Addr) (hp : H p = none) : Q (.ref p) (upd H p (.tup vs)) := by
  have e := Ext.new (o := .tup vs) ok hp
  exact c _ _ _ _ q e (.tup (.inl (.inl upd_same)) (r.mono e.fz))
theorem Con.lst (c : Con bk X S H Q Qd) (ok : AOk bk S H) {xs : List PyData} {vs : List V} (q : Qd (.own (.lst xs))) (r : RpAll X.K S.F vs xs) (p : Addr) (hp : H p = none) : Q (.ref p) (upd H p (.lst vs)) :=
  c _ _ _ _ q (Ext.laid ok hp) ⟨p, rfl, hp, fun m => ok.there m hp, ok.free hp, vs, upd_same, r⟩
theorem Con.dic (c : Con bk X S H Q Qd) (ok : AOk bk S H) {xs : List (PyData × PyData)} {vs : List (Key × V)} (q : Qd (.own (.dic xs))) (r : RpKv X.K S.F vs xs) (p : Addr) (hp : H p = none) : Q (.ref p) (upd H p (.dK vs)) :=
  c _ _ _ _ q (Ext.laid ok hp) ⟨p, rfl, hp, fun m => ok.there m hp, ok.free hp, vs, upd_same, r⟩
theorem Rq.int {v : V} {i : Int} {K : PySem.W.Frag} (h : Rq K S H v (.int i)) : v = .int i := h.rr.int
theorem Rq.list {v : V} {ds : List PyData} {K : PySem.W.Frag} (h : Rq K S H v (.list ds)) (ok : AOk bk S H) : ∃ a xs, v = .ref a ∧ SqL K H a xs ∧ RpAll K S.F xs ds := h.rr.list ok.sub
theorem Rq.tuple {v : V} {ds : List PyData} {K : PySem.W.Frag} (h : Rq K S H v (.tuple ds)) : ∃ a xs, v = .ref a ∧ SqT K S.F a xs ∧ RpAll K S.F xs ds := h.rr.tuple
theorem Sm.log2 {i : Int} (h : Sm i) : i.natAbs.log2 < 8000 := PySem.Flt.log2_lt_of (by decide) h
theorem Rq.reads {v : V} {u : Value} {x : PyData} {pins : List (Addr × Obj)} {σ : Sg} {s : Shared} (h : Rq X.K S H v x) (ok : AOk bk S H) (I : Inv X pins σ H s) (hs : noSys X) (r : RelV v u) : ∃ as, Reads s.heap u x as ∧ True := by
  obtain ⟨as, h⟩ := h.rr.reads ok.sub I r
  exact ⟨as, h, trivial⟩


/-! ### two lists, of any making -/
theorem PlainL.whole {h : Heap} {a : Addr} {its : Array Value} (p : PlainL h a its) : ∃ n sl, h.get? a = some { cls := .type "list", data := .seq its n, slots := sl } := by
  obtain ⟨o, n, e, hc, hd, hz⟩ := p
  refine ⟨n, o.slots, ?_⟩
  rw [e]
  obtain ⟨c, d, z, sl⟩ := o
  simp only at hc hd hz
  rw [hc, hd, hz]
theorem add_from (l b : Addr) (xs ys : Array Value) (n m : Nat) (sl sm : Array (Option Value)) (h0 : xs.size + ys.size ≤ sizeLine) :
    Meets (Builtin.«list.__add__» ⟨[.ref l, .ref b], []⟩) (fun _ R s => s.heap.get? l = some { cls := .type "list", data := .seq xs n, slots := sl } ∧ s.heap.get? b = some { cls := .type "list", data := .seq ys m, slots := sm } ∧ R (.ok (.ret (Value.ref s.heap.objs.size))) { s with heap := s.heap.push { cls := Value.type "list", data := Data.seq (xs ++ ys) }, toks := s.toks }) :=
  .of_wp fun prog w A R s h => by
    obtain ⟨hp, g, d, tk, os⟩ := s
    obtain ⟨hl, hb, h⟩ := h
    have i1 := PySem.AutoSeq1.idx_int
    have i2 := PySem.AutoSeq1.sub_tuple_tuple
    have i3 := PySem.AutoSeq1.sub_list_list
    have i4 := PySem.AutoSeq1.sub_tuple_list
    have i5 := PySem.AutoSeq1.sub_list_tuple
    wp_walk using PySem.AutoSeq1.wpAny_loadPart' hl, PySem.AutoSeq1.wpAny_loadPart' hb
    exact ⟨_, rfl, h⟩
theorem op_catQ {X : Cx} : OpR X (binaryOp .Add) (fun x y H Q => ∃ l b xs zs, x = .ref l ∧ y = .ref b ∧ SqL X.K H l xs ∧ SqL X.K H b zs ∧ xs.length + zs.length ≤ sizeLine ∧ ∀ p, H p = none → Q (.ref p) (upd H p (.lst (xs ++ zs)))) := by
  intro pins s σ H x y v u Q I rx ry h
  obtain ⟨l, b, xs, zs, rfl, rfl, hH, hB, hz, q⟩ := h
  cases rx
  cases ry
  obtain ⟨its, r, p, z⟩ := I.list hH
  obtain ⟨its2, r2, p2, z2⟩ := I.list hB
  obtain ⟨n, sl, e⟩ := PlainL.whole p
  obtain ⟨n2, sl2, e2⟩ := PlainL.whole p2
  have h1 := r.length
  have h2 := r2.length
  refine concat_meets ⟨_, e, rfl⟩ ⟨_, e2, rfl⟩ noFill_list_add seq_list_add PySem.F.slot_list_add PySem.F.entry_list_add (PySem.F.args_list_add_2 _ _) (add_from l b its.toArray its2.toArray n n2 sl sl2 (by rw [List.size_toArray, List.size_toArray]; omega)) ⟨e, e2, ?_⟩
  have ea : its.toArray ++ its2.toArray = (its ++ its2).toArray := by simp
  rw [ea]
  exact ⟨.ref _, _, I.lnew (t' := s.toks) (r.append r2) (by rw [List.length_append]; omega), rfl, q _ I.fresh⟩

theorem od_add : OpD bk X (binaryOp .Add) gAdd := by
  intro pins s σ H x y v u Q I rx ry h
  obtain ⟨S, dx, dy, Qd, ok, hx, hy, con, g⟩ := h
  cases dx with
  | int i => cases dy with
    | int j => exact op_add pins s σ H x y v u Q I rx ry ⟨i, j, hx.rr.int, hy.rr.int, con.data ok g (.int _)⟩
    | _ => exact g.elim
  | str a => cases dy with
    | str b =>
      obtain ⟨z, g⟩ := g
      exact op_add_str pins s σ H x y v u Q I rx ry ⟨a, b, hx.rr.str, hy.rr.str, z, con.data ok g (.str _)⟩
    | _ => exact g.elim
  | tuple xs => cases dy with
    | tuple ys =>
      obtain ⟨z, g⟩ := g
      obtain ⟨a, vs, rfl, ha, ra⟩ := hx.tuple
      obtain ⟨b, ws, rfl, hb, rb⟩ := hy.tuple
      have la := ra.length
      have lb := rb.length
      refine op_catA pins s σ H _ _ v u Q I rx ry ⟨a, b, vs, ws, rfl, rfl, sqT_mono ok.sub ha, sqT_mono ok.sub hb, by omega, fun e => ?_, fun _ e => ?_, fun _ _ p hp => con.tup ok g (ra.append rb) p hp⟩
      · subst e
        cases ra
        exact con.data ok g (.tup hb rb)
      · subst e
        cases rb
        rw [List.append_nil] at g
        exact con.data ok g (.tup ha ra)
    | _ => exact g.elim
  | list xs => cases dy with
    | list ys =>
      obtain ⟨z, g⟩ := g
      obtain ⟨a, vs, rfl, ha, ra⟩ := hx.list ok
      obtain ⟨b, ws, rfl, hb, rb⟩ := hy.list ok
      have la := ra.length
      have lb := rb.length
      exact op_catQ pins s σ H _ _ v u Q I rx ry ⟨a, b, vs, ws, rfl, rfl, ha, hb, by omega, fun p hp => con.lst ok g (ra.append rb) p hp⟩
    | _ => exact g.elim
  | _ => exact g.elim
theorem od_sub : OpD bk X (binaryOp .Sub) gSub := by
  intro pins s σ H x y v u Q I rx ry h
  obtain ⟨S, dx, dy, Qd, ok, hx, hy, con, g⟩ := h
  cases dx with
  | int i => cases dy with
    | int j => exact op_sub pins s σ H x y v u Q I rx ry ⟨i, j, hx.rr.int, hy.rr.int, con.data ok g (.int _)⟩
    | _ => exact g.elim
  | _ => exact g.elim
theorem op_mulG {X : Cx} : OpR X (binaryOp .Mult) (rI IntMulOk fun i j => .int (i * j)) := opI fun _ _ _ _ _ _ _ hc q => mul_int q hc
theorem od_mul : OpD bk X (binaryOp .Mult) gMul := by
  intro pins s σ H x y v u Q I rx ry h
  obtain ⟨S, dx, dy, Qd, ok, hx, hy, con, g⟩ := h
  cases dx with
  | int i => cases dy with
    | int j =>
      obtain ⟨h1, g⟩ := g
      exact op_mulG pins s σ H x y v u Q I rx ry ⟨i, j, hx.rr.int, hy.rr.int, h1.ok, con.data ok g (.int _)⟩
    | _ => exact g.elim
  | _ => exact g.elim
theorem op_fdivAll : OpR X (binaryOp .FloorDiv) (rI (fun _ j => j ≠ 0 ∧ j.natAbs.log2 < 9000) fun i j => .int (i.fdiv j)) := opI fun i j _ _ _ _ _ hc q =>
  floordiv_int hc.1 q (.inl (PyProof.noPylong_of_log2 hc.2))
theorem od_fdiv : OpD bk X (binaryOp .FloorDiv) gFdiv := by
  intro pins s σ H x y v u Q I rx ry h
  obtain ⟨S, dx, dy, Qd, ok, hx, hy, con, g⟩ := h
  cases dx with
  | int i => cases dy with
    | int j =>
      obtain ⟨h1, h2, g⟩ := g
      have l2 := h2.log2
      exact op_fdivAll pins s σ H x y v u Q I rx ry ⟨i, j, hx.rr.int, hy.rr.int, ⟨h1, by omega⟩, con.data ok g (.int _)⟩
    | _ => exact g.elim
  | _ => exact g.elim
theorem od_mod : OpD bk X (binaryOp .Mod) gMod := by
  intro pins s σ H x y v u Q I rx ry h
  obtain ⟨S, dx, dy, Qd, ok, hx, hy, con, g⟩ := h
  cases dx with
  | int i => cases dy with
    | int j =>
      obtain ⟨h1, g⟩ := g
      exact op_modN pins s σ H x y v u Q I rx ry ⟨i, j, hx.rr.int, hy.rr.int, h1, con.data ok g (.int _)⟩
    | _ => exact g.elim
  | _ => exact g.elim
theorem od_pow : OpD bk X (binaryOp .Pow) gPow := by
  intro pins s σ H x y v u Q I rx ry h
  obtain ⟨S, dx, dy, Qd, ok, hx, hy, con, g⟩ := h
  cases dx with
  | int i => cases dy with
    | int j =>
      obtain ⟨h1, h2, h3, g⟩ := g
      exact op_pow pins s σ H x y v u Q I rx ry ⟨i, j, hx.rr.int, hy.rr.int, ⟨h1, h2, h3⟩, con.data ok g (.int _)⟩
    | _ => exact g.elim
  | _ => exact g.elim
theorem od_eq (hs : noSys X) (hu : X.A.units + 64 < cLine) : OpD bk X (compareOp .Eq) gEq := by
  intro pins s σ H x y v u Q I rx ry h
  obtain ⟨S, dx, dy, Qd, ok, hx, hy, con, g1, g⟩ := h
  rcases g1 with ⟨t1, t2⟩ | ⟨g1, g2⟩
  · cases dx with
    | str a => cases dy with
      | str b =>
        have ex := hx.rr.str
        have ey := hy.rr.str
        subst ex ey
        refine op_eq pins s σ H _ _ v u Q I rx ry ⟨rfl, ?_⟩
        have e : decide (V.str a = V.str b) = PyData.eqv (.str a) (.str b) := by
          show _ = (a == b)
          rw [Bool.eq_iff_iff]
          simp
        rw [e]
        exact con.data ok g (.bl _)
      | _ => cases t2
    | _ => cases t1
  · obtain ⟨as, r1, _⟩ := hx.reads ok I hs rx
    obtain ⟨bs, r2, _⟩ := hy.reads ok I hs ry
    exact SeqAt.compareEq_shaped r1 r2 g1 g2 hu ⟨.bl _, H, I, rfl, con.data ok g (.bl _)⟩
theorem od_ne (hs : noSys X) (hu : X.A.units + 64 < cLine) : OpD bk X (compareOp .NotEq) gNe := by
  intro pins s σ H x y v u Q I rx ry h
  obtain ⟨S, dx, dy, Qd, ok, hx, hy, con, g1, g⟩ := h
  rcases g1 with ⟨t1, t2⟩ | ⟨g1, g2⟩
  · cases dx with
    | str a => cases dy with
      | str b =>
        have ex := hx.rr.str
        have ey := hy.rr.str
        subst ex ey
        refine op_ne pins s σ H _ _ v u Q I rx ry ⟨rfl, ?_⟩
        have e : decide (V.str a = V.str b) = PyData.eqv (.str a) (.str b) := by
          show _ = (a == b)
          rw [Bool.eq_iff_iff]
          simp
        rw [e]
        exact con.data ok g (.bl _)
      | _ => cases t2
    | _ => cases t1
  · obtain ⟨as, r1, _⟩ := hx.reads ok I hs rx
    obtain ⟨bs, r2, _⟩ := hy.reads ok I hs ry
    exact SeqAt.compareNe_shaped r1 r2 g1 g2 hu ⟨.bl _, H, I, rfl, con.data ok g (.bl _)⟩
theorem ord_split {x y : PyData} {p : Int → Int → Bool} {r : PyData → PyData → Bool} {Q : RV → Prop} (h : gOrd p r x y Q) : (∃ i j, x = .int i ∧ y = .int j ∧ Q (.d (.bool (p i j)))) ∨ (ordOk x y ∧ Q (.d (.bool (r x y)))) := by
  unfold gOrd at h
  split at h
  · exact .inl ⟨_, _, rfl, rfl, h⟩
  · exact .inr h
theorem ord_room {x y : PyData} {A : Around} (h : ordOk x y) (hu : A.units + 64 < cLine) : A.units + min x.depth y.depth < cLine := by
  have h1 := h.2.2
  have h2 : min x.depth y.depth ≤ x.depth := Nat.min_le_left _ _
  omega
theorem od_lt (hs : noSys X) (hu : X.A.units + 64 < cLine) : OpD bk X (compareOp .Lt) gLt := by
  intro pins s σ H x y v u Q I rx ry h
  obtain ⟨S, dx, dy, Qd, ok, hx, hy, con, g⟩ := h
  obtain ⟨as, r1, _⟩ := hx.reads ok I hs rx
  obtain ⟨bs, r2, _⟩ := hy.reads ok I hs ry
  rcases ord_split g with ⟨i, j, rfl, rfl, g⟩ | ⟨o, g⟩
  · exact op_lt pins s σ H x y v u Q I rx ry ⟨i, j, hx.rr.int, hy.rr.int, con.data ok g (.bl _)⟩
  · exact PySem.W.lt_data r1 r2 o.1 o.2.1 (ord_room o hu) ⟨.bl _, H, I, rfl, con.data ok g (.bl _)⟩
theorem od_gt (hs : noSys X) (hu : X.A.units + 64 < cLine) : OpD bk X (compareOp .Gt) gGt := by
  intro pins s σ H x y v u Q I rx ry h
  obtain ⟨S, dx, dy, Qd, ok, hx, hy, con, g⟩ := h
  obtain ⟨as, r1, _⟩ := hx.reads ok I hs rx
  obtain ⟨bs, r2, _⟩ := hy.reads ok I hs ry
  rcases ord_split g with ⟨i, j, rfl, rfl, g⟩ | ⟨o, g⟩
  · exact op_gt pins s σ H x y v u Q I rx ry ⟨i, j, hx.rr.int, hy.rr.int, con.data ok g (.bl _)⟩
  · exact PySem.W.gt_data r1 r2 o.1 o.2.1 (ord_room o hu) ⟨.bl _, H, I, rfl, con.data ok g (.bl _)⟩
theorem od_le (hs : noSys X) (hu : X.A.units + 64 < cLine) : OpD bk X (compareOp .LtE) gLe := by
  intro pins s σ H x y v u Q I rx ry h
  obtain ⟨S, dx, dy, Qd, ok, hx, hy, con, g⟩ := h
  obtain ⟨as, r1, _⟩ := hx.reads ok I hs rx
  obtain ⟨bs, r2, _⟩ := hy.reads ok I hs ry
  rcases ord_split g with ⟨i, j, rfl, rfl, g⟩ | ⟨o, g⟩
  · exact op_le pins s σ H x y v u Q I rx ry ⟨i, j, hx.rr.int, hy.rr.int, con.data ok g (.bl _)⟩
  · exact PySem.W.le_data r1 r2 o.1 o.2.1 (ord_room o hu) ⟨.bl _, H, I, rfl, con.data ok g (.bl _)⟩
theorem od_ge (hs : noSys X) (hu : X.A.units + 64 < cLine) : OpD bk X (compareOp .GtE) gGe := by
  intro pins s σ H x y v u Q I rx ry h
  obtain ⟨S, dx, dy, Qd, ok, hx, hy, con, g⟩ := h
  obtain ⟨as, r1, _⟩ := hx.reads ok I hs rx
  obtain ⟨bs, r2, _⟩ := hy.reads ok I hs ry
  rcases ord_split g with ⟨i, j, rfl, rfl, g⟩ | ⟨o, g⟩
  · exact op_ge pins s σ H x y v u Q I rx ry ⟨i, j, hx.rr.int, hy.rr.int, con.data ok g (.bl _)⟩
  · exact PySem.W.ge_data r1 r2 o.1 o.2.1 (ord_room o hu) ⟨.bl _, H, I, rfl, con.data ok g (.bl _)⟩
theorem room_in {d : PyData} {ys : List PyData} {A : Around} (h : SeqAt.shaped d = true) (hu : A.units + 65 < cLine) : A.units + 1 + min (PyData.depthAll ys) d.depth < cLine := by
  have h1 := SeqAt.depth_of_shaped h
  have h2 : min (PyData.depthAll ys) d.depth ≤ d.depth := Nat.min_le_right _ _
  omega
theorem od_in (hs : noSys X) (hu : X.A.units + 65 < cLine) : OpD bk X (compareOp .In) (gIn false) := by
  intro pins s σ H x y v u Q I rx ry h
  obtain ⟨S, dx, dy, Qd, ok, hx, hy, con, g⟩ := h
  obtain ⟨as, r1, _⟩ := hx.reads ok I hs rx
  obtain ⟨bs, r2, _⟩ := hy.reads ok I hs ry
  cases dy with
  | tuple ys =>
    obtain ⟨g1, g2, g⟩ := g
    rw [Bool.false_xor] at g
    exact SeqAt.in_tuple_reads r2 r1 (SeqAt.canLay_of_shaped g2) (SeqAt.canLay_of_shaped g1) (room_in g1 hu) ⟨.bl _, H, I, rfl, con.data ok g (.bl _)⟩
  | list ys =>
    obtain ⟨g1, g2, g⟩ := g
    rw [Bool.false_xor] at g
    exact SeqAt.in_list_reads r2 r1 (SeqAt.canLay_of_shaped g2) (SeqAt.canLay_of_shaped g1) (room_in g1 hu) ⟨.bl _, H, I, rfl, con.data ok g (.bl _)⟩
  | str z =>
    cases dx with
    | str w' =>
      have g : Qd (.d (.bool (xor false (!(Builtin.Str.occurrences z w' 0 z.length 1).isEmpty)))) := g
      rw [Bool.false_xor] at g
      exact op_in_str pins s σ H x y v u Q I rx ry ⟨w', z, hx.rr.str, hy.rr.str, con.data ok g (.bl _)⟩
    | _ => exact g.elim
  | _ => exact g.elim
theorem od_notIn (hs : noSys X) (hu : X.A.units + 65 < cLine) : OpD bk X (compareOp .NotIn) (gIn true) := by
  intro pins s σ H x y v u Q I rx ry h
  obtain ⟨S, dx, dy, Qd, ok, hx, hy, con, g⟩ := h
  obtain ⟨as, r1, _⟩ := hx.reads ok I hs rx
  obtain ⟨bs, r2, _⟩ := hy.reads ok I hs ry
  cases dy with
  | tuple ys =>
    obtain ⟨g1, g2, g⟩ := g
    rw [Bool.true_xor] at g
    exact SeqAt.notIn_tuple_reads r2 r1 (SeqAt.canLay_of_shaped g2) (SeqAt.canLay_of_shaped g1) (room_in g1 hu) ⟨.bl _, H, I, rfl, con.data ok g (.bl _)⟩
  | list ys =>
    obtain ⟨g1, g2, g⟩ := g
    rw [Bool.true_xor] at g
    exact SeqAt.notIn_list_reads r2 r1 (SeqAt.canLay_of_shaped g2) (SeqAt.canLay_of_shaped g1) (room_in g1 hu) ⟨.bl _, H, I, rfl, con.data ok g (.bl _)⟩
  | str z =>
    cases dx with
    | str w' =>
      have g : Qd (.d (.bool (xor true (!(Builtin.Str.occurrences z w' 0 z.length 1).isEmpty)))) := g
      rw [Bool.true_xor] at g
      exact op_notin_str pins s σ H x y v u Q I rx ry ⟨w', z, hx.rr.str, hy.rr.str, con.data ok g (.bl _)⟩
    | _ => exact g.elim
  | _ => exact g.elim
theorem Rq.non_iff {v : V} {x : PyData} {K : PySem.W.Frag} (h : Rq K S H v x) : decide (v = .non) = isNon x := by
  rcases h with h | ⟨a, o, rfl, _, h, rfl⟩ | ⟨a, ns, rfl, h, rfl⟩
  · cases h <;> simp [isNon]
  · cases o <;> simp [Ow.dat, isNon]
  · simp [isNon]
theorem od_is : OpD bk X (compareOp .Is) (gIs false) := by
  intro pins s σ H x y v u Q I rx ry h
  obtain ⟨S, dx, dy, Qd, ok, hx, hy, con, rfl, g⟩ := h
  have e : y = .non := hy.rr.none
  refine op_isN pins s σ H x y v u Q I rx ry ⟨e, ?_⟩
  rw [hx.non_iff]
  rw [Bool.false_xor] at g
  exact con.data ok g (.bl _)
theorem od_isNot : OpD bk X (compareOp .IsNot) (gIs true) := by
  intro pins s σ H x y v u Q I rx ry h
  obtain ⟨S, dx, dy, Qd, ok, hx, hy, con, rfl, g⟩ := h
  have e : y = .non := hy.rr.none
  refine op_notN pins s σ H x y v u Q I rx ry ⟨e, ?_⟩
  rw [hx.non_iff]
  rw [Bool.true_xor] at g
  exact con.data ok g (.bl _)
theorem ud_neg : UnD bk X (unaryOp .USub) gNeg := by
  intro pins s σ H x v Q I rx h
  obtain ⟨S, dx, Qd, ok, hx, con, g⟩ := h
  cases dx with
  | int i => exact un_neg pins s σ H x v Q I rx ⟨i, hx.rr.int, con.data ok g (.int _)⟩
  | _ => exact g.elim
end
end HA

namespace HA
open PySem PySem.Spec PyProof.Rows L2

/-! ### names, constants -/
def RV.rd : RV → RV
  | .own o => .bor o
  | r => r
def enGet (env : En) (i : Nat) (k : RV → Prop) : Prop := match env[i]? with
  | some (some r) => k r
  | _ => False
def tVarD (i : Nat) : TD := fun env Q _ => enGet env i fun r => Q r.rd
def tConD (d : PyData) : TD := fun _ Q _ => Q (.d d)
theorem enGet_some {env : En} {i : Nat} {k : RV → Prop} (h : enGet env i k) : ∃ r, env[i]? = some (some r) ∧ k r := by
  unfold enGet at h
  split at h
  · exact ⟨_, by assumption, h⟩
  · exact h.elim
section
variable {bk : BoxKind} {X : Cx} {W : WX} {S S' : AS} {σ : Sg} {H H' Hz : Hp} {env : En} {pos : Pos}
theorem RSlot.res {v : V} {r : RV} (h : RSlot X.K S Hz H v r) : RRes X.K S H H v r.rd := by
  cases r with
  | d x => exact h
  | own o => obtain ⟨a, e, _, l, f, w⟩ := h; exact ⟨a, e, l, f, w⟩
  | bor o => exact h.elim
  | box => exact h
  | scr ns => exact h
theorem pd_var {i : Nat} {x : Str} (hN : X.N[i]? = some x) (hv : Vis X.env.scope x) (hd : (x == ("__debug__" : Str)) = false) (hcd : (x == ("__classdict__" : Str)) = false) : PD bk X W (.Name x pos) (tVarD i) :=
  PE.imp (pe_var hN hv hd hcd) fun σ H Q h => by
    obtain ⟨S, env, Hz, Qd, Ex, ok, ab, ex, con, t⟩ := h
    obtain ⟨r, e, q⟩ := enGet_some t
    obtain ⟨v, e2, rs⟩ := ab.at_ i r e
    exact ⟨v, e2, con _ _ _ _ q (Ext.refl ok) rs.res⟩
theorem lift_con {d : PyData} {v : V} (h : ∀ F, Rp X.K F v d) {σ : Sg} {H : Hp} {Q : VK} (q : liftE bk X W (tConD d) σ H Q) : Q v H := by
  obtain ⟨S, env, Hz, Qd, Ex, ok, ab, ex, con, t⟩ := q
  exact con.data ok t (h _)
theorem pd_int {i j} : PD bk X W (.Constant (.int i) j pos) (tConD (.int i)) := PE.imp pe_int fun _ _ _ q => lift_con (fun _ => .int i) q
theorem pd_bl {b j} : PD bk X W (.Constant (.bool b) j pos) (tConD (.bool b)) := PE.imp pe_bl fun _ _ _ q => lift_con (fun _ => .bl b) q
theorem pd_non {j} : PD bk X W (.Constant .none j pos) (tConD .none) := PE.imp pe_non fun _ _ _ q => lift_con (fun _ => .non) q
theorem pd_str {x j} : PD bk X W (.Constant (.str x) j pos) (tConD (.str x)) := PE.imp pe_str fun _ _ _ q => lift_con (fun _ => .str x) q
theorem pd_glob {x : Str} {u : Value} {v : V} {d : PyData} (hg : Gl X x) (hm : X.mg x = some u) (r : RelV v u) (h : ∀ F, Rp X.K F v d) (hd : (x == ("__debug__" : Str)) = false) : PD bk X W (.Name x pos) (tConD d) :=
  PE.imp (pe_glob hg hm r hd) fun _ _ _ q => lift_con h q

/-! ### arguments -/
def tNilD : TDA := fun _ Q _ => Q []
def tConsD (ta : TD) (tr : TDA) : TDA := fun env Q Ex => ta env (fun r => r.arg fun r' => tr env (fun rs => Q (r' :: rs)) Ex) Ex
theorem freeze_at (e : Ext bk S S' H H') {a : Addr} {u : HO} (hn : H a = none) (hl : a ∉ S'.l) (hf : S'.F a = none) (hu : H' a = some u) : Ext bk S { S' with F := upd S'.F a u } H H' := by
  refine ⟨fun b w hb => ?_, fun b h1 h2 => ?_, e.eb, e.el, e.kp, ⟨fun b w hb => ?_, fun b m => ?_, e.ok.box⟩⟩
  · show upd S'.F a u b = some w
    have := e.fz b w hb
    rw [upd_ne (ne_of_none this hf)]; exact this
  · by_cases q : b = a
    · rw [q]; exact hn
    · exact e.nw b h1 fun z => h2 (by show upd S'.F a u b = none; rw [upd_ne q]; exact z)
  · have hb' : upd S'.F a u b = some w := hb
    by_cases q : b = a
    · subst q
      rw [upd_same] at hb'
      rw [hu]; exact hb'
    · rw [upd_ne q] at hb'
      exact e.ok.sub b w hb'
  · show upd S'.F a u b = none
    rw [upd_ne (show b ≠ a from fun z => hl (by rw [← z]; exact m))]; exact e.ok.out b m
/-- a value that is handed on: S2 has it frozen -/
theorem RRes.arg {v : V} {r : RV} {k : RV → Prop} (ok0 : AOk bk S H) (e : Ext bk S S' H H') (h : RRes X.K S' H H' v r) (u : r.arg k) : ∃ S2 r', Ext bk S S2 H H' ∧ RArg X.K S2 v r' ∧ k r' ∧ ∀ y, r' ≠ .own y ∧ r' ≠ .bor y := by
  cases r with
  | d x => exact ⟨S', .d x, e, h, u, fun _ => ⟨nofun, nofun⟩⟩
  | bor o => exact u.elim
  | box => exact ⟨S', .box, e, h, u, fun _ => ⟨nofun, nofun⟩⟩
  | scr ns => exact ⟨S', .scr ns, e, h, u, fun _ => ⟨nofun, nofun⟩⟩
  | own o =>
    obtain ⟨a, rfl, hn, hl, hf, w⟩ := h
    cases o with
    | lst xs =>
      obtain ⟨vs, h1, h2⟩ := w
      have e2 := freeze_at e hn hl hf h1
      refine ⟨_, .d (.list xs), e2, ?_, u, fun _ => ⟨nofun, nofun⟩⟩
      exact .lst upd_same (h2.mono fun b w hb => by
        show upd S'.F a _ b = some w
        rw [upd_ne (ne_of_none hb hf)]; exact hb)
    | dic ks =>
      obtain ⟨vs, h1, h2⟩ := w
      have e2 := freeze_at e hn hl hf h1
      refine ⟨_, .d (.dict ks), e2, ?_, u, fun _ => ⟨nofun, nofun⟩⟩
      exact .dic upd_same (h2.mono fun b w hb => by
        show upd S'.F a _ b = some w
        rw [upd_ne (ne_of_none hb hf)]; exact hb)
variable {e : Expr} {es : List Expr} {t : TD} {tr : TDA}
theorem pda_nil : PDA bk X W [] tNilD := PA.imp pa_nil fun _ _ _ q => by
  obtain ⟨S, env, Hz, Qd, Ex, ok, ab, ex, con, t⟩ := q
  exact con [] [] _ _ t (Ext.refl ok) .nil
theorem pda_cons (ha : PD bk X W e t) (hr : PDA bk X W es tr) (hs : starEach (e :: es) X.env = (false, eval e X.env) :: starEach es X.env) : PDA bk X W (e :: es) (tConsD t tr) := PA.imp (pa_cons ha hr hs) fun σ H Q q => by
  obtain ⟨S, env, Hz, Qd, Ex, ok, ab, ex, con, t⟩ := q
  refine ⟨S, env, Hz, _, Ex, ok, ab, ex, fun r v H1 S1 q1 e1 r1 => ?_, t⟩
  obtain ⟨S2, r', e2, ra, q2, _⟩ := r1.arg ok e1 q1
  refine ⟨S2, env, Hz, _, Ex, e2.ok, ab.ext e2, ex.ext ok e2, fun rs vs H3 S3 q3 e3 rv => ?_, q2⟩
  exact con (r' :: rs) (v :: vs) H3 S3 q3 (Ext.trans ok e2 e3) (.cons (by
    have := RArgs.ext (X := X) (vs := [v]) (rs := [r']) (.cons ra .nil) e3
    cases this with
    | cons h _ => exact h) rv)

/-! ### displays -/
def allD : List RV → (List PyData → Prop) → Prop
  | [], k => k []
  | .d x :: rs, k => allD rs fun xs => k (x :: xs)
  | _ :: _, _ => False
theorem RArgs.data {S : AS} : ∀ {rs : List RV} {vs : List V} {k : List PyData → Prop}, RArgs X.K S vs rs → allD rs k → ∃ xs, RpAll X.K S.F vs xs ∧ k xs
  | [], _, _, h, q => by cases h; exact ⟨[], .nil, q⟩
  | .d x :: rs, _, _, h, q => by
    cases h with
    | cons h1 h2 =>
      obtain ⟨xs, r, q⟩ := RArgs.data (rs := rs) h2 q
      exact ⟨x :: xs, .cons h1 r, q⟩
  | .own _ :: _, _, _, _, q => q.elim
  | .bor _ :: _, _, _, _, q => q.elim
  | .box :: _, _, _, _, q => q.elim
  | .scr _ :: _, _, _, _, q => q.elim
def tTupD (t : TDA) : TD := fun env Q Ex => t env (fun rs => allD rs fun xs => xs.length ≤ sizeLine ∧ Q (.d (.tuple xs))) Ex
def tLstD (t : TDA) : TD := fun env Q Ex => t env (fun rs => allD rs fun xs => xs.length ≤ sizeLine ∧ Q (.own (.lst xs))) Ex
theorem pd_tup {x1} (h : PDA bk X W es tr) : PD bk X W (.Tuple es x1 pos) (tTupD tr) := PE.imp (pe_tup h) fun σ H Q q => by
  obtain ⟨S, env, Hz, Qd, Ex, ok, ab, ex, con, t⟩ := q
  refine ⟨S, env, Hz, _, Ex, ok, ab, ex, fun rs vs H1 S1 q1 e1 r1 => ?_, t⟩
  obtain ⟨xs, rx, z, q2⟩ := r1.data q1
  exact ⟨by rw [rx.length]; exact z, fun p hp => (con.ext ok e1).tup e1.ok q2 rx p hp⟩
theorem pd_lst (h : PDA bk X W es tr) : PD bk X W (.List es pos) (tLstD tr) := PE.imp (pe_lst h) fun σ H Q q => by
  obtain ⟨S, env, Hz, Qd, Ex, ok, ab, ex, con, t⟩ := q
  refine ⟨S, env, Hz, _, Ex, ok, ab, ex, fun rs vs H1 S1 q1 e1 r1 => ?_, t⟩
  obtain ⟨xs, rx, z, q2⟩ := r1.data q1
  exact ⟨by rw [rx.length]; exact z, fun p hp => (con.ext ok e1).lst e1.ok q2 rx p hp⟩
def tDic0 : TD := fun _ Q _ => Q (.own (.dic []))
theorem pd_dic0 : PD bk X W (.Dict [] [] pos) tDic0 := PE.imp pe_dnewK fun σ H Q q => by
  obtain ⟨S, env, Hz, Qd, Ex, ok, ab, ex, con, t⟩ := q
  exact fun p hp => con.dic ok t .nil p hp
/-- {'k': e} -/
def tDic1 (k : Str) (t : TD) : TD := fun env Q Ex => t env (fun r => r.arg fun r' => match r' with | .d x => Q (.own (.dic [(.str k, x)])) | _ => False) Ex
theorem pd_dic1 {k : Str} {j : Nat} {p1 : Pos} (h : PD bk X W e t) : PD bk X W (.Dict [some (.Constant (.str k) j p1)] [e] pos) (tDic1 k t) :=
  PE.imp (pe_disp (pps_cons pe_str h pps_nil) rfl rfl (fun z => by cases z) (show 1 ≤ 15 by decide)) fun σ H Q q => by
    obtain ⟨S, env, Hz, Qd, Ex, ok, ab, ex, con, t⟩ := q
    intro p hp
    have lp : p ∉ S.l := fun m => ok.there m hp
    have e0 := Ext.laid (o := .dK []) ok hp
    refine ⟨S, env, Hz, _, Ex, e0.ok, ab.ext e0, ex.ext ok e0, fun r v H1 S1 q1 e1 r1 => ?_, t⟩
    obtain ⟨S2, r', e2, ra, q2, _⟩ := r1.arg e0.ok e1 q1
    have hp2 : H1 p = some (.dK []) := e2.kp _ _ upd_same lp
    refine ⟨hp2, [(.inr k, v)], rfl, by simp, ?_⟩
    cases r' with
    | d x =>
      have e3 : Ext bk S S2 H (upd H1 p (.dK (mergeK [] [(.inr k, v)]))) := by
        refine ⟨e2.fz, fun a h1 h2 => ?_, e2.eb, e2.el, fun a o h m => ?_, ⟨fun a o h => ?_, e2.ok.out, ?_⟩⟩
        · have := e2.nw a h1 h2
          by_cases z : a = p
          · rw [z]; exact hp
          · rw [upd_ne z] at this; exact this
        · rw [upd_ne (ne_of_none h hp)]
          exact e2.kp _ _ (by rw [upd_ne (ne_of_none h hp)]; exact h) m
        · by_cases z : a = p
          · subst z
            have z2 : S.F a = none := ok.free hp
            have := e2.nw a z2 (by rw [h]; exact nofun)
            rw [upd_same] at this; cases this
          · rw [upd_ne z]; exact e2.ok.sub a o h
        · rcases e2.ok.box with z | z
          · exact .inl z
          · exact .inr (bk.loc z fun a m => upd_ne fun z => lp (by rw [← e2.el, ← z]; exact m))
      refine con _ _ _ _ q2 e3 ⟨p, rfl, hp, by rw [e2.el]; exact lp, ?_, _, upd_same, ?_⟩
      · cases z : S2.F p with
        | none => rfl
        | some w =>
          have := e2.nw p (ok.free hp) (by rw [z]; exact nofun)
          rw [upd_same] at this; cases this
      · exact .cons ra .nil
    | own o => exact q2.elim
    | bor o => exact q2.elim
    | box => exact q2.elim
    | scr ns => exact q2.elim

/-! ### and, or, not, if -/
variable {a b c : Expr} {ta tb tc : TD} {tA tB : TDT} {rest : List Expr}
/-- a bool -/
def RV.bl (r : RV) (k : Bool → Prop) : Prop := r.use fun x => match x with | .bool b => k b | _ => False
def tAndD (ta tb : TD) : TD := fun env Q Ex => ta env (fun r => r.bl fun b => if b = true then tb env Q Ex else Q (.d (.bool false))) Ex
def tOrD (ta tb : TD) : TD := fun env Q Ex => ta env (fun r => r.bl fun b => if b = true then Q (.d (.bool true)) else tb env Q Ex) Ex
def tNotD (ta : TD) : TD := fun env Q Ex => ta env (fun r => r.bl fun b => Q (.d (.bool !b))) Ex
def tIteD (tc ta tb : TD) : TD := fun env Q Ex => tc env (fun r => r.bl fun b => if b = true then ta env Q Ex else tb env Q Ex) Ex
theorem RRes.bl {v : V} {r : RV} {k : Bool → Prop} (h : RRes X.K S' H H' v r) (u : r.bl k) : ∃ b, v = .bl b ∧ k b := by
  obtain ⟨x, rx, q2⟩ := h.rq u
  cases x with
  | bool b => exact ⟨b, rx.rr.bool, q2⟩
  | _ => exact q2.elim
theorem pd_and (ha : PD bk X W a ta) (hb : PD bk X W (.BoolOp .And (b :: rest) pos) tb) : PD bk X W (.BoolOp .And (a :: b :: rest) pos) (tAndD ta tb) := PE.imp (pe_and ha hb) fun σ H Q q => by
  obtain ⟨S, env, Hz, Qd, Ex, ok, ab, ex, con, t⟩ := q
  refine ⟨S, env, Hz, _, Ex, ok, ab, ex, fun r v H1 S1 q1 e1 r1 => ?_, t⟩
  obtain ⟨b, e, q2⟩ := r1.bl q1
  refine ⟨b, e, ?_⟩
  cases b with
  | true => exact ⟨S1, env, Hz, Qd, Ex, e1.ok, ab.ext e1, ex.ext ok e1, con.ext ok e1, q2⟩
  | false => exact (con.ext ok e1).data e1.ok q2 (.bl false)
theorem pd_or (ha : PD bk X W a ta) (hb : PD bk X W (.BoolOp .Or (b :: rest) pos) tb) : PD bk X W (.BoolOp .Or (a :: b :: rest) pos) (tOrD ta tb) := PE.imp (pe_or ha hb) fun σ H Q q => by
  obtain ⟨S, env, Hz, Qd, Ex, ok, ab, ex, con, t⟩ := q
  refine ⟨S, env, Hz, _, Ex, ok, ab, ex, fun r v H1 S1 q1 e1 r1 => ?_, t⟩
  obtain ⟨b, e, q2⟩ := r1.bl q1
  refine ⟨b, e, ?_⟩
  cases b with
  | false => exact ⟨S1, env, Hz, Qd, Ex, e1.ok, ab.ext e1, ex.ext ok e1, con.ext ok e1, q2⟩
  | true => exact (con.ext ok e1).data e1.ok q2 (.bl true)
theorem pd_one {op} (h : PD bk X W a ta) : PD bk X W (.BoolOp op [a] pos) ta := pe_one h
theorem pd_not (ha : PD bk X W a ta) : PD bk X W (.UnaryOp .Not a pos) (tNotD ta) := PE.imp (pe_not ha) fun σ H Q q => by
  obtain ⟨S, env, Hz, Qd, Ex, ok, ab, ex, con, t⟩ := q
  refine ⟨S, env, Hz, _, Ex, ok, ab, ex, fun r v H1 S1 q1 e1 r1 => ?_, t⟩
  obtain ⟨b, e, q2⟩ := r1.bl q1
  exact ⟨b, e, (con.ext ok e1).data e1.ok q2 (.bl _)⟩
/-- as tests -/
def PWD (bk : BoxKind) (X : Cx) (W : WX) (e : Expr) (t : TDT) : Prop := PW X e (liftT bk X W t)
theorem PW.imp {e : Expr} {t t' : TT} (h : PW X e t) (i : ∀ σ H Q, t' σ H Q → t σ H Q) : PW X e t' := ⟨fun wh pins s σ H Q I q => h.run wh pins s σ H Q I (i σ H Q q)⟩
theorem pdt_and1 (ha : PDT bk X W a tA) : PWD bk X W (.BoolOp .And [a] pos) tA := pw_and1 ha
theorem pdt_or1 (ha : PDT bk X W a tA) : PWD bk X W (.BoolOp .Or [a] pos) tA := pw_or1 ha
theorem pdt_and (ha : PDT bk X W a (tTst ta)) (hb : PWD bk X W (.BoolOp .And (b :: rest) pos) (tTst tb)) : PWD bk X W (.BoolOp .And (a :: b :: rest) pos) (tTst (tAndD ta tb)) := PW.imp (pw_and ha hb) fun σ H Q q => by
  obtain ⟨S, env, Hz, Qd, Ex, ok, ab, ex, con, t⟩ := q
  refine ⟨S, env, Hz, _, Ex, ok, ab, ex, fun c H1 S1 q1 e1 => ?_, t⟩
  cases c with
  | true => exact ⟨S1, env, Hz, Qd, Ex, e1.ok, ab.ext e1, ex.ext ok e1, fun b H2 S2 h1 h2 => con b H2 S2 h1 (Ext.trans ok e1 h2), q1⟩
  | false => exact con false H1 S1 q1 e1
theorem pdt_or (ha : PDT bk X W a (tTst ta)) (hb : PWD bk X W (.BoolOp .Or (b :: rest) pos) (tTst tb)) : PWD bk X W (.BoolOp .Or (a :: b :: rest) pos) (tTst (tOrD ta tb)) := PW.imp (pw_or ha hb) fun σ H Q q => by
  obtain ⟨S, env, Hz, Qd, Ex, ok, ab, ex, con, t⟩ := q
  refine ⟨S, env, Hz, _, Ex, ok, ab, ex, fun c H1 S1 q1 e1 => ?_, t⟩
  cases c with
  | false => exact ⟨S1, env, Hz, Qd, Ex, e1.ok, ab.ext e1, ex.ext ok e1, fun b H2 S2 h1 h2 => con b H2 S2 h1 (Ext.trans ok e1 h2), q1⟩
  | true => exact con true H1 S1 q1 e1
theorem pdt_not (ha : PDT bk X W a (tTst ta)) : PDT bk X W (.UnaryOp .Not a pos) (tTst (tNotD ta)) := PT.imp (pt_not ha) fun σ H Q q => by
  obtain ⟨S, env, Hz, Qd, Ex, ok, ab, ex, con, t⟩ := q
  exact ⟨S, env, Hz, _, Ex, ok, ab, ex, fun c H1 S1 q1 e1 => con (!c) H1 S1 q1 e1, t⟩
theorem pd_ite (hc : PDT bk X W c (tTst tc)) (ha : PD bk X W a ta) (hb : PD bk X W b tb) : PD bk X W (.IfExp c a b pos) (tIteD tc ta tb) := PE.imp (pe_ifExp hc ha hb) fun σ H Q q => by
  obtain ⟨S, env, Hz, Qd, Ex, ok, ab, ex, con, t⟩ := q
  refine ⟨S, env, Hz, _, Ex, ok, ab, ex, fun c H1 S1 q1 e1 => ?_, t⟩
  cases c with
  | true => exact ⟨S1, env, Hz, Qd, Ex, e1.ok, ab.ext e1, ex.ext ok e1, con.ext ok e1, q1⟩
  | false => exact ⟨S1, env, Hz, Qd, Ex, e1.ok, ab.ext e1, ex.ext ok e1, con.ext ok e1, q1⟩
/-- a < b < c -/
def tChainD (g g' : GD) (ta tb tc : TD) : TD := fun env Q Ex => ta env (fun r => r.use fun x => tb env (fun r' => r'.use fun y => g x y fun r2 => r2.bl fun k => if k = true then tc env (fun r3 => r3.use fun z => g' y z Q) Ex else Q (.d (.bool false))) Ex) Ex
theorem chain_data {op op' : CmpOp} {g g' : GD} {σ : Sg} {H : Hp} {Q : VK} (q : liftE bk X W (tChainD g g' ta tb tc) σ H Q) :
    tChain (fun x y H Q => ∃ S dx dy Qd, AOk bk S H ∧ Rq X.K S H x dx ∧ Rq X.K S H y dy ∧ Con bk X S H Q Qd ∧ g dx dy Qd) (fun x y H Q => ∃ S dx dy Qd, AOk bk S H ∧ Rq X.K S H x dx ∧ Rq X.K S H y dy ∧ Con bk X S H Q Qd ∧ g' dx dy Qd)
      (liftE bk X W ta) (liftE bk X W tb) (liftE bk X W tc) σ H Q := by
  obtain ⟨S, env, Hz, Qd, Ex, ok, ab, ex, con, t⟩ := q
  refine ⟨S, env, Hz, _, Ex, ok, ab, ex, fun r v H1 S1 q1 e1 r1 => ?_, t⟩
  obtain ⟨x, rx, q2⟩ := r1.rq q1
  refine ⟨S1, env, Hz, _, Ex, e1.ok, ab.ext e1, ex.ext ok e1, fun r' v' H2 S2 q3 e2 r2 => ?_, q2⟩
  obtain ⟨y, ry, q4⟩ := r2.rq q3
  have e12 := Ext.trans ok e1 e2
  refine ⟨S2, x, y, _, e2.ok, rx.ext e2, ry, fun r3 v3 H3 S3 q5 e3 r3' => ?_, q4⟩
  obtain ⟨k, ek, q6⟩ := r3'.bl q5
  refine ⟨k, ek, ?_⟩
  have e13 := Ext.trans ok e12 e3
  cases k with
  | true =>
    rw [if_pos rfl]
    refine ⟨S3, env, Hz, _, Ex, e3.ok, ab.ext e13, ex.ext ok e13, fun r4 v4 H4 S4 q7 e4 r4' => ?_, q6⟩
    obtain ⟨z, rz, q8⟩ := r4'.rq q7
    exact ⟨S4, y, z, Qd, e4.ok, (ry.ext e3).ext e4, rz, con.ext ok (Ext.trans ok e13 e4), q8⟩
  | false =>
    rw [if_neg Bool.false_ne_true]
    exact (con.ext ok e13).data e3.ok q6 (.bl false)
theorem pd_chain {op op' : CmpOp} {g g' : GD} (ho : OpD bk X (compareOp op) g) (ho' : OpD bk X (compareOp op') g') (ha : PD bk X W a ta) (hb : PD bk X W b tb) (hc : PD bk X W c tc) (hm : lastMarks [op, op'] [b, c] = false) :
    PD bk X W (.Compare a [op, op'] [b, c] pos) (tChainD g g' ta tb tc) := PE.imp (pe_chain ho ho' ha hb hc hm) fun _ _ _ q => chain_data (op := op) (op' := op') q
theorem pdt_chain {op op' : CmpOp} {g g' : GD} (ho : OpD bk X (compareOp op) g) (ho' : OpD bk X (compareOp op') g') (ha : PD bk X W a ta) (hb : PD bk X W b tb) (hc : PD bk X W c tc) (hm : lastMarks [op, op'] [b, c] = false) :
    PDT bk X W (.Compare a [op, op'] [b, c] pos) (tTst (tChainD g g' ta tb tc)) := PT.imp (pt_chain ho ho' ha hb hc hm) fun _ _ _ q => by
  obtain ⟨S, env, Hz, Qd, Ex, h⟩ := lift_tst q
  exact chain_data (op := op) (op' := op') ⟨S, env, Hz, Qd, Ex, h⟩
end
end HA

namespace HA
open PySem PySem.Spec PyProof.Rows L2

/-! ### arguments that are only read -/
abbrev TDU := En → (List PyData → Prop) → (Err → Prop) → Prop
def tNilU : TDU := fun _ Q _ => Q []
def tConsU (ta : TD) (tr : TDU) : TDU := fun env Q Ex => ta env (fun r => r.use fun x => tr env (fun xs => Q (x :: xs)) Ex) Ex
section
variable (bk : BoxKind) (X : Cx) (W : WX)
def liftU (t : TDU) : TA := fun σ H Q => ∃ S env Hz Qd Ex, AOk bk S H ∧ Abs X.K S Hz H σ env ∧ ExOk bk X W S σ H Ex ∧ (∀ xs vs H' S', Qd xs → Ext bk S S' H H' → Paired (Rq X.K S' H') vs xs → Q vs H') ∧ t env Qd Ex
def PDU (es : List Expr) (t : TDU) : Prop := PA X es (liftU bk X W t)
abbrev GB := List PyData → (RV → Prop) → Prop
def CallD (f : Value) (g : GB) : Prop := CallR X f fun vs H Q => ∃ S xs Qd, AOk bk S H ∧ Paired (Rq X.K S H) vs xs ∧ Con bk X S H Q Qd ∧ g xs Qd
end
def tCallB (g : GB) (t : TDU) : TD := fun env Q Ex => t env (fun xs => g xs Q) Ex
section
variable {bk : BoxKind} {X : Cx} {W : WX} {S S' : AS} {σ : Sg} {H H' Hz : Hp} {env : En} {pos : Pos} {e : Expr} {es : List Expr} {t : TD} {tr : TDU} {g : GB}
theorem pdu_nil : PDU bk X W [] tNilU := PA.imp pa_nil fun _ _ _ q => by
  obtain ⟨S, env, Hz, Qd, Ex, ok, ab, ex, con, t⟩ := q
  exact con [] [] _ _ t (Ext.refl ok) .nil
theorem pdu_cons (ha : PD bk X W e t) (hr : PDU bk X W es tr) (hs : starEach (e :: es) X.env = (false, eval e X.env) :: starEach es X.env) : PDU bk X W (e :: es) (tConsU t tr) := PA.imp (pa_cons ha hr hs) fun σ H Q q => by
  obtain ⟨S, env, Hz, Qd, Ex, ok, ab, ex, con, t⟩ := q
  refine ⟨S, env, Hz, _, Ex, ok, ab, ex, fun r v H1 S1 q1 e1 r1 => ?_, t⟩
  obtain ⟨x, rx, q2⟩ := r1.rq q1
  refine ⟨S1, env, Hz, _, Ex, e1.ok, ab.ext e1, ex.ext ok e1, fun xs vs H2 S2 q3 e2 r2 => ?_, q2⟩
  exact con _ _ _ _ q3 (Ext.trans ok e1 e2) (.cons (rx.ext e2) r2)
theorem lift_callB {σ : Sg} {H : Hp} {Q : VK} (q : liftE bk X W (tCallB g tr) σ H Q) : liftU bk X W tr σ H fun vs H1 => ∃ S xs Qd, AOk bk S H1 ∧ Paired (Rq X.K S H1) vs xs ∧ Con bk X S H1 Q Qd ∧ g xs Qd := by
  obtain ⟨S, env, Hz, Qd, Ex, ok, ab, ex, con, t⟩ := q
  exact ⟨S, env, Hz, _, Ex, ok, ab, ex, fun xs vs H1 S1 q1 e1 r1 => ⟨S1, xs, Qd, e1.ok, r1, con.ext ok e1, q1⟩, t⟩
variable {x : Str} {p : Pos} {id T : String}
theorem pd_callB (hc : CallD bk X (.builtin id) g) (hg : Gl X x) (hm : X.mg x = none) (hv : bootBuiltins x = some (.builtin id)) (ha : PDU bk X W (e :: es) tr) (hn : x ≠ "__name__") (hdb : (x == ("__debug__" : Str)) = false)
    (he : starEach (e :: es) X.env = (false, eval e X.env) :: starEach es X.env) (hpl : (backTo pos (starEach es X.env)).any (·.1) = false) : PD bk X W (.Call (.Name x p) (e :: es) [] pos) (tCallB g tr) :=
  PE.imp (pe_callB hc hg hm hv ha hn hdb he hpl) fun _ _ _ q => lift_callB q
theorem pd_callTy (hc : CallD bk X (.type T) g) (hg : Gl X x) (hm : X.mg x = none) (hv : bootBuiltins x = some (.type T)) (ha : PDU bk X W (e :: es) tr) (hn : x ≠ "__name__") (hdb : (x == ("__debug__" : Str)) = false)
    (he : starEach (e :: es) X.env = (false, eval e X.env) :: starEach es X.env) (hpl : (backTo pos (starEach es X.env)).any (·.1) = false) : PD bk X W (.Call (.Name x p) (e :: es) [] pos) (tCallB g tr) :=
  PE.imp (pe_callTy hc hg hm hv ha hn hdb he hpl) fun _ _ _ q => lift_callB q
theorem pd_callImp (hc : CallD bk X (.builtin id) g) (hg : Gl X x) (hm : X.mg x = some (.builtin id)) (ha : PDU bk X W (e :: es) tr) (hdb : (x == ("__debug__" : Str)) = false)
    (he : starEach (e :: es) X.env = (false, eval e X.env) :: starEach es X.env) (hpl : (backTo pos (starEach es X.env)).any (·.1) = false) : PD bk X W (.Call (.Name x p) (e :: es) [] pos) (tCallB g tr) :=
  PE.imp (pe_callBfun hc hg hm ha hdb he hpl) fun _ _ _ q => lift_callB q
end

/-! ### the built-ins -/
def gLen : GB
  | [.list xs], Q => Q (.d (.int xs.length))
  | [.tuple xs], Q => Q (.d (.int xs.length))
  | [.dict xs], Q => Q (.d (.int xs.length))
  | [.str x], Q => x.length ≤ sizeLine ∧ Q (.d (.int x.length))
  | _, _ => False
def gInt : GB
  | [.int i], Q => Q (.d (.int i))
  | [.bool b], Q => Q (.d (.int (if b then 1 else 0)))
  | [.str x], Q => x.length ≤ 640 ∧ ∃ n, PySem.intText? x = some n ∧ Q (.d (.int n))
  | _, _ => False
def gAbs : GB
  | [.int i], Q => Q (.d (.int (if i < 0 then -i else i)))
  | _, _ => False
def gGcd : GB
  | [.int i, .int j], Q => Q (.d (.int (Nat.gcd i.natAbs j.natAbs : Nat)))
  | _, _ => False
/-- what repr can show -/
def showOk (x : PyData) : Prop := x.showable = true ∧ x.depth ≤ 60 ∧ x.shown.length ≤ sizeLine
def gRepr : GB
  | [x], Q => showOk x ∧ Q (.d (.str x.shown))
  | _, _ => False
def gList : GB
  | [.list xs], Q => Q (.own (.lst xs))
  | [.tuple xs], Q => Q (.own (.lst xs))
  | _, _ => False
def gTuple : GB
  | [.list xs], Q => Q (.d (.tuple xs))
  | [.tuple xs], Q => Q (.d (.tuple xs))
  | _, _ => False
section
variable {bk : BoxKind} {X : Cx} {S : AS} {H : Hp}
theorem paired1 {α β : Type} {R : α → β → Prop} {vs : List α} {y : β} (h : Paired R vs [y]) : ∃ v, vs = [v] ∧ R v y := by
  cases h with
  | cons h1 h2 => cases h2; exact ⟨_, rfl, h1⟩
theorem paired2 {α β : Type} {R : α → β → Prop} {vs : List α} {y z : β} (h : Paired R vs [y, z]) : ∃ v w, vs = [v, w] ∧ R v y ∧ R w z := by
  cases h with
  | cons h1 h2 => obtain ⟨w, rfl, h3⟩ := paired1 h2; exact ⟨_, w, rfl, h1, h3⟩
theorem RpKv.length {K : PySem.W.Frag} {F : Hp} : ∀ {ds : List (PyData × PyData)} {vs : List (Key × V)}, RpKv K F vs ds → vs.length = ds.length
  | [], _, h => by cases h; rfl
  | _ :: _, _, h => by
    cases h with
    | cons h1 h2 => simp [RpKv.length h2]
theorem cd_len : CallD bk X (.builtin "len") gLen := by
  intro pins s σ H vs us Q I r h
  obtain ⟨S, xs, Qd, ok, rx, con, g⟩ := h
  unfold gLen at g
  split at g
  · obtain ⟨v, rfl, h1⟩ := paired1 rx
    obtain ⟨a, ws, rfl, ha, ra⟩ := h1.list ok
    exact call_len pins s σ H _ us Q I r ⟨_, _, rfl, .inl ⟨ws, ha, rfl⟩, by rw [ra.length]; exact con.data ok g (.int _)⟩
  · obtain ⟨v, rfl, h1⟩ := paired1 rx
    obtain ⟨a, ws, rfl, ha, ra⟩ := h1.tuple
    exact call_len pins s σ H _ us Q I r ⟨_, _, rfl, .inr ⟨ws, sqT_mono ok.sub ha, rfl⟩, by rw [ra.length]; exact con.data ok g (.int _)⟩
  · obtain ⟨v, rfl, h1⟩ := paired1 rx
    obtain ⟨a, ws, rfl, ha, ra⟩ := h1.rr.dict ok.sub
    exact call_lenD pins s σ H _ us Q I r ⟨_, _, rfl, ha, by rw [ra.length]; exact con.data ok g (.int _)⟩
  · obtain ⟨v, rfl, h1⟩ := paired1 rx
    have := h1.rr.str
    subst this
    exact call_len pins s σ H _ us Q I r ⟨_, _, rfl, ⟨g.1, rfl⟩, con.data ok g.2 (.int _)⟩
  · exact g.elim
theorem cd_int : CallD bk X (.type "int") gInt := by
  intro pins s σ H vs us Q I r h
  obtain ⟨S, xs, Qd, ok, rx, con, g⟩ := h
  unfold gInt at g
  split at g
  · obtain ⟨v, rfl, h1⟩ := paired1 rx
    have := h1.rr.int
    subst this
    exact call_int1 pins s σ H _ us Q I r (.inl ⟨_, rfl, con.data ok g (.int _)⟩)
  · obtain ⟨v, rfl, h1⟩ := paired1 rx
    have := h1.rr.bool
    subst this
    exact call_int1 pins s σ H _ us Q I r (.inr ⟨_, rfl, con.data ok g (.int _)⟩)
  · obtain ⟨v, rfl, h1⟩ := paired1 rx
    have := h1.rr.str
    subst this
    obtain ⟨z, n, hn, g⟩ := g
    exact call_int_str pins s σ H _ us Q I r ⟨_, n, rfl, hn, z, con.data ok g (.int _)⟩
  · exact g.elim
theorem cd_abs : CallD bk X (.builtin "abs") gAbs := by
  intro pins s σ H vs us Q I r h
  obtain ⟨S, xs, Qd, ok, rx, con, g⟩ := h
  unfold gAbs at g
  split at g
  · obtain ⟨v, rfl, h1⟩ := paired1 rx
    have := h1.rr.int
    subst this
    exact call_abs pins s σ H _ us Q I r ⟨_, rfl, con.data ok g (.int _)⟩
  · exact g.elim
theorem cd_gcd : CallD bk X (.builtin "math.gcd") gGcd := by
  intro pins s σ H vs us Q I r h
  obtain ⟨S, xs, Qd, ok, rx, con, g⟩ := h
  have g' : ∃ i j, xs = [.int i, .int j] ∧ Qd (.d (.int (Nat.gcd i.natAbs j.natAbs : Nat))) := by
    unfold gGcd at g
    split at g
    · exact ⟨_, _, rfl, g⟩
    · exact g.elim
  obtain ⟨i, j, rfl, g⟩ := g'
  obtain ⟨v, w, rfl, h1, h2⟩ := paired2 rx
  have e1 := h1.rr.int
  have e2 := h2.rr.int
  subst e1 e2
  exact cr_gcd pins s σ H _ us Q I r ⟨i, j, rfl, con.data ok g (.int _)⟩
theorem cd_repr (hs : noSys X) (hr : ∃ k, Room k X.A) (hgd : X.A.guards = some []) : CallD bk X (.builtin "repr") gRepr := by
  intro pins s σ H vs us Q I r h
  obtain ⟨S, xs, Qd, ok, rx, con, g⟩ := h
  obtain ⟨k, hr⟩ := hr
  match xs, rx, g with
  | [x], rx, ⟨⟨g1, g2, g3⟩, g⟩ =>
    obtain ⟨v, rfl, h1⟩ := paired1 rx
    obtain ⟨u, rfl, ru⟩ : ∃ u, us = [u] ∧ RelV v u := by
      cases r with
      | cons r1 r2 => cases r2; exact ⟨_, rfl, r1⟩
    obtain ⟨as, rd, ns⟩ := h1.reads ok I hs ru
    have fin : ∀ h' (tk tk2 : Tok), (∀ b o, s.heap.get? b = some o → h'.get? b = some o) → EP X pins σ Q (.str x.shown tk) { s with heap := h', toks := tk2 } := fun h' tk tk2 k => ⟨.str x.shown, H, I.kept k, ⟨_, rfl⟩, con.data ok g (.str _)⟩
    cases x with
    | none => cases rd; exact PySem.P.repr_of_none (fin _ _ _ fun _ _ e => e)
    | bool b => cases rd; exact PySem.P.repr_of_bool (fin _ _ _ fun _ _ e => e)
    | int i =>
      cases rd
      exact PySem.P.repr_of_int (by simpa [PyData.showable] using g1) (fin _ _ _ fun _ _ e => e)
    | str z =>
      cases rd
      exact PySem.P.repr_of_str (fin _ _ _ fun _ _ e => e) g3
    | list ys =>
      obtain ⟨a, ws, e, hl, ha⟩ := h1.list ok
      subst e
      cases (show u = Value.ref a from ru)
      have := hr.units
      obtain ⟨T, idr, S2⟩ := shows_list I hl (ha.mono ok.sub) g1 g3
      exact call_repr_slot (by omega) (S2.typeIs s fun _ _ e => e) S2.slotRepr (S2.call X.A.in1 _ s _ hgd (by show X.A.units + 1 + _ < cLine; omega) (fun _ _ e => e) fun h' u tk k => ⟨_, _, rfl, fin h' u tk k⟩)
    | tuple ys =>
      obtain ⟨a, ws, e, hl, ha⟩ := h1.tuple
      subst e
      cases (show u = Value.ref a from ru)
      have := hr.units
      obtain ⟨T, idr, S2⟩ := shows_tup I (sqT_mono ok.sub hl) (ha.mono ok.sub) g1 g3
      exact call_repr_slot (by omega) (S2.typeIs s fun _ _ e => e) S2.slotRepr (S2.call X.A.in1 _ s _ hgd (by show X.A.units + 1 + _ < cLine; omega) (fun _ _ e => e) fun h' u tk k => ⟨_, _, rfl, fin h' u tk k⟩)
    | dict ys =>
      obtain ⟨a, ws, e, hl, ha⟩ := h1.rr.dict ok.sub
      subst e
      cases (show u = Value.ref a from ru)
      have := hr.units
      obtain ⟨T, idr, S2⟩ := shows_dic I hl (ha.mono ok.sub) g1 g3
      exact call_repr_slot (by omega) (S2.typeIs s fun _ _ e => e) S2.slotRepr (S2.call X.A.in1 _ s _ hgd (by show X.A.units + 1 + _ < cLine; omega) (fun _ _ e => e) fun h' u tk k => ⟨_, _, rfl, fin h' u tk k⟩)
  | [], _, g => exact g.elim
  | _ :: _ :: _, _, g => exact g.elim
theorem cd_list : CallD bk X (.type "list") gList := by
  intro pins s σ H vs us Q I r h
  obtain ⟨S, xs, Qd, ok, rx, con, g⟩ := h
  have g' : ∃ ys, (xs = [.list ys] ∨ xs = [.tuple ys]) ∧ Qd (.own (.lst ys)) := by
    unfold gList at g
    split at g
    · exact ⟨_, .inl rfl, g⟩
    · exact ⟨_, .inr rfl, g⟩
    · exact g.elim
  obtain ⟨ys, rfl | rfl, g⟩ := g'
  · obtain ⟨v, rfl, h1⟩ := paired1 rx
    obtain ⟨a, ws, rfl, ha, ra⟩ := h1.list ok
    exact call_list_of pins s σ H _ us Q I r ⟨a, ws, rfl, .inl (ha), fun p hp => con.lst ok g ra p hp⟩
  · obtain ⟨v, rfl, h1⟩ := paired1 rx
    obtain ⟨a, ws, rfl, ha, ra⟩ := h1.tuple
    exact call_list_of pins s σ H _ us Q I r ⟨a, ws, rfl, .inr (sqT_mono ok.sub ha), fun p hp => con.lst ok g ra p hp⟩
theorem cd_tuple : CallD bk X (.type "tuple") gTuple := by
  intro pins s σ H vs us Q I r h
  obtain ⟨S, xs, Qd, ok, rx, con, g⟩ := h
  have g' : ∃ ys, (xs = [.list ys] ∨ xs = [.tuple ys]) ∧ Qd (.d (.tuple ys)) := by
    unfold gTuple at g
    split at g
    · exact ⟨_, .inl rfl, g⟩
    · exact ⟨_, .inr rfl, g⟩
    · exact g.elim
  obtain ⟨ys, rfl | rfl, g⟩ := g'
  · obtain ⟨v, rfl, h1⟩ := paired1 rx
    obtain ⟨a, ws, rfl, ha, ra⟩ := h1.list ok
    exact call_tuple_of pins s σ H _ us Q I r ⟨a, ws, rfl, .inl ⟨ha, fun p hp => con.tup ok g ra p hp⟩⟩
  · obtain ⟨v, rfl, h1⟩ := paired1 rx
    obtain ⟨a, ws, rfl, ha, ra⟩ := h1.tuple
    exact call_tuple_of pins s σ H _ us Q I r ⟨a, ws, rfl, .inr ⟨sqT_mono ok.sub ha, con.data ok g (.tup ha ra)⟩⟩
end

/-! ### isinstance -/
inductive Ty where
  | int | bool | str | tuple | list | dict
  deriving DecidableEq
def Ty.nm : Ty → String
  | .int => "int" | .bool => "bool" | .str => "str" | .tuple => "tuple" | .list => "list" | .dict => "dict"
def tyOf : PyData → String
  | .none => "NoneType" | .bool _ => "bool" | .int _ => "int" | .str _ => "str" | .list _ => "list" | .tuple _ => "tuple" | .dict _ => "dict"
def isa : Ty → PyData → Bool
  | .int, .int _ => true
  | .int, .bool _ => true
  | .bool, .bool _ => true
  | .str, .str _ => true
  | .tuple, .tuple _ => true
  | .list, .list _ => true
  | .dict, .dict _ => true
  | _, _ => false
theorem kit_isa (T : Ty) (x : PyData) : kitB (tyOf x) T.nm = some (isa T x) := by
  cases T <;> cases x <;> (simp only [tyOf, Ty.nm, isa]; decide +kernel)
def tIsa (T : Ty) (t : TD) : TD := fun env Q Ex => t env (fun r => r.use fun x => Q (.d (.bool (isa T x)))) Ex
section
variable {bk : BoxKind} {X : Cx} {W : WX} {S : AS} {H : Hp} {pos p p2 : Pos} {e : Expr} {t : TD}
theorem sqT_ty {a : Addr} {xs : List V} {K : PySem.W.Frag} (h : SqT K H a xs) : TyX K H (.ref a) (.type "tuple") := by
  rcases h with (h | ⟨o, h⟩) | ⟨o, its, n, h1, h2, _⟩
  · exact .base (.tup h)
  · exact .fTuple h
  · exact .kTuple h1 h2
theorem sqL_ty {a : Addr} {xs : List V} {K : PySem.W.Frag} (h : SqL K H a xs) : TyX K H (.ref a) (.type "list") := by
  rcases h with (h | ⟨o, h⟩) | ⟨o, its, n, h1, h2, _⟩
  · exact .base (.lst h)
  · exact .base (.frz h)
  · exact .kList h1 h2
theorem Rq.ty {v : V} {x : PyData} {K : PySem.W.Frag} (h : Rq K S H v x) (ok : AOk bk S H) : TyX K H v (.type (tyOf x)) := by
  cases x with
  | none => rw [h.rr.none]; exact .base .non
  | bool b => rw [h.rr.bool]; exact .base (.bl b)
  | int i => rw [h.rr.int]; exact .base (.int i)
  | str z => rw [h.rr.str]; exact .base (.str z)
  | list ys => obtain ⟨a, ws, rfl, ha, _⟩ := h.list ok; exact sqL_ty ha
  | tuple ys => obtain ⟨a, ws, rfl, ha, _⟩ := h.tuple; exact sqT_ty (sqT_mono ok.sub ha)
  | dict ys => obtain ⟨a, ws, rfl, ha, _⟩ := h.rr.dict ok.sub; exact .base (.dK ha)
theorem pd_isa (T : Ty) {x : Str} (hx : x = "isinstance") {y : Str} (hy : y = Str.ofString T.nm) (hg : Gl X x) (hm : X.mg x = none) (hg2 : Gl X y) (hm2 : X.mg y = none) (h : PD bk X W e t)
    (he : starEach [e, .Name y p2] X.env = (false, eval e X.env) :: starEach [.Name y p2] X.env) : PD bk X W (.Call (.Name x p) [e, .Name y p2] [] pos) (tIsa T t) := by
  have bx : bootBuiltins x = some (.builtin "isinstance") := by rw [hx]; decide +kernel
  have by' : bootBuiltins y = some (.type T.nm) := by rw [hy]; cases T <;> decide +kernel
  have n1 : x ≠ "__name__" := by rw [hx]; decide
  have n2 : y ≠ "__name__" := by rw [hy]; cases T <;> decide
  have d1 : (x == ("__debug__" : Str)) = false := by rw [hx]; decide
  have d2 : (y == ("__debug__" : Str)) = false := by rw [hy]; cases T <;> decide
  refine PE.imp (pe_callB call_isi hg hm bx (pa_cons h (pa_cons (pe_bltn (v := .ty T.nm) hg2 hm2 by' rfl n2 d2) pa_nil rfl) he) n1 d1 he rfl) fun σ H Q q => ?_
  obtain ⟨S, env, Hz, Qd, Ex, ok, ab, ex, con, t⟩ := q
  refine ⟨S, env, Hz, _, Ex, ok, ab, ex, fun r v H1 S1 q1 e1 r1 => ?_, t⟩
  obtain ⟨x, rx, q2⟩ := r1.rq q1
  exact ⟨v, .ty T.nm, _, _, isa T x, rfl, .ty _, rx.ty e1.ok, kit_ty (kit_isa T x), (con.ext ok e1).data e1.ok q2 (.bl _)⟩
end

/-! ### items and slices -/
def gIx0 : GD
  | .list xs, .int i, Q => ∃ x, atI xs i = some x ∧ Q (.d x)
  | .tuple xs, .int i, Q => ∃ x, atI xs i = some x ∧ Q (.d x)
  | .str z, .int i, Q => z.length ≤ sizeLine ∧ ∃ c, atI z.cps.toList i = some c ∧ Q (.d (.str ⟨#[c]⟩))
  | _, _, _ => False
theorem RpAll.atI {K : PySem.W.Frag} {F : Hp} {vs : List V} {xs : List PyData} (h : RpAll K F vs xs) {i : Int} {x : PyData} (e : L2.atI xs i = some x) : ∃ v, L2.atI vs i = some v ∧ Rp K F v x := by
  unfold L2.atI at e ⊢
  rw [h.length]
  cases q : ixN xs.length i with
  | none => rw [q] at e; cases e
  | some j => rw [q] at e; exact h.getD e
def IxD (bk : BoxKind) (X : Cx) (g : GD) : Prop := IxR X fun x y H Q => ∃ S dx dy Qd, AOk bk S H ∧ Rq X.K S H x dx ∧ Rq X.K S H y dy ∧ Con bk X S H Q Qd ∧ g dx dy Qd
section
variable {bk : BoxKind} {X : Cx} {W : WX} {pos : Pos} {a b : Expr} {ta tb : TD}
theorem ix_data : IxD bk X gIx0 := by
  intro value slice pins s σ H x y v u Q I rx ry h hsub
  obtain ⟨S, dx, dy, Qd, ok, hx, hy, con, g⟩ := h
  unfold gIx0 at g
  split at g
  · obtain ⟨z, hz, g⟩ := g
    obtain ⟨a, ws, rfl, ha, ra⟩ := hx.list ok
    obtain ⟨w, hw, rw'⟩ := ra.atI hz
    exact ix_list value slice pins s σ H _ y v u Q I rx ry ⟨a, ws, _, w, rfl, hy.rr.int, ha, hw, con.data ok g rw'⟩ hsub
  · obtain ⟨z, hz, g⟩ := g
    obtain ⟨a, ws, rfl, ha, ra⟩ := hx.tuple
    obtain ⟨w, hw, rw'⟩ := ra.atI hz
    exact ix_tup value slice pins s σ H _ y v u Q I rx ry ⟨a, ws, _, w, rfl, hy.rr.int, sqT_mono ok.sub ha, hw, con.data ok g rw'⟩ hsub
  · obtain ⟨z, c, hc, g⟩ := g
    exact ix_str value slice pins s σ H x y v u Q I rx ry ⟨_, _, c, hx.rr.str, hy.rr.int, z, hc, con.data ok g (.str _)⟩ hsub
  · exact g.elim
theorem pd_ix (ha : PD bk X W a ta) (hb : PD bk X W b tb) (hs : PlainIx b) : PD bk X W (.Subscript a b pos) (tBinD gIx0 ta tb) :=
  PE.imp (pe_ix ix_data ha hb hs) fun _ _ _ h => two_data h
end
/-- x[lo:hi] of a list of anything -/
def cutD {α : Type} (xs : List α) (lo hi : Option Int) : List α := (xs.drop (HT.sIx xs.length 0 lo)).take (HT.sIx xs.length xs.length hi - HT.sIx xs.length 0 lo)
theorem RpAll.cut {K : PySem.W.Frag} {F : Hp} {vs : List V} {xs : List PyData} (h : RpAll K F vs xs) (lo hi : Option Int) : RpAll K F (cutV vs lo hi) (cutD xs lo hi) := by
  unfold cutV cutD
  rw [h.length]
  exact (h.drop _).take _
def gSl : PyData → Option Int → Option Int → (RV → Prop) → Prop
  | .list xs, lo, hi, Q => Q (.own (.lst (cutD xs lo hi)))
  | .tuple xs, lo, hi, Q => Q (.d (.tuple (cutD xs lo hi)))
  | .str z, lo, hi, Q => z.length ≤ sizeLine ∧ Q (.d (.str (cutS z lo hi)))
  | _, _, _, _ => False
/-- a part of a slice -/
abbrev TDO := En → (Option Int → Prop) → (Err → Prop) → Prop
def tNoO : TDO := fun _ Q _ => Q none
def tSomeO (t : TD) : TDO := fun env Q Ex => t env (fun r => r.use fun x => match x with | .int i => Q (some i) | _ => False) Ex
def liftO (bk : BoxKind) (X : Cx) (W : WX) (t : TDO) : TO := fun σ H Q => ∃ S env Hz Qd Ex, AOk bk S H ∧ Abs X.K S Hz H σ env ∧ ExOk bk X W S σ H Ex ∧ (∀ o H' S', Qd o → Ext bk S S' H H' → Q o H') ∧ t env Qd Ex
def PDO (bk : BoxKind) (X : Cx) (W : WX) (e : Option Expr) (t : TDO) : Prop := PO X e (liftO bk X W t)
def tSlD (t : TD) (tl th : TDO) : TD := fun env Q Ex => t env (fun r => r.use fun x => tl env (fun l => th env (fun u => gSl x l u Q) Ex) Ex) Ex
section
variable {bk : BoxKind} {X : Cx} {W : WX} {pos p2 : Pos} {e : Expr} {lo hi : Option Expr} {t : TD} {tl th : TDO}
theorem PO.imp {e : Option Expr} {t t' : TO} (h : PO X e t) (i : ∀ σ H Q, t' σ H Q → t σ H Q) : PO X e t' := ⟨fun pins s σ H Q I q => h.run pins s σ H Q I (i σ H Q q)⟩
theorem pdo_none : PDO bk X W none tNoO := PO.imp po_none fun _ _ _ q => by
  obtain ⟨S, env, Hz, Qd, Ex, ok, ab, ex, con, t⟩ := q
  exact con none _ S t (Ext.refl ok)
theorem pdo_some (h : PD bk X W e t) : PDO bk X W (some e) (tSomeO t) := PO.imp (po_some h) fun _ _ _ q => by
  obtain ⟨S, env, Hz, Qd, Ex, ok, ab, ex, con, t⟩ := q
  refine ⟨S, env, Hz, _, Ex, ok, ab, ex, fun r v H1 S1 q1 e1 r1 => ?_, t⟩
  obtain ⟨x, rx, q2⟩ := r1.rq q1
  cases x with
  | int i => exact ⟨i, rx.rr.int, con _ _ _ q2 e1⟩
  | _ => exact q2.elim
theorem sl_data : SlR X fun x lo hi H Q => ∃ S dx Qd, AOk bk S H ∧ Rq X.K S H x dx ∧ Con bk X S H Q Qd ∧ gSl dx lo hi Qd := by
  intro pins s σ H x v vl vu lo hi sl Q I rx hs pl pu h
  obtain ⟨S, dx, Qd, ok, hx, con, g⟩ := h
  cases dx with
  | list xs =>
    obtain ⟨a, ws, rfl, ha, ra⟩ := hx.list ok
    exact sl_list pins s σ H _ v vl vu _ _ sl Q I rx hs pl pu ⟨a, ws, rfl, ha, fun p hp => con.lst ok g (ra.cut _ _) p hp⟩
  | tuple xs =>
    obtain ⟨a, ws, rfl, ha, ra⟩ := hx.tuple
    refine sl_tupA pins s σ H _ v vl vu _ _ sl Q I rx hs pl pu ⟨a, ws, rfl, sqT_mono ok.sub ha, fun z => ?_, fun _ p hp => con.tup ok g (ra.cut _ _) p hp⟩
    obtain ⟨z1, z2⟩ := z
    have e : cutD xs lo hi = xs := by
      rw [ra.length] at z1 z2
      unfold cutD
      rw [z1, z2, List.drop_zero, Nat.sub_zero, List.take_length]
    have g' : Qd (.d (.tuple (cutD xs lo hi))) := g
    rw [e] at g'
    exact con.data ok g' (.tup ha ra)
  | str z =>
    obtain ⟨z, g⟩ := g
    exact sl_str pins s σ H x v vl vu _ _ sl Q I rx hs pl pu ⟨_, hx.rr.str, z, con.data ok g (.str _)⟩
  | _ => exact g.elim
theorem pd_sl (h : PD bk X W e t) (hl : PDO bk X W lo tl) (hh : PDO bk X W hi th) : PD bk X W (.Subscript e (.Slice lo hi none p2) pos) (tSlD t tl th) := PE.imp (pe_slice sl_data h hl hh) fun σ H Q q => by
  obtain ⟨S, env, Hz, Qd, Ex, ok, ab, ex, con, t⟩ := q
  refine ⟨S, env, Hz, _, Ex, ok, ab, ex, fun r v H1 S1 q1 e1 r1 => ?_, t⟩
  obtain ⟨x, rx, q2⟩ := r1.rq q1
  refine ⟨S1, env, Hz, _, Ex, e1.ok, ab.ext e1, ex.ext ok e1, fun l H2 S2 q3 e2 => ?_, q2⟩
  have e12 := Ext.trans ok e1 e2
  refine ⟨S2, env, Hz, _, Ex, e2.ok, ab.ext e12, ex.ext ok e12, fun u H3 S3 q4 e3 => ?_, q3⟩
  exact ⟨S3, x, Qd, e3.ok, (rx.ext e2).ext e3, con.ext ok (Ext.trans ok e12 e3), q4⟩
end
end HA

namespace HA
open PySem PySem.Spec PyProof.Rows L2

/-! ### a def's promise, where no repr runs around it -/
structure FnG (P : Program) (w : World) (K : PySem.W.Frag) (mg : Str → Option Value) (base : Heap) (k : Nat) (f : Addr) (fd : FuncData) (ps : List Str) (sp : Sp) : Prop where
  len : ∀ vs H Q E, sp vs H Q E → vs.length = ps.length
  run : ∀ (A : Around) (outer : List Env) (s : Shared) (H : Hp) (args : Args) (us : List Value) (vs : List V) (Q : VK) (E : XK), Room k A → A.guards = some [] →
    Env0 P w K mg base A outer s H → BindsTo s fd args (ps.zip us) → Vals vs us → sp vs H Q E → codeAny (model P w) A (.call (.ref f) args) (CR (L2.CX P w) outer P w H s Q E) s
section
variable {P : Program} {w : World} {K : PySem.W.Frag} {mg : Str → Option Value} {base : Heap} {k j : Nat} {f : Addr} {fd : FuncData} {ps : List Str} {sp sp' : Sp}
theorem FnG.mono (F : FnG P w K mg base j f fd ps sp) (h : j ≤ k) : FnG P w K mg base k f fd ps sp := ⟨F.len, fun A outer s H args us vs Q E hr => F.run A outer s H args us vs Q E (hr.mono h)⟩
theorem FnG.imp (F : FnG P w K mg base k f fd ps sp) (h : ∀ vs H Q E, sp' vs H Q E → sp vs H Q E) : FnG P w K mg base k f fd ps sp' :=
  ⟨fun vs H Q E q => F.len vs H Q E (h _ _ _ _ q), fun A outer s H args us vs Q E hr hg he hb hv hs => F.run A outer s H args us vs Q E hr hg he hb hv (h _ _ _ _ hs)⟩
theorem FnG.of (F : FnOk P w K mg base (L2.CX P w) k f fd ps sp) : FnG P w K mg base k f fd ps sp := ⟨F.len, fun A outer s H args us vs Q E hr _ he hb hv hs => F.run A outer s H args us vs Q E hr he hb hv hs⟩
/-- by its body -/
theorem FnG.body {x qual : Str} {st : Stmt} {N : List Str} (F : Fun K x qual st f fd) (S : FnScope N ps (defScope st)) (len : ∀ vs H Q E, sp vs H Q E → vs.length = ps.length)
    (hb : ∀ (cdv : Value) (A : Around) (outer : List Env) (s : Shared) (H : Hp) (vs : List V) (Q : VK) (E : XK), Room k (A.deeper (envOfC qual (defScope st) s.heap.objs.size f cdv)) → A.guards = some [] → sp vs H Q E →
      ∃ t, PSs (cxOf (L2.CX P w) P w K mg base N qual (defScope st) f cdv A outer s H E) (defBody st) t ∧ t { nx := fun _ H' => Q .non H', rt := Q } (start N vs) H) :
    FnG P w K mg base (k + 1) f fd ps sp := by
  obtain ⟨oc, od, kV, doc, pm, an, cdv, ct, osl, rfl, lk, hcd⟩ := F.ex
  refine ⟨len, fun A outer s H args us vs Q E hr hg e0 bnd rv hsp => ?_⟩
  have inK : K.In s.heap := e0.mod.kin.keeps fun b o e => (e0.bs b o e).1
  have nolim : s.heap.NoLimit := e0.mod.nolimit.keeps fun b o e => (e0.bs b o e).1
  refine codeAny_call_function hr.depth (inK _ _ lk) rfl S.co S.gen rfl (PySem.W.codeRec_of inK hcd) (bnd _ _ _ _ (wpAny_newFunctionEnv_cells S.kind (fun ⟨n, v⟩ hy => ?_) fun env he s1 x => ?_))
  · rcases S.par n (List.of_mem_zip hy).1 with q | q
    · exact .inl q
    · exact .inr ⟨q, PySem.W.cellsFrom_some _ _ _ (.inl q)⟩
  · subst he
    refine ⟨nolim.keeps x.toInCall.keep, codeAny_func ?_⟩
    obtain ⟨t, ht, hq⟩ := hb cdv A outer s H vs Q E (hr.deeper _) hg hsp
    refine wpAny_mono (ht.run [] s1 (start N vs) H _ (inv_start S hr.hd e0 (len _ _ _ _ hsp) rv x) hq) (fun fl s' hs => ?_) fun e s' hs => hs
    cases fl with
    | ret u =>
      obtain ⟨v, σ', H', J, r1, q⟩ := hs
      exact ⟨v, H', J.os, J.bare, J.base, J.hok, r1, q⟩
    | next =>
      obtain ⟨σ', H', J, q⟩ := hs
      exact ⟨V.non, H', J.os, J.bare, J.base, J.hok, rfl, q⟩
    | brk => obtain ⟨_, _, _, q⟩ := hs; exact q.elim
    | cont => obtain ⟨_, _, _, q⟩ := hs; exact q.elim
end
section
variable {X : Cx} {k : Nat} {f : Addr} {fd : FuncData} {ps : List Str} {sp : Sp} {E : List (Option V) → XK} {x : Str} {p pos : Pos} {e : Expr} {es : List Expr} {t : TA}
theorem FnG.ends {pins : List (Addr × Obj)} {σ : List (Option V)} {H : Hp} {s s' : Shared} {Q : VK} {r : Result} {EE : XK} (hx : PassesAt (L2.CX X.prog X.w) X σ EE) (I : Inv X pins σ H s) (hq : CR (L2.CX X.prog X.w) X.stack X.prog X.w H s Q EE r s') :
    (match r with | .ok (.ret u) => EP X pins σ Q u s' | .ok _ => False | .error e => X.xe e s') := by
  cases r with
  | error e => exact hx pins H s e s' I hq
  | ok fl =>
    cases fl with
    | ret u => exact I.after hq
    | next => exact False.elim hq
    | brk => exact False.elim hq
    | cont => exact False.elim hq
theorem FnG.call {pins : List (Addr × Obj)} {σ : List (Option V)} {H : Hp} {s : Shared} {Q : VK} {us ws zs : List Value} {ks : List Str} {vs : List V} {EE : XK} (F : FnG X.prog X.w X.K X.mg X.base k f fd ps sp) (hr : Room k X.A) (hg : X.A.guards = some [])
    (hb : BindsTo s fd ⟨us, ks.zip ws⟩ (ps.zip zs)) (hx : PassesAt (L2.CX X.prog X.w) X σ EE) (I : Inv X pins σ H s) (r : Vals vs zs) (h : sp vs H Q EE) : wpAny (model X.prog X.w) X.A (call (.ref f) us (ks.zip ws)) (EP X pins σ Q) X.xe s :=
  wpAny_call (codeAny_mono (F.run X.A X.stack s H ⟨us, ks.zip ws⟩ zs vs Q EE hr hg I.env0 hb r h) fun r s' hq => by
    have z := FnG.ends (r := r) hx I hq
    cases r with
    | error e => exact z
    | ok fl => cases fl <;> exact z)
/-- f(e, ..) -/
theorem pe_fn (F : FnG X.prog X.w X.K X.mg X.base k f fd ps sp) (hr : Room k X.A) (hgd : X.A.guards = some []) (hg : Gl X x) (hm : X.mg x = some (.ref f)) (hk : PySem.W.keepIn X.K (.ref f) = true) (hb : Binds X.K fd ps []) (hx : ∀ σ, PassesAt (L2.CX X.prog X.w) X σ (E σ))
    (ha : PA X (e :: es) t) (hdb : (x == ("__debug__" : Str)) = false) (he : starEach (e :: es) X.env = (false, eval e X.env) :: starEach es X.env) (hpl : (backTo pos (starEach es X.env)).any (·.1) = false) :
    PE X (.Call (.Name x p) (e :: es) [] pos) (fun σ H Q => t σ H fun vs H1 => sp vs H1 Q (E σ)) := by
  refine ⟨fun pins s σ H Q I h => wpAny_Call_Name_kw (ld_glob I hg hm ?_ hdb)⟩
  refine PySem.W.callWith_K (h₀ := X.base) I.ok.mod.kin hk (thn (ha.run pos pins s σ H _ I h) fun us s1 ⟨vs, H1, I1, r, q⟩ => ⟨I1.kIn, ?_⟩) he hpl
  have hl : (us ++ ([] : List Value)).length = ps.length := by rw [List.append_nil, ← r.length]; exact F.len _ _ _ _ q
  have b := hb s1 us I1.kIn hl
  rw [List.append_nil] at b
  exact F.call (ks := []) (ws := []) hr hgd b (hx σ) I1 r q
/-- f() -/
theorem pe_fn0 (F : FnG X.prog X.w X.K X.mg X.base k f fd ps sp) (hr : Room k X.A) (hgd : X.A.guards = some []) (hg : Gl X x) (hm : X.mg x = some (.ref f)) (hk : PySem.W.keepIn X.K (.ref f) = true) (hb : Binds X.K fd ps []) (hx : ∀ σ, PassesAt (L2.CX X.prog X.w) X σ (E σ))
    (hdb : (x == ("__debug__" : Str)) = false) : PE X (.Call (.Name x p) [] [] pos) (fun σ H Q => sp [] H Q (E σ)) := by
  refine ⟨fun pins s σ H Q I h => wpAny_Call_Name_kw (ld_glob I hg hm (PySem.W.callWith_K0 I.kIn hk ?_) hdb)⟩
  have b := hb s [] I.kIn (by
    have := F.len _ _ _ _ h
    exact this)
  exact F.call (us := []) (ks := []) (ws := []) hr hgd b (hx σ) I .nil h
/-- f(k = e, ..): perm puts the keywords' values in the parameters' order -/
structure KwB (K : PySem.W.Frag) (fd : FuncData) (ps ks : List Str) (g : {α : Type} → List α → List α) : Prop where
  to : ∀ (s : Shared) (ws : List Value), K.In s.heap → (g ws).length = ps.length → BindsTo s fd ⟨[], ks.zip ws⟩ (ps.zip (g ws))
  rel : ∀ {vs : List V} {ws : List Value}, Vals vs ws → Vals (g vs) (g ws)
theorem pe_fnK {kws : List Keyword} {ks : List Str} {g : {α : Type} → List α → List α} {tk : TA} (F : FnG X.prog X.w X.K X.mg X.base k f fd ps sp) (hr : Room k X.A) (hgd : X.A.guards = some []) (hg : Gl X x) (hm : X.mg x = some (.ref f)) (hk : PySem.W.keepIn X.K (.ref f) = true)
    (hb : KwB X.K fd ps ks g) (hx : ∀ σ, PassesAt (L2.CX X.prog X.w) X σ (E σ)) (ha : PK X kws tk) (hall : (backToKw pos (keywordEach kws X.env)).all (·.1.isSome) = true) (hks : (backToKw pos (keywordEach kws X.env)).filterMap (·.1) = ks)
    (hdb : (x == ("__debug__" : Str)) = false) (hpl : ((backTo pos (starEach [] X.env)).any (·.1) || (backToKw pos (keywordEach kws X.env)).any (·.1.isNone)) = false) :
    PE X (.Call (.Name x p) [] kws pos) (fun σ H Q => tk σ H fun vs H1 => sp (g vs) H1 Q (E σ)) := by
  refine ⟨fun pins s σ H Q I h => wpAny_Call_Name_kw (ld_glob I hg hm ?_ hdb)⟩
  refine PySem.W.callWith_KW0 (h₀ := X.base) I.ok.mod.kin hk hall (thn (ha.run pos pins s σ H _ I h) fun ws s1 ⟨vs, H1, I1, r, q⟩ => ⟨I1.kIn, ?_⟩) hpl
  rw [hks]
  have r2 := hb.rel r
  have hl : (g ws).length = ps.length := by rw [← r2.length]; exact F.len _ _ _ _ q
  exact F.call (us := []) hr hgd (hb.to s1 ws I1.kIn hl) (hx σ) I1 r2 q
end

/-! ### contracts over data -/
abbrev SpD := List RV → (RV → Prop) → (Err → Prop) → Prop
def liftSp (bk : BoxKind) (K : PySem.W.Frag) (mg : Str → Option Value) (n : Nat) (s : SpD) : Sp := fun vs H Q E => ∃ S rs Qd Ex, AOk bk S H ∧ RArgs K S vs rs ∧ rs.length = n ∧
  (∀ r v H' S', Qd r → Ext bk S S' H H' → RRes K S' H H' v r → Q v H') ∧ (∀ e cls d H' S', Ex e → Ext bk S S' H H' → ErrR K mg S' H' cls d e → E cls d H') ∧ s rs Qd Ex
theorem Paired.len {α β : Type} {R : α → β → Prop} : ∀ {xs : List α} {ys : List β}, Paired R xs ys → xs.length = ys.length
  | _, _, .nil => rfl
  | _, _, .cons _ t => by simp [Paired.len t]
theorem liftSp.len {bk : BoxKind} {K : PySem.W.Frag} {mg : Str → Option Value} {n : Nat} {s : SpD} {vs : List V} {H : Hp} {Q : VK} {E : XK} (h : liftSp bk K mg n s vs H Q E) : vs.length = n := by
  obtain ⟨S, rs, Qd, Ex, _, ra, hl, _⟩ := h
  rw [← hl]; exact Paired.len ra
def tFn (n : Nat) (s : SpD) (t : TDA) : TD := fun env Q Ex => t env (fun rs => rs.length = n ∧ s rs Q Ex) Ex
section
variable {bk : BoxKind} {X : Cx} {W : WX} {k n : Nat} {f : Addr} {fd : FuncData} {ps : List Str} {s : SpD} {x : Str} {p pos : Pos} {e : Expr} {es : List Expr} {t : TDA}
theorem passes_at (tk : Takes X W) (σ : List (Option V)) : PassesAt (L2.CX X.prog X.w) X σ (fun cls d H => W cls d σ H) := fun pins H s e s' I c => tk e s' (XE.of_call I (fun _ _ _ h => h) c)
theorem pd_fn (tk : Takes X W) (F : FnG X.prog X.w X.K X.mg X.base k f fd ps (liftSp bk X.K X.mg n s)) (hr : Room k X.A) (hgd : X.A.guards = some []) (hg : Gl X x) (hm : X.mg x = some (.ref f)) (hk : PySem.W.keepIn X.K (.ref f) = true) (hb : Binds X.K fd ps [])
    (ha : PDA bk X W (e :: es) t) (hdb : (x == ("__debug__" : Str)) = false) (he : starEach (e :: es) X.env = (false, eval e X.env) :: starEach es X.env) (hpl : (backTo pos (starEach es X.env)).any (·.1) = false) :
    PD bk X W (.Call (.Name x p) (e :: es) [] pos) (tFn n s t) := PE.imp (pe_fn (E := fun σ cls d H => W cls d σ H) F hr hgd hg hm hk hb (passes_at tk) ha hdb he hpl) fun σ H Q q => by
  obtain ⟨S, env, Hz, Qd, Ex, ok, ab, ex, con, t⟩ := q
  refine ⟨S, env, Hz, _, Ex, ok, ab, ex, fun rs vs H1 S1 q1 e1 r1 => ?_, t⟩
  exact ⟨S1, rs, Qd, Ex, e1.ok, r1, q1.1, con.ext ok e1, ex.ext ok e1, q1.2⟩
theorem pd_fn0 (tk : Takes X W) (F : FnG X.prog X.w X.K X.mg X.base k f fd ps (liftSp bk X.K X.mg n s)) (hr : Room k X.A) (hgd : X.A.guards = some []) (hg : Gl X x) (hm : X.mg x = some (.ref f)) (hk : PySem.W.keepIn X.K (.ref f) = true) (hb : Binds X.K fd ps [])
    (hdb : (x == ("__debug__" : Str)) = false) : PD bk X W (.Call (.Name x p) [] [] pos) (tFn n s tNilD) := PE.imp (pe_fn0 (E := fun σ cls d H => W cls d σ H) F hr hgd hg hm hk hb (passes_at tk) hdb) fun σ H Q q => by
  obtain ⟨S, env, Hz, Qd, Ex, ok, ab, ex, con, t⟩ := q
  exact ⟨S, [], Qd, Ex, ok, .nil, t.1, con, ex, t.2⟩
def tFnK (n : Nat) (g : {α : Type} → List α → List α) (s : SpD) (t : TDA) : TD := fun env Q Ex => t env (fun rs => (g rs).length = n ∧ s (g rs) Q Ex) Ex
/-- arguments by keywords -/
def PDK (bk : BoxKind) (X : Cx) (W : WX) (kws : List Keyword) (t : TDA) : Prop := PK X kws (liftA bk X W t)
theorem PK.imp {kws : List Keyword} {t t' : TA} (h : PK X kws t) (i : ∀ σ H Q, t' σ H Q → t σ H Q) : PK X kws t' := ⟨fun pos pins s σ H Q I q => h.run pos pins s σ H Q I (i σ H Q q)⟩
theorem pdk_nil : PDK bk X W [] tNilD := PK.imp pk_nil fun _ _ _ q => by
  obtain ⟨S, env, Hz, Qd, Ex, ok, ab, ex, con, t⟩ := q
  exact con [] [] _ _ t (Ext.refl ok) .nil
theorem pdk_cons {te : TD} {tr : TDA} {kws : List Keyword} {nm : Option Str} {kpos : Pos} (ha : PD bk X W e te) (hr : PDK bk X W kws tr) : PDK bk X W (⟨nm, e, kpos⟩ :: kws) (tConsD te tr) := PK.imp (pk_cons ha hr) fun σ H Q q => by
  obtain ⟨S, env, Hz, Qd, Ex, ok, ab, ex, con, t⟩ := q
  refine ⟨S, env, Hz, _, Ex, ok, ab, ex, fun r v H1 S1 q1 e1 r1 => ?_, t⟩
  obtain ⟨S2, r', e2, ra, q2, _⟩ := r1.arg ok e1 q1
  refine ⟨S2, env, Hz, _, Ex, e2.ok, ab.ext e2, ex.ext ok e2, fun rs vs H3 S3 q3 e3 rv => ?_, q2⟩
  have z := RArgs.ext (X := X) (vs := [v]) (rs := [r']) (.cons ra .nil) e3
  cases z with
  | cons h _ => exact con (r' :: rs) (v :: vs) H3 S3 q3 (Ext.trans ok e2 e3) (.cons h rv)
theorem pd_fnK {kws : List Keyword} {ks : List Str} {g : {α : Type} → List α → List α} (hg2 : ∀ {α β : Type} (R : α → β → Prop) (xs : List α) (ys : List β), Paired R xs ys → Paired R (g xs) (g ys)) (tk : Takes X W) (F : FnG X.prog X.w X.K X.mg X.base k f fd ps (liftSp bk X.K X.mg n s))
    (hr : Room k X.A) (hgd : X.A.guards = some []) (hg : Gl X x) (hm : X.mg x = some (.ref f)) (hk : PySem.W.keepIn X.K (.ref f) = true) (hb : KwB X.K fd ps ks g)
    (ha : PDK bk X W kws t) (hall : (backToKw pos (keywordEach kws X.env)).all (·.1.isSome) = true) (hks : (backToKw pos (keywordEach kws X.env)).filterMap (·.1) = ks)
    (hdb : (x == ("__debug__" : Str)) = false) (hpl : ((backTo pos (starEach [] X.env)).any (·.1) || (backToKw pos (keywordEach kws X.env)).any (·.1.isNone)) = false) :
    PD bk X W (.Call (.Name x p) [] kws pos) (tFnK n g s t) := PE.imp (pe_fnK (E := fun σ cls d H => W cls d σ H) F hr hgd hg hm hk hb (passes_at tk) ha hall hks hdb hpl) fun σ H Q q => by
  obtain ⟨S, env, Hz, Qd, Ex, ok, ab, ex, con, t⟩ := q
  refine ⟨S, env, Hz, _, Ex, ok, ab, ex, fun rs vs H1 S1 q1 e1 r1 => ?_, t⟩
  exact ⟨S1, g rs, Qd, Ex, e1.ok, hg2 _ _ _ r1, q1.1, con.ext ok e1, ex.ext ok e1, q1.2⟩
end
end HA

namespace HA
open PySem PySem.Spec PyProof.Rows L2

/-! ### statements over data -/
structure SE where
  nx : En → Prop
  rt : RV → Prop
  bk : En → Prop
  ct : En → Prop
  ex : Err → En → Prop
abbrev TSD := SE → En → Prop
section
variable (bk : BoxKind) (X : Cx) (W : WX)
structure EndsOk (S0 : AS) (Hz : Hp) (D : Ends) (Dd : SE) : Prop where
  nx : ∀ σ H S env, Ext bk S0 S Hz H → Abs X.K S Hz H σ env → Dd.nx env → D.nx σ H
  rt : ∀ r v H S, Ext bk S0 S Hz H → RRes X.K S Hz H v r → Dd.rt r → D.rt v H
  br : ∀ σ H S env, Ext bk S0 S Hz H → Abs X.K S Hz H σ env → Dd.bk env → D.bk σ H
  ct : ∀ σ H S env, Ext bk S0 S Hz H → Abs X.K S Hz H σ env → Dd.ct env → D.ct σ H
  ex : ∀ e cls d σ H S env, Ext bk S0 S Hz H → Abs X.K S Hz H σ env → ErrR X.K X.mg S H cls d e → Dd.ex e env → W cls d σ H
def liftS (t : TSD) : TS := fun D σ H => ∃ S0 Hz S env Dd, Bx bk S0 Hz ∧ Ext bk S0 S Hz H ∧ Abs X.K S Hz H σ env ∧ EndsOk bk X W S0 Hz D Dd ∧ t Dd env
def PSD (st : Stmt) (t : TSD) : Prop := PS X st (liftS bk X W t)
def PSsD (st : List Stmt) (t : TSD) : Prop := PSs X st (liftS bk X W t)
end
def SE.err (D : SE) (env : En) : Err → Prop := fun e => D.ex e env
section
variable {bk : BoxKind} {X : Cx} {W : WX} {S0 S S' : AS} {σ : Sg} {Hz H H' : Hp} {env : En} {D : Ends} {Dd : SE}
theorem EndsOk.exOk (x : EndsOk bk X W S0 Hz D Dd) (ok0 : Bx bk S0 Hz) (e : Ext bk S0 S Hz H) (ab : Abs X.K S Hz H σ env) : ExOk bk X W S σ H (Dd.err env) := fun er cls d H2 S2 h1 h2 h3 =>
  x.ex er cls d σ H2 S2 env (Ext.tr ok0 e h2) (ab.ext h2) h3 h1
theorem Abs.set {v : V} {r : RV} {i : Nat} (ab : Abs X.K S Hz H σ env) (h : RSlot X.K S Hz H v r) (hn : ∀ o, r = .own o → ∀ j o', j ≠ i → env[j]? = some (some (.own o')) → σ[j]? ≠ some (some v)) : Abs X.K S Hz H (σ.set i (some v)) (env.set i (some r)) := by
  have hl : i < env.length → i < σ.length := fun z => by rw [← ab.len]; exact z
  refine ⟨by rw [List.length_set, List.length_set]; exact ab.len, fun j r' hj => ?_, fun j k o o' w hjk h1 h2 h3 => ?_⟩
  · by_cases e : i = j
    · subst e
      by_cases l : i < env.length
      · rw [List.getElem?_set_self l] at hj
        obtain rfl : r = r' := by cases hj; rfl
        exact ⟨v, List.getElem?_set_self (hl l), h⟩
      · rw [List.getElem?_eq_none (by rw [List.length_set]; omega)] at hj; cases hj
    · rw [List.getElem?_set_ne e] at hj
      rw [List.getElem?_set_ne e]
      exact ab.at_ j r' hj
  · by_cases ej : i = j
    · subst ej
      have l : i < env.length := by
        by_cases l : i < env.length
        · exact l
        · rw [List.getElem?_eq_none (by rw [List.length_set]; omega)] at h1; cases h1
      rw [List.getElem?_set_self l] at h1
      rw [List.getElem?_set_self (hl l)] at h3
      rw [List.getElem?_set_ne hjk] at h2 ⊢
      cases h1
      cases h3
      exact hn o rfl k o' hjk.symm h2
    · rw [List.getElem?_set_ne ej] at h1 h3
      by_cases ek : i = k
      · subst ek
        have l : i < env.length := by
          by_cases l : i < env.length
          · exact l
          · rw [List.getElem?_eq_none (by rw [List.length_set]; omega)] at h2; cases h2
        rw [List.getElem?_set_self l] at h2
        rw [List.getElem?_set_self (hl l)]
        cases h2
        intro z
        cases z
        exact hn o' rfl j o (fun z => ej z.symm) h1 h3
      · rw [List.getElem?_set_ne ek] at h2 ⊢
        exact ab.ap j k o o' w hjk h1 h2 h3
theorem Abs.setD {v : V} {x : PyData} {i : Nat} (ab : Abs X.K S Hz H σ env) (h : Rp X.K S.F v x) : Abs X.K S Hz H (σ.set i (some v)) (env.set i (some (.d x))) := ab.set h fun _ e => nomatch e
/-- what a name can be given -/
def RV.sto (r : RV) (k : RV → Prop) : Prop := match r with
  | .d x => k (.d x)
  | .own o => k (.own o)
  | .bor _ => False
  | .box => k .box
  | .scr ns => k (.scr ns)
theorem RRes.slot {v : V} {r : RV} (h : RRes X.K S' H H' v r) (k : ∀ a, H a = none → Hz a = none) (hb : ∀ o, r ≠ .bor o) : RSlot X.K S' Hz H' v r := by
  cases r with
  | d x => exact h
  | own o => obtain ⟨a, e, n, l, f, w⟩ := h; exact ⟨a, e, k a n, l, f, w⟩
  | bor o => exact absurd rfl (hb o)
  | box => exact h
  | scr ns => exact h
theorem RV.sto_ne {r : RV} {k : RV → Prop} (h : r.sto k) : (∀ o, r ≠ .bor o) ∧ k r := by
  cases r with
  | bor o => exact h.elim
  | d x => exact ⟨nofun, h⟩
  | own o => exact ⟨nofun, h⟩
  | box => exact ⟨nofun, h⟩
  | scr ns => exact ⟨nofun, h⟩
/-- a new object is no object of a slot -/
theorem RRes.apart {v : V} {r : RV} (h : RRes X.K S' H H' v r) (ab : Abs X.K S Hz H σ env) : ∀ o, r = .own o → ∀ (j : Nat) o', env[j]? = some (some (.own o')) → σ[j]? ≠ some (some v) := by
  rintro o rfl j o' hj hv
  obtain ⟨a, rfl, n, _⟩ := h
  obtain ⟨w, hw, b, rfl, _, _, _, ow⟩ := ab.at_ j _ hj
  rw [hw] at hv
  cases hv
  obtain ⟨u, hu⟩ := ow.there
  rw [n] at hu
  cases hu
theorem Ext.freeZ (ok0 : Bx bk S0 Hz) (e : Ext bk S0 S Hz H) : ∀ a, H a = none → Hz a = none := fun a h => e.fr ok0 h

/-! name = e -/
def tSetD (i : Nat) (t : TD) : TSD := fun D env => t env (fun r => r.sto fun r' => D.nx (env.set i (some r'))) (D.err env)
variable {pos : Pos} {e : Expr} {t : TD}
theorem lift_set {i : Nat} (q : liftS bk X W (tSetD i t) D σ H) : liftE bk X W t σ H fun v H1 => D.nx (σ.set i (some v)) H1 := by
  obtain ⟨S0, Hz, S, env, Dd, ok0, e0, ab, en, t⟩ := q
  refine ⟨S, env, Hz, _, _, e0.ok, ab, en.exOk ok0 e0 ab, fun r v H1 S1 q1 e1 r1 => ?_, t⟩
  obtain ⟨hb, q2⟩ := RV.sto_ne q1
  exact en.nx _ _ S1 _ (Ext.tr ok0 e0 e1) ((ab.ext e1).set (r1.slot (Ext.freeZ ok0 e0) hb) fun o ho j o' _ => r1.apart ab o ho j o') q2
theorem sd_set {i : Nat} {x : Str} {pos' : Pos} (hN : X.N.Nodup) (hi : X.N[i]? = some x) (hx : Loc X.env.scope x) (hf : X.fn x = true ∨ X.env.scope.names.lookup x = some .local) (he : PD bk X W e t) (hs : swapsWith e (some (.Name x pos')) pos.line X.env = pure false) :
    PSD bk X W (.Assign [.Name x pos'] e pos) (tSetD i t) := PS.imp (ps_set hN hi hx he hs hf) fun _ _ _ q => lift_set q

/-! blocks -/
def tNxD : TSD := fun D env => D.nx env
def tSeqD (t u : TSD) : TSD := fun D env => t { D with nx := u D } env
variable {st : Stmt} {rest : List Stmt} {ts us : TSD}
theorem sds_nil : PSsD bk X W [] tNxD := PSs.imp pss_nil fun D σ H q => by
  obtain ⟨S0, Hz, S, env, Dd, ok0, e0, ab, en, t⟩ := q
  exact en.nx _ _ _ _ e0 ab t
theorem sds_cons (h1 : PSD bk X W st ts) (h2 : PSsD bk X W rest us) : PSsD bk X W (st :: rest) (tSeqD ts us) := PSs.imp (pss_cons h1 h2) fun D σ H q => by
  obtain ⟨S0, Hz, S, env, Dd, ok0, e0, ab, en, t⟩ := q
  exact ⟨S0, Hz, S, env, { Dd with nx := us Dd }, ok0, e0, ab, ⟨fun σ' H' S' env' e' ab' t' => ⟨S0, Hz, S', env', Dd, ok0, e', ab', en, t'⟩, en.rt, en.br, en.ct, en.ex⟩, t⟩
theorem sd_pass : PSD bk X W (.Pass pos) tNxD := PS.imp ps_pass fun D σ H q => by
  obtain ⟨S0, Hz, S, env, Dd, ok0, e0, ab, en, t⟩ := q
  exact en.nx _ _ _ _ e0 ab t
def tBkD : TSD := fun D env => D.bk env
def tCtD : TSD := fun D env => D.ct env
theorem sd_break : PSD bk X W (.Break pos) tBkD := PS.imp ps_break fun D σ H q => by
  obtain ⟨S0, Hz, S, env, Dd, ok0, e0, ab, en, t⟩ := q
  exact en.br _ _ _ _ e0 ab t
theorem sd_continue : PSD bk X W (.Continue pos) tCtD := PS.imp ps_continue fun D σ H q => by
  obtain ⟨S0, Hz, S, env, Dd, ok0, e0, ab, en, t⟩ := q
  exact en.ct _ _ _ _ e0 ab t
/-- a statement that is never reached -/
def tNeverD : TSD := fun _ _ => False
theorem sd_never : PSD bk X W st tNeverD := PS.imp ps_never fun D σ H q => by
  obtain ⟨S0, Hz, S, env, Dd, ok0, e0, ab, en, t⟩ := q
  exact t

/-! return -/
def tRetD (t : TD) : TSD := fun D env => t env (fun r => r.sto D.rt) (D.err env)
theorem sd_ret (he : PD bk X W e t) : PSD bk X W (.Return (some e) pos) (tRetD t) := PS.imp (ps_ret he) fun D σ H q => by
  obtain ⟨S0, Hz, S, env, Dd, ok0, e0, ab, en, t⟩ := q
  refine ⟨S, env, Hz, _, _, e0.ok, ab, en.exOk ok0 e0 ab, fun r v H1 S1 q1 e1 r1 => ?_, t⟩
  exact en.rt _ _ _ S1 (Ext.tr ok0 e0 e1) (r1.back (Ext.freeZ ok0 e0)) (RV.sto_ne q1).2
/-- return name -/
def tRetV (i : Nat) : TSD := fun D env => enGet env i D.rt
theorem sd_retv {i : Nat} {x : Str} {pos' : Pos} (hN : X.N[i]? = some x) (hv : Vis X.env.scope x) (hd : (x == ("__debug__" : Str)) = false) (hcd : (x == ("__classdict__" : Str)) = false) : PSD bk X W (.Return (some (.Name x pos')) pos) (tRetV i) :=
  PS.imp (ps_ret (pe_var hN hv hd hcd)) fun D σ H q => by
    obtain ⟨S0, Hz, S, env, Dd, ok0, e0, ab, en, t⟩ := q
    obtain ⟨r, e, q⟩ := enGet_some t
    obtain ⟨v, e2, rs⟩ := ab.at_ i r e
    refine ⟨v, e2, en.rt r _ _ S e0 ?_ q⟩
    cases r with
    | d x => exact rs
    | own o => obtain ⟨a, e, n, l, f, w⟩ := rs; exact ⟨a, e, n, l, f, w⟩
    | bor o => exact rs.elim
    | box => exact rs
    | scr ns => exact rs
def tRetN : TSD := fun D _ => D.rt (.d .none)
theorem sd_retN : PSD bk X W (.Return none pos) tRetN := PS.imp ps_retN fun D σ H q => by
  obtain ⟨S0, Hz, S, env, Dd, ok0, e0, ab, en, t⟩ := q
  exact en.rt (.d .none) .non _ S e0 .non t

/-! if, a value that is dropped -/
def tIfD (c : TD) (t u : TSD) : TSD := fun D env => c env (fun r => r.bl fun b => if b = true then t D env else u D env) (D.err env)
theorem sd_if {c : Expr} {a b : List Stmt} {tc : TD} (hc : PDT bk X W c (tTst tc)) (ha : PSsD bk X W a ts) (hb : PSsD bk X W b us) : PSD bk X W (.If c a b pos) (tIfD tc ts us) := PS.imp (ps_if hc ha hb) fun D σ H q => by
  obtain ⟨S0, Hz, S, env, Dd, ok0, e0, ab, en, t⟩ := q
  refine ⟨S, env, Hz, _, _, e0.ok, ab, en.exOk ok0 e0 ab, fun c H1 S1 q1 e1 => ?_, t⟩
  cases c with
  | true => exact ⟨S0, Hz, S1, env, Dd, ok0, Ext.tr ok0 e0 e1, ab.ext e1, en, q1⟩
  | false => exact ⟨S0, Hz, S1, env, Dd, ok0, Ext.tr ok0 e0 e1, ab.ext e1, en, q1⟩
def tDropD (t : TD) : TSD := fun D env => t env (fun _ => D.nx env) (D.err env)
theorem sd_drop (he : PD bk X W e t) (hs : swapsWith e none pos.line X.env = pure false) : PSD bk X W (.Expr e pos) (tDropD t) := PS.imp (ps_expr he hs) fun D σ H q => by
  obtain ⟨S0, Hz, S, env, Dd, ok0, e0, ab, en, t⟩ := q
  refine ⟨S, env, Hz, _, _, e0.ok, ab, en.exOk ok0 e0 ab, fun r v H1 S1 q1 e1 r1 => ?_, t⟩
  exact en.nx _ _ S1 _ (Ext.tr ok0 e0 e1) (ab.ext e1) q1

/-! an object of a name's own is changed, or frozen -/
theorem Ext.write (e : Ext bk S0 S Hz H) {a : Addr} {o : HO} (hz : Hz a = none) (hf : S.F a = none) (hl : a ∉ S.l) : Ext bk S0 S Hz (upd H a o) := by
  refine ⟨e.fz, e.nw, e.eb, e.el, fun b u h m => ?_, ⟨fun b u h => ?_, e.ok.out, ?_⟩⟩
  · rw [upd_ne (ne_of_none h hz)]; exact e.kp b u h m
  · rw [upd_ne (ne_of_none h hf)]; exact e.ok.sub b u h
  · rcases e.ok.box with z | z
    · exact .inl z
    · exact .inr (bk.loc z fun b m => upd_ne fun q => hl (by rw [← q]; exact m))
theorem Abs.write {i : Nat} {a : Addr} {o o' : Ow} {u : HO} (ab : Abs X.K S Hz H σ env) (hi : env[i]? = some (some (.own o))) (hv : σ[i]? = some (some (.ref a))) (hz : Hz a = none) (hl : a ∉ S.l) (hf : S.F a = none) (w : OwR X.K S.F (upd H a u) a o') :
    Abs X.K S Hz (upd H a u) σ (env.set i (some (.own o'))) := by
  have hi' : i < env.length := (List.getElem?_eq_some_iff.mp hi).1
  refine ⟨by rw [List.length_set]; exact ab.len, fun j r hj => ?_, fun j k p p' v hjk h1 h2 h3 => ?_⟩
  · by_cases e : i = j
    · subst e
      rw [List.getElem?_set_self hi'] at hj
      cases hj
      exact ⟨_, hv, a, rfl, hz, hl, hf, w⟩
    · rw [List.getElem?_set_ne e] at hj
      obtain ⟨v, h1, h2⟩ := ab.at_ j r hj
      refine ⟨v, h1, ?_⟩
      cases r with
      | d x => exact h2
      | own p =>
        obtain ⟨b, rfl, q1, q2, q3, q4⟩ := h2
        have hb : b ≠ a := fun z => by
          subst z
          exact ab.ap i j o p _ e hi hj hv h1
        exact ⟨b, rfl, q1, q2, q3, q4.mono (S' := S) (Same.refl _) fun w hw => by rw [upd_ne hb]; exact hw⟩
      | bor p => exact h2
      | box => exact h2
      | scr ns => exact h2
  · have own : ∀ (m : Nat) (p : Ow), (env.set i (some (RV.own o')))[m]? = some (some (.own p)) → ∃ p2, env[m]? = some (some (.own p2)) := fun m p hm => by
      by_cases e : i = m
      · subst e; exact ⟨o, hi⟩
      · rw [List.getElem?_set_ne e] at hm; exact ⟨p, hm⟩
    obtain ⟨p2, g1⟩ := own j p h1
    obtain ⟨p3, g2⟩ := own k p' h2
    exact ab.ap j k p2 p3 v hjk g1 g2 h3
/-- an owned list at a slot -/
def enLst (env : En) (i : Nat) (k : List PyData → Prop) : Prop := enGet env i fun r => match r with
  | .own (.lst xs) => k xs
  | _ => False
theorem enLst_at {i : Nat} {k : List PyData → Prop} (h : enLst env i k) (ab : Abs X.K S Hz H σ env) : ∃ xs a vs, env[i]? = some (some (.own (.lst xs))) ∧ σ[i]? = some (some (.ref a)) ∧ Hz a = none ∧ a ∉ S.l ∧ S.F a = none ∧ H a = some (.lst vs) ∧ RpAll X.K S.F vs xs ∧ k xs := by
  obtain ⟨r, e, q⟩ := enGet_some h
  split at q
  · rename_i xs
    obtain ⟨v, e2, a, rfl, h1, h2, h3, vs, h4, h5⟩ := ab.at_ i _ e
    exact ⟨xs, a, vs, e, e2, h1, h2, h3, h4, h5, q⟩
  · exact q.elim
/-- x.append(e) -/
def tAppD (i : Nat) (t : TD) : TSD := fun D env => enLst env i fun xs => t env (fun r => r.arg fun r' => match r' with
  | .d y => xs.length < sizeLine ∧ D.nx (env.set i (some (.own (.lst (xs ++ [y])))))
  | _ => False) (D.err env)
theorem tyV_lst {a : Addr} {vs : List V} {K : PySem.W.Frag} (h : H a = some (.lst vs)) : tyV K "list" (.ref a) H := .inl ⟨rfl, _, SqL.of h⟩
theorem sd_append {i : Nat} {p2 p3 : Pos} {o : Expr} (ho : PE X o (tVar i)) (hbase : attributeBase o "append" X.env (eval o X.env) = eval o X.env) (he : PD bk X W e t)
    (hfew : ((backTo p3 (starEach [e] X.env)).all (fun x => !x.1) && (backToKw p3 (keywordEach [] X.env)).all (fun x => x.1.isSome) && decide ([e].length + ([] : List Keyword).length + (if ([] : List Keyword).isEmpty then 0 else 1) < 30)) = true)
    (hline : (p2.endLine == p3.line) = true) (hst : starEach [e] X.env = (false, eval e X.env) :: starEach [] X.env) :
    PSD bk X W (.Expr (.Call (.Attribute o "append" p2) [e] [] p3) pos) (tAppD i t) :=
  PS.imp (ps_expr (pe_bm PySem.F.plainAttrs_list PySem.F.slot_list_append PySem.F.type_list_append mt_append ho (pa_cons he pa_nil hst) hbase hfew hline hst rfl) rfl) fun D σ H q => by
    obtain ⟨S0, Hz, S, env, Dd, ok0, e0, ab, en, t⟩ := q
    obtain ⟨xs, a, vs, hi, hv, hz, hl, hf, ha, ra, t⟩ := enLst_at t ab
    refine ⟨.ref a, hv, tyV_lst ha, S, env, Hz, _, _, e0.ok, ab, en.exOk ok0 e0 ab, fun r v H1 S1 q1 e1 r1 => ?_, t⟩
    obtain ⟨S2, r', e2, rv, q2, _⟩ := r1.arg e0.ok e1 q1
    cases r' with
    | d y =>
      obtain ⟨q3, q4⟩ := q2
      have l2 : a ∉ S2.l := by rw [e2.el]; exact hl
      have ha2 := e2.kp _ _ ha hl
      have f2 : S2.F a = none := by
        cases z : S2.F a with
        | none => rfl
        | some w =>
          have z2 := e2.nw a hf (by rw [z]; exact nofun)
          rw [ha] at z2; cases z2
      have ra2 := ra.mono e2.fz
      refine ⟨a, vs, v, rfl, rfl, ha2, by rw [ra.length]; exact q3, ?_⟩
      exact en.nx _ _ S2 _ ((Ext.tr ok0 e0 e2).write hz f2 l2) ((ab.ext e2).write hi hv hz l2 f2 (show OwR X.K S2.F _ a (.lst _) from ⟨_, upd_same, ra2.append (.cons rv .nil)⟩)) q4
    | own o => exact q2.elim
    | bor o => exact q2.elim
    | box => exact q2.elim
    | scr ns => exact q2.elim
theorem extend_from (l b : Addr) (xs ys : Array Value) (n m : Nat) (sl : Array (Option Value)) (h0 : ¬(!xs.isEmpty && Builtin.List.listTooLong (xs.size + ys.size)) = true) (h1 : xs.size ≤ sizeLine) (h2 : xs.size + ys.size ≤ sizeLine + 1) :
    Meets (Builtin.«list.extend» ⟨[.ref l, .ref b], []⟩) (fun _ R s => s.heap.get? l = some { cls := .type "list", data := .seq xs n } ∧ s.heap.get? b = some { cls := .type "list", data := .seq ys m, slots := sl } ∧ R (.ok (.ret Value.none)) { s with heap := s.heap.update l (Obj.mapSeq fun x => x ++ ys), toks := s.toks }) :=
  .of_wp fun prog w A R s h => by
    obtain ⟨hp, g, d, tk, os⟩ := s
    obtain ⟨hl, hb, h⟩ := h
    have i1 := PySem.AutoSeq1.idx_int
    have i2 := PySem.AutoSeq1.sub_tuple_tuple
    have i3 := PySem.AutoSeq1.sub_list_list
    have i4 := PySem.AutoSeq1.sub_tuple_list
    have i5 := PySem.AutoSeq1.sub_list_tuple
    have hz : (xs ++ ys).size ≤ sizeLine + 1 := by
      rw [Array.size_append]
      exact h2
    wp_walk using (wpAny_updateSeq hl rfl (hz := h1) (_hz' := hz)), PySem.AutoSeq1.wpAny_loadPart' hl, PySem.AutoSeq1.wpAny_loadPart' hb
    exact ⟨_, rfl, h⟩
theorem mt_extendQ {X : Cx} : MtM X "list.extend" (fun x vs H Q => ∃ l b xs zs, x = .ref l ∧ vs = [.ref b] ∧ H l = some (.lst xs) ∧ SqL X.K H b zs ∧ xs.length + zs.length ≤ sizeLine ∧ Q .non (upd H l (.lst (xs ++ zs)))) := by
  intro pins s σ H x vs v us Q I rx rv h
  obtain ⟨l, b, xs, zs, rfl, rfl, hH, hB, hz, q⟩ := h
  cases rx
  obtain ⟨u, rfl, ru⟩ := rv.one
  cases ru
  obtain ⟨z, its, n, r, hl, e⟩ := I.lstM hH
  obtain ⟨its2, r2, p2, z2⟩ := I.list hB
  obtain ⟨n2, sl, e2⟩ := PlainL.whole p2
  have l1 := r.length
  have l2 := r2.length
  have sz : its.toArray.size + its2.toArray.size ≤ sizeLine := by
    rw [List.size_toArray, List.size_toArray]
    omega
  have nl : ¬ (!its.toArray.isEmpty && Builtin.List.listTooLong (its.toArray.size + its2.toArray.size)) = true := fun w => by
    rw [notLongL sz, Bool.and_false] at w
    cases w
  refine call_meets F.slot_list_extend ⟨_, e, rfl⟩ F.entry_list_extend (F.args_list_extend_2 _ _) (extend_from l b its.toArray its2.toArray n n2 sl nl (by omega) (by omega)) ⟨e, e2, ?_⟩
  have ea : its.toArray ++ its2.toArray = (its ++ its2).toArray := by simp
  exact ⟨.non, _, I.lset (its' := its ++ its2) hH e ea (r.append r2) (by rw [List.length_append]; omega), rfl, q⟩
/-- x.extend(e) -/
def tExtD (i : Nat) (t : TD) : TSD := fun D env => enLst env i fun xs => t env (fun r => r.use fun y => match y with
  | .list ys => xs.length + ys.length ≤ sizeLine ∧ D.nx (env.set i (some (.own (.lst (xs ++ ys)))))
  | _ => False) (D.err env)
theorem sd_extend {i : Nat} {p2 p3 : Pos} {o : Expr} (ho : PE X o (tVar i)) (hbase : attributeBase o "extend" X.env (eval o X.env) = eval o X.env) (he : PD bk X W e t)
    (hfew : ((backTo p3 (starEach [e] X.env)).all (fun x => !x.1) && (backToKw p3 (keywordEach [] X.env)).all (fun x => x.1.isSome) && decide ([e].length + ([] : List Keyword).length + (if ([] : List Keyword).isEmpty then 0 else 1) < 30)) = true)
    (hline : (p2.endLine == p3.line) = true) (hst : starEach [e] X.env = (false, eval e X.env) :: starEach [] X.env) :
    PSD bk X W (.Expr (.Call (.Attribute o "extend" p2) [e] [] p3) pos) (tExtD i t) :=
  PS.imp (ps_expr (pe_bm PySem.F.plainAttrs_list PySem.F.slot_list_extend PySem.F.type_list_extend mt_extendQ ho (pa_cons he pa_nil hst) hbase hfew hline hst rfl) rfl) fun D σ H q => by
    obtain ⟨S0, Hz, S, env, Dd, ok0, e0, ab, en, t⟩ := q
    obtain ⟨xs, a, vs, hi, hv, hz, hl, hf, ha, ra, t⟩ := enLst_at t ab
    refine ⟨.ref a, hv, tyV_lst ha, S, env, Hz, _, _, e0.ok, ab, en.exOk ok0 e0 ab, fun r v H1 S1 q1 e1 r1 => ?_, t⟩
    obtain ⟨y, ry, q2⟩ := r1.rq q1
    cases y with
    | list ys =>
      obtain ⟨q3, q4⟩ := q2
      obtain ⟨b, ws, rfl, hb, rb⟩ := ry.list e1.ok
      have l2 : a ∉ S1.l := by rw [e1.el]; exact hl
      have ha2 := e1.kp _ _ ha hl
      have f2 : S1.F a = none := by
        cases z : S1.F a with
        | none => rfl
        | some w =>
          have z2 := e1.nw a hf (by rw [z]; exact nofun)
          rw [ha] at z2; cases z2
      have ra2 := ra.mono e1.fz
      refine ⟨a, b, vs, ws, rfl, rfl, ha2, hb, by rw [ra.length, rb.length]; exact q3, ?_⟩
      exact en.nx _ _ S1 _ ((Ext.tr ok0 e0 e1).write hz f2 l2) ((ab.ext e1).write hi hv hz l2 f2 (show OwR X.K S1.F _ a (.lst _) from ⟨_, upd_same, ra2.append rb⟩)) q4
    | _ => exact q2.elim
/-- nothing is done, but what the name owns is frozen -/
def RV.frz : RV → RV
  | .own o => .d o.dat
  | r => r
def tFrzD (i : Nat) (t : TSD) : TSD := fun D env => enGet env i fun r => t D (env.set i (some r.frz))
theorem RpAll.ins {K : PySem.W.Frag} {F : Hp} {a : Addr} {u : HO} {vs : List V} {xs : List PyData} (hf : F a = none) (h : RpAll K F vs xs) : RpAll K (upd F a u) vs xs := h.mono fun b w hb => by rw [upd_ne (ne_of_none hb hf)]; exact hb
theorem RpKv.ins {K : PySem.W.Frag} {F : Hp} {a : Addr} {u : HO} {vs : List (Key × V)} {xs : List (PyData × PyData)} (hf : F a = none) (h : RpKv K F vs xs) : RpKv K (upd F a u) vs xs := h.mono fun b w hb => by rw [upd_ne (ne_of_none hb hf)]; exact hb
theorem OwR.frozen {a : Addr} {o : Ow} (w : OwR X.K S.F H a o) (hf : S.F a = none) : ∃ u, H a = some u ∧ Rp X.K (upd S.F a u) (.ref a) o.dat := by
  cases o with
  | lst xs => obtain ⟨vs, h1, h2⟩ := w; exact ⟨_, h1, .lst upd_same (h2.ins hf)⟩
  | dic xs => obtain ⟨vs, h1, h2⟩ := w; exact ⟨_, h1, .dic upd_same (h2.ins hf)⟩
theorem lift_frz {i : Nat} (q : liftS bk X W (tFrzD i ts) D σ H) : liftS bk X W ts D σ H := by
  obtain ⟨S0, Hz, S, env, Dd, ok0, e0, ab, en, t⟩ := q
  obtain ⟨r, hi, t⟩ := enGet_some t
  obtain ⟨v, hv, rs⟩ := ab.at_ i r hi
  have hi' : i < env.length := (List.getElem?_eq_some_iff.mp hi).1
  have back : ∀ r', r.frz = r' → r = r' → liftS bk X W ts D σ H := fun r' h1 h2 => by
    have e : env.set i (some r) = env := by
      apply List.ext_getElem?
      intro j
      by_cases z : i = j
      · subst z; rw [List.getElem?_set_self hi', hi]
      · rw [List.getElem?_set_ne z]
    rw [h1, ← h2, e] at t
    exact ⟨S0, Hz, S, env, Dd, ok0, e0, ab, en, t⟩
  cases r with
  | d x => exact back _ rfl rfl
  | bor o => exact rs.elim
  | box => exact back _ rfl rfl
  | scr ns => exact back _ rfl rfl
  | own o =>
    obtain ⟨a, rfl, hz, hl, hf, w⟩ := rs
    obtain ⟨u, hu, rp⟩ := OwR.frozen (o := o) w hf
    have e1 : Ext bk S0 { S with F := upd S.F a u } Hz H := freeze_at e0 hz hl hf hu
    refine ⟨S0, Hz, { S with F := upd S.F a u }, _, Dd, ok0, e1, ?_, en, t⟩
    have fz : Same S.F (upd S.F a u) := fun b w hb => by rw [upd_ne (ne_of_none hb hf)]; exact hb
    refine ⟨by rw [List.length_set]; exact ab.len, fun j r hj => ?_, fun j k p p' v hjk h1 h2 h3 => ?_⟩
    · by_cases z : i = j
      · subst z
        rw [List.getElem?_set_self hi'] at hj
        cases hj
        exact ⟨_, hv, rp⟩
      · rw [List.getElem?_set_ne z] at hj
        obtain ⟨v, h1, h2⟩ := ab.at_ j r hj
        refine ⟨v, h1, ?_⟩
        cases r with
        | d x => exact Rp.mono fz h2
        | own p =>
          obtain ⟨b, rfl, q1, q2, q3, q4⟩ := h2
          have hb : b ≠ a := fun z2 => by subst z2; exact ab.ap i j o p _ z hi hj hv h1
          refine ⟨b, rfl, q1, q2, ?_, OwR.mono (S := S) (S' := { S with F := upd S.F a u }) fz q4 fun w hw => hw⟩
          show upd S.F a u b = none
          rw [upd_ne hb]; exact q3
        | bor p => exact h2
        | box => exact h2
        | scr ns => exact (let ⟨a, e, q⟩ := h2; ⟨a, e, sqL_mono fz q⟩)
    · have own : ∀ (m : Nat) (p : Ow), (env.set i (some (RV.frz (.own o))))[m]? = some (some (.own p)) → env[m]? = some (some (.own p)) := fun m p hm => by
        by_cases e : i = m
        · subst e
          rw [List.getElem?_set_self hi'] at hm
          cases hm
        · rw [List.getElem?_set_ne e] at hm; exact hm
      exact ab.ap j k p p' v hjk (own j p h1) (own k p' h2) h3
theorem sds_frz {i : Nat} {sts : List Stmt} (h : PSsD bk X W sts ts) : PSsD bk X W sts (tFrzD i ts) := PSs.imp h fun _ _ _ q => lift_frz q

/-! while -/
def tWhileD (c : TD) (tb : TSD) : TSD := fun D env => ∃ Wd : Nat → En → Prop, (∃ m, Wd m env) ∧ ∀ m env, Wd m env →
  c env (fun r => r.bl fun b => if b = true then tb { D with nx := fun env' => ∃ m', m' < m ∧ Wd m' env', ct := fun env' => ∃ m', m' < m ∧ Wd m' env', bk := D.nx } env else D.nx env) (D.err env)
theorem sd_while {c : Expr} {body : List Stmt} {tc : TD} (hp : PassesOwn (model X.prog X.w) X.A X.env X.xe) (hc : PDT bk X W c (tTst tc)) (hb : PSsD bk X W body ts) : PSD bk X W (.While c body [] pos) (tWhileD tc ts) := PS.imp (ps_while hp hc hb) fun D σ H q => by
  obtain ⟨S0, Hz, S, env, Dd, ok0, e0, ab, en, Wd, ⟨m0, w0⟩, step⟩ := q
  refine ⟨fun m σ H => ∃ S env, Ext bk S0 S Hz H ∧ Abs X.K S Hz H σ env ∧ Wd m env, ⟨m0, S, env, e0, ab, w0⟩, fun m σ1 H1 w1 => ?_⟩
  obtain ⟨S1, env1, e1, ab1, w1⟩ := w1
  refine ⟨S1, env1, Hz, _, _, e1.ok, ab1, en.exOk ok0 e1 ab1, fun b H2 S2 q2 e2 => ?_, step m env1 w1⟩
  have e12 := Ext.tr ok0 e1 e2
  cases b with
  | true =>
    refine L2.iteT ?_
    refine ⟨fun σ' H' => ∃ S env m', Ext bk S0 S Hz H' ∧ Abs X.K S Hz H' σ' env ∧ m' < m ∧ Wd m' env, fun σ' H' ⟨S3, env3, m', h1, h2, h3, h4⟩ => ⟨m', h3, S3, env3, h1, h2, h4⟩, S0, Hz, S2, env1, _, ok0, e12, ab1.ext e2, ?_, q2⟩
    exact ⟨fun σ' H' S3 env3 h1 h2 ⟨m', h3, h4⟩ => ⟨S3, env3, m', h1, h2, h3, h4⟩, en.rt, fun σ' H' S3 env3 h1 h2 h3 => en.nx _ _ _ _ h1 h2 h3, fun σ' H' S3 env3 h1 h2 ⟨m', h3, h4⟩ => ⟨S3, env3, m', h1, h2, h3, h4⟩, en.ex⟩
  | false =>
    refine L2.iteF ?_
    exact en.nx _ _ _ _ e12 (ab1.ext e2) q2
end
end HA

namespace HA
open PySem PySem.Spec PyProof.Rows L2

/-! ### targets -/
abbrev TGD := PyData → En → (En → Prop) → Prop
abbrev TGDs := List PyData → En → (En → Prop) → Prop
section
variable (bk : BoxKind) (X : Cx) (sl : List Nat)
/-- sl: the slots that may change -/
def liftG (t : TGD) : TG := fun v σ H Q => ∃ S Hz env x Qd, AOk bk S H ∧ Abs X.K S Hz H σ env ∧ Rp X.K S.F v x ∧
  (∀ σ' env', Abs X.K S Hz H σ' env' → σ'.length = σ.length → (∀ j, j ∉ sl → σ'[j]? = σ[j]?) → Qd env' → Q σ' H) ∧ t x env Qd
def liftGs (t : TGDs) : TGs := fun vs σ H Q => ∃ S Hz env xs Qd, AOk bk S H ∧ Abs X.K S Hz H σ env ∧ RpAll X.K S.F vs xs ∧
  (∀ σ' env', Abs X.K S Hz H σ' env' → σ'.length = σ.length → (∀ j, j ∉ sl → σ'[j]? = σ[j]?) → Qd env' → Q σ' H) ∧ t xs env Qd
def PGD (e : Expr) (t : TGD) : Prop := PG X e (liftG bk X sl t)
def PGDs (es : List Expr) (t : TGDs) : Prop := PGs X es (liftGs bk X sl t)
end
theorem PG.imp {X : Cx} {e : Expr} {t t' : TG} (h : PG X e t) (i : ∀ v σ H Q, t' v σ H Q → t v σ H Q) : PG X e t' := ⟨fun pins s σ H v u Q I r q => h.run pins s σ H v u Q I r (i v σ H Q q)⟩
theorem PGs.imp {X : Cx} {es : List Expr} {t t' : TGs} (h : PGs X es t) (i : ∀ v σ H Q, t' v σ H Q → t v σ H Q) : PGs X es t' := ⟨fun pins s σ H v u Q I r q => h.run pins s σ H v u Q I r (i v σ H Q q)⟩
def gNmD (i : Nat) : TGD := fun x env Q => Q (env.set i (some (.d x)))
def gNilD : TGDs := fun xs env Q => xs = [] ∧ Q env
def gConsD (t : TGD) (u : TGDs) : TGDs := fun xs env Q => match xs with
  | x :: r => t x env fun env' => u r env' Q
  | [] => False
def gTupD (n : Nat) (t : TGDs) : TGD := fun x env Q => match x with
  | .tuple xs => xs.length = n ∧ t xs env Q
  | _ => False
section
variable {bk : BoxKind} {X : Cx} {W : WX} {sl sl2 : List Nat} {pos : Pos}
theorem pgd_name {i : Nat} {x : Str} (hN : X.N.Nodup) (hi : X.N[i]? = some x) (hx : Loc X.env.scope x) (hf : X.fn x = true ∨ X.env.scope.names.lookup x = some .local) (hm : i ∈ sl) : PGD bk X sl (.Name x pos) (gNmD i) :=
  PG.imp (pg_name hN hi hx hf) fun v σ H Q q => by
    obtain ⟨S, Hz, env, x, Qd, ok, ab, rx, con, t⟩ := q
    exact con _ _ (ab.setD rx) (by rw [List.length_set]) (fun j hj => List.getElem?_set_ne fun z => hj (by rw [← z]; exact hm)) t
theorem pgds_nil : PGDs bk X sl [] gNilD := PGs.imp pgs_nil fun v σ H Q q => by
  obtain ⟨S, Hz, env, xs, Qd, ok, ab, rx, con, e, t⟩ := q
  subst e
  cases rx
  exact ⟨rfl, con _ _ ab rfl (fun _ _ => rfl) t⟩
theorem pgds_cons {e : Expr} {es : List Expr} {t : TGD} {u : TGDs} (h1 : PGD bk X sl e t) (h2 : PGDs bk X sl es u) (hs : (assignEach (e :: es) X.env).map (·.2) = assign e X.env :: (assignEach es X.env).map (·.2)) : PGDs bk X sl (e :: es) (gConsD t u) :=
  PGs.imp (pgs_cons h1 h2 hs) fun v σ H Q q => by
    obtain ⟨S, Hz, env, xs, Qd, ok, ab, rx, con, t⟩ := q
    cases xs with
    | nil => exact t.elim
    | cons x xs =>
      cases rx with
      | cons r1 r2 =>
        refine ⟨_, _, rfl, S, Hz, env, x, _, ok, ab, r1, fun σ' env' ab' hl hj q1 => ?_, t⟩
        exact ⟨S, Hz, env', xs, Qd, ok, ab', r2, fun σ2 env2 ab2 hl2 hj2 q2 => con _ _ ab2 (hl2.trans hl) (fun j h => (hj2 j h).trans (hj j h)) q2, q1⟩
theorem pgd_tup {es : List Expr} {k n : Nat} {t : TGDs} (hc : X.calm = true) (h : PGDs bk X sl es t) (hn : (assignEach es X.env).length = n) (hst : (assignEach es X.env).findIdx? (·.1) = none) : PGD bk X sl (.Tuple es k pos) (gTupD n t) :=
  PG.imp (pg_tup hc h hn hst) fun v σ H Q q => by
    obtain ⟨S, Hz, env, x, Qd, ok, ab, rx, con, t⟩ := q
    cases x with
    | tuple xs =>
      cases rx with
      | tup h1 h2 => exact ⟨_, _, rfl, sqT_mono ok.sub h1, by rw [h2.length]; exact t.1, S, Hz, env, xs, Qd, ok, ab, h2, con, t.2⟩
    | _ => exact t.elim
end

/-! ### what is walked -/
abbrev TDI := En → (List PyData → Prop) → (Err → Prop) → Prop
/-- J gives the data, one by one, while P holds -/
structure ItD (bk : BoxKind) (K : PySem.W.Frag) (P : AS → Hp → Prop) (J : It) (xs : List PyData) : Prop where
  go : ∀ i S H, P S H → i < xs.length → J.go i H
  yld : ∀ i S H x v H', P S H → xs[i]? = some x → J.yld i H v H' → ∃ S', Ext bk S S' H H' ∧ Rp K S'.F v x
  stop : ∀ i S H, P S H → xs.length ≤ i → J.stop i H
/-- fz: only what is frozen stays as it is; else: what was there at the beginning -/
def PFX (bk : BoxKind) (fz : Bool) (S0 : AS) (H0 : Hp) (S : AS) (H : Hp) : Prop := AOk bk S H ∧ Same S0.F S.F ∧ (fz = false → Ext bk S0 S H0 H)
section
variable (bk : BoxKind) (X : Cx) (W : WX) (fz : Bool)
def liftI (t : TDI) : TI := fun σ H R => ∃ S env Hz Qd Ex, AOk bk S H ∧ Abs X.K S Hz H σ env ∧ ExOk bk X W S σ H Ex ∧ (∀ xs J H' S', Qd xs → Ext bk S S' H H' → ItD bk X.K (PFX bk fz S' H') J xs → R J H') ∧ t env Qd Ex
def PID (tg e : Expr) (t : TDI) : Prop := PI X tg e (liftI bk X W fz t)
end
theorem PI.imp {X : Cx} {tg e : Expr} {t t' : TI} (h : PI X tg e t) (i : ∀ σ H R, t' σ H R → t σ H R) : PI X tg e t' := ⟨fun pins s σ H R I q => h.run pins s σ H R I (i σ H R q)⟩
/-- what is walked: must it stay? -/
def RV.src (fz : Bool) (r : RV) (k : PyData → Prop) : Prop := match r with
  | .d x => k x
  | .own o => k o.dat
  | .bor o => fz = false ∧ k o.dat
  | .box => False
  | .scr ns => k (.list (ns.map PyData.int))
section
variable {bk : BoxKind} {X : Cx} {W : WX} {fz : Bool} {S S' : AS} {σ : Sg} {H H' Hz : Hp} {env : En} {pos : Pos} {v : V}
theorem PFX.self (ok : AOk bk S H) : PFX bk fz S H S H := ⟨ok, Same.refl _, fun _ => Ext.refl ok⟩
theorem PFX.from {S0 : AS} {H0 : Hp} (ok : AOk bk S H) (e : Ext bk S S0 H H0) {S3 : AS} {H3 : Hp} (p : PFX bk fz S0 H0 S3 H3) : PFX bk fz S H S3 H3 := ⟨p.1, e.fz.trans p.2.1, fun z => Ext.trans ok e (p.2.2 z)⟩
/-- it can be read while PFX holds -/
def Src (bk : BoxKind) (K : PySem.W.Frag) (fz : Bool) (S : AS) (H : Hp) (v : V) (x : PyData) : Prop := ∀ S3 H3, PFX bk fz S H S3 H3 → Rq K S3 H3 v x
theorem RRes.src {r : RV} {k : PyData → Prop} (e : Ext bk S S' H H') (h : RRes X.K S' H H' v r) (u : r.src fz k) : ∃ S2 x, Ext bk S S2 H H' ∧ k x ∧ Src bk X.K fz S2 H' v x := by
  cases r with
  | d x => exact ⟨S', x, e, u, fun S3 H3 p => .inl (Rp.mono p.2.1 h)⟩
  | box => exact u.elim
  | scr ns =>
    obtain ⟨a, rfl, l⟩ := h
    exact ⟨S', _, e, u, fun S3 H3 p => .inr (.inr ⟨a, ns, rfl, sqL_mono p.2.1 l, rfl⟩)⟩
  | bor o =>
    obtain ⟨e0, u⟩ := u
    obtain ⟨a, rfl, hl, hf, w⟩ := h
    refine ⟨S', _, e, u, fun S3 H3 p => .inr (.inl ⟨a, o, rfl, ?_, w.mono p.2.1 fun u q => (p.2.2 e0).kp _ _ q hl, rfl⟩)⟩
    rw [(p.2.2 e0).el]; exact hl
  | own o =>
    obtain ⟨a, rfl, hn, hl, hf, w⟩ := h
    cases o with
    | lst xs =>
      obtain ⟨vs, h1, h2⟩ := w
      exact ⟨{ S' with F := upd S'.F a (.lst vs) }, .list xs, freeze_at e hn hl hf h1, u, fun S3 H3 p => .inl (Rp.mono p.2.1 (.lst upd_same (h2.ins hf)))⟩
    | dic xs =>
      obtain ⟨vs, h1, h2⟩ := w
      exact ⟨{ S' with F := upd S'.F a (.dK vs) }, .dict xs, freeze_at e hn hl hf h1, u, fun S3 H3 p => .inl (Rp.mono p.2.1 (.dic upd_same (h2.ins hf)))⟩
end
/-- several of them -/
def tConsS (fz : Bool) (ta : TD) (tr : TDU) : TDU := fun env Q Ex => ta env (fun r => r.src fz fun x => tr env (fun xs => Q (x :: xs)) Ex) Ex
section
variable (bk : BoxKind) (X : Cx) (W : WX) (fz : Bool)
def liftV (t : TDU) : TA := fun σ H Q => ∃ S env Hz Qd Ex, AOk bk S H ∧ Abs X.K S Hz H σ env ∧ ExOk bk X W S σ H Ex ∧ (∀ xs vs H' S', Qd xs → Ext bk S S' H H' → Paired (Src bk X.K fz S' H') vs xs → Q vs H') ∧ t env Qd Ex
def PDV (es : List Expr) (t : TDU) : Prop := PA X es (liftV bk X W fz t)
end
section
variable {bk : BoxKind} {X : Cx} {W : WX} {fz : Bool} {S S' : AS} {σ : Sg} {H H' Hz : Hp} {env : En} {pos : Pos} {v : V} {tg e : Expr} {es : List Expr} {t : TD} {tr : TDU}
theorem pdv_nil : PDV bk X W fz [] tNilU := PA.imp pa_nil fun _ _ _ q => by
  obtain ⟨S, env, Hz, Qd, Ex, ok, ab, ex, con, t⟩ := q
  exact con [] [] _ _ t (Ext.refl ok) .nil
theorem pdv_cons (ha : PD bk X W e t) (hr : PDV bk X W fz es tr) (hs : starEach (e :: es) X.env = (false, eval e X.env) :: starEach es X.env) : PDV bk X W fz (e :: es) (tConsS fz t tr) := PA.imp (pa_cons ha hr hs) fun σ H Q q => by
  obtain ⟨S, env, Hz, Qd, Ex, ok, ab, ex, con, t⟩ := q
  refine ⟨S, env, Hz, _, Ex, ok, ab, ex, fun r v H1 S1 q1 e1 r1 => ?_, t⟩
  obtain ⟨S2, x, e2, q2, rx⟩ := r1.src e1 q1
  refine ⟨S2, env, Hz, _, Ex, e2.ok, ab.ext e2, ex.ext ok e2, fun xs vs H3 S3 q3 e3 r3 => ?_, q2⟩
  exact con _ _ _ _ q3 (Ext.trans ok e2 e3) (.cons (fun S4 H4 p => rx S4 H4 (PFX.from e2.ok e3 p)) r3)
/-! a list, a tuple -/
def asSeq (x : PyData) (k : List PyData → Prop) : Prop := match x with
  | .list xs => k xs
  | .tuple xs => k xs
  | _ => False
def tItVD (fz : Bool) (t : TD) : TDI := fun env Q Ex => t env (fun r => r.src fz fun x => asSeq x Q) Ex
def iSeq (K : PySem.W.Frag) (tl : TE) : TI := fun σ H R => tl σ H fun x H1 => ∃ a, x = .ref a ∧ (((∃ xs, SqL K H1 a xs) ∧ R (Itl K a) H1) ∨ ((∃ xs, SqT K H1 a xs) ∧ R (Itt K a) H1))
theorem pi_seq {l : Expr} {tl : TE} (hl : PE X l tl) : PI X tg l (iSeq X.K tl) := by
  refine ⟨fun pins s σ H R I h => ?_⟩
  refine thn (hl.run pins s σ H _ I h) fun v s1 ⟨x, H1, I1, r1, q1⟩ => ?_
  obtain ⟨a, e, q⟩ := q1
  subst e
  cases r1
  rcases q with ⟨⟨xs, hq⟩, q⟩ | ⟨⟨xs, hq⟩, q⟩
  · obtain ⟨its, rv, p, hz⟩ := I1.list hq
    refine wpAny_pyIter_list p.isList ?_
    refine ⟨s1.heap.objs.size, [s1.heap.objs.size], _, _, H1, rfl, I1.kept (t' := s1.toks) fun b o e => Heap.get?_push_of_some _ e, turn_list a _, ⟨_, Heap.get?_push_size _ rfl, rfl, rfl⟩, fun b hb => ?_, q⟩
    have e : b = s1.heap.objs.size := by simpa using hb
    subst e
    exact I1.fpOk (Nat.le_refl _) (I1.hok.fresh (Nat.le_refl _))
  · obtain ⟨its, rv, p, hz⟩ := I1.tuple hq
    refine wpAny_pyIter_tuple (show s1.heap.IsTuple a its.toArray from p) ?_
    refine ⟨s1.heap.objs.size, [s1.heap.objs.size], _, _, H1, rfl, I1.kept (t' := s1.toks) fun b o e => Heap.get?_push_of_some _ e, turn_tuple a _, ⟨_, Heap.get?_push_size _ rfl, rfl, rfl⟩, fun b hb => ?_, q⟩
    have e : b = s1.heap.objs.size := by simpa using hb
    subst e
    exact I1.fpOk (Nat.le_refl _) (I1.hok.fresh (Nat.le_refl _))
theorem sqL_lst {K : PySem.W.Frag} {a : Addr} {xs : List V} (h : H a = some (.lst xs)) : SqL K H a xs := SqL.of h
theorem it_list {P : AS → Hp → Prop} {a : Addr} {xs : List PyData} (h : ∀ S H, P S H → AOk bk S H ∧ Rq X.K S H (.ref a) (.list xs)) : ItD bk X.K P (Itl X.K a) xs := by
  have g : ∀ S H, P S H → ∃ vs, SqL X.K H a vs ∧ RpAll X.K S.F vs xs ∧ AOk bk S H := fun S H p => by
    obtain ⟨ok, r⟩ := h S H p
    obtain ⟨b, vs, e, h1, h2⟩ := r.rr.list ok.sub
    cases e
    exact ⟨vs, h1, h2, ok⟩
  refine ⟨fun i S H p hi => ?_, fun i S H x v H' p hx y => ?_, fun i S H p hi => ?_⟩
  · obtain ⟨vs, h1, h2, ok⟩ := g S H p
    have : i < vs.length := by rw [h2.length]; exact hi
    exact ⟨vs, vs[i], h1, List.getElem?_eq_getElem this⟩
  · obtain ⟨vs, h1, h2, ok⟩ := g S H p
    obtain ⟨rfl, y⟩ := y
    obtain ⟨v', hv, rv⟩ := h2.getD hx
    have := y vs h1
    rw [hv] at this
    cases this
    exact ⟨S, Ext.refl ok, rv⟩
  · obtain ⟨vs, h1, h2, ok⟩ := g S H p
    exact ⟨vs, h1, by rw [h2.length]; exact hi⟩
theorem it_tup {P : AS → Hp → Prop} {a : Addr} {xs : List PyData} (h : ∀ S H, P S H → AOk bk S H ∧ Rq X.K S H (.ref a) (.tuple xs)) : ItD bk X.K P (Itt X.K a) xs := by
  have g : ∀ S H, P S H → ∃ vs, SqT X.K H a vs ∧ RpAll X.K S.F vs xs ∧ AOk bk S H := fun S H p => by
    obtain ⟨ok, r⟩ := h S H p
    obtain ⟨b, vs, e, h1, h2⟩ := r.rr.tuple
    cases e
    exact ⟨vs, sqT_mono ok.sub h1, h2, ok⟩
  refine ⟨fun i S H p hi => ?_, fun i S H x v H' p hx y => ?_, fun i S H p hi => ?_⟩
  · obtain ⟨vs, h1, h2, ok⟩ := g S H p
    have : i < vs.length := by rw [h2.length]; exact hi
    exact ⟨vs, vs[i], h1, List.getElem?_eq_getElem this⟩
  · obtain ⟨vs, h1, h2, ok⟩ := g S H p
    obtain ⟨rfl, y⟩ := y
    obtain ⟨v', hv, rv⟩ := h2.getD hx
    have := y vs h1
    rw [hv] at this
    cases this
    exact ⟨S, Ext.refl ok, rv⟩
  · obtain ⟨vs, h1, h2, ok⟩ := g S H p
    exact ⟨vs, h1, by rw [h2.length]; exact hi⟩
theorem Src.ref {v : V} {x : PyData} {k : List PyData → Prop} (ok : AOk bk S H) (h : Src bk X.K fz S H v x) (q : asSeq x k) : ∃ a xs, v = .ref a ∧ k xs ∧
    (((∃ vs, SqL X.K H a vs) ∧ ItD bk X.K (PFX bk fz S H) (Itl X.K a) xs) ∨ ((∃ vs, SqT X.K H a vs) ∧ ItD bk X.K (PFX bk fz S H) (Itt X.K a) xs)) := by
  have h0 := h S H (PFX.self ok)
  cases x with
  | list xs =>
    obtain ⟨a, vs, rfl, h1, h2⟩ := h0.rr.list ok.sub
    exact ⟨a, xs, rfl, q, .inl ⟨⟨vs, h1⟩, it_list fun S3 H3 p => ⟨p.1, h S3 H3 p⟩⟩⟩
  | tuple xs =>
    obtain ⟨a, vs, rfl, h1, h2⟩ := h0.rr.tuple
    exact ⟨a, xs, rfl, q, .inr ⟨⟨vs, sqT_mono ok.sub h1⟩, it_tup fun S3 H3 p => ⟨p.1, h S3 H3 p⟩⟩⟩
  | _ => exact q.elim
theorem pid_seq (h : PD bk X W e t) : PID bk X W fz tg e (tItVD fz t) := PI.imp (pi_seq h) fun σ H R q => by
  obtain ⟨S, env, Hz, Qd, Ex, ok, ab, ex, con, t⟩ := q
  refine ⟨S, env, Hz, _, Ex, ok, ab, ex, fun r v H1 S1 q1 e1 r1 => ?_, t⟩
  obtain ⟨S2, x, e2, q2, rx⟩ := r1.src e1 q1
  obtain ⟨a, xs, rfl, q3, z⟩ := rx.ref e2.ok q2
  refine ⟨a, rfl, ?_⟩
  rcases z with ⟨z, it⟩ | ⟨z, it⟩
  · exact .inl ⟨z, con _ _ _ _ q3 e2 it⟩
  · exact .inr ⟨z, con _ _ _ _ q3 e2 it⟩
/-! range -/
def rngL (lo : Int) (n : Nat) : List PyData := (List.range n).map fun i => .int (lo + (i : Nat))
def rngC (lo c : Int) (n : Nat) : List PyData := (List.range n).map fun i => .int (lo + (i : Nat) * c)
theorem rngL_get {lo : Int} {n i : Nat} {x : PyData} (h : (rngL lo n)[i]? = some x) : x = .int (lo + (i : Nat)) := by
  unfold rngL at h
  rw [List.getElem?_map] at h
  cases q : (List.range n)[i]? with
  | none => rw [q] at h; cases h
  | some j =>
    rw [q] at h
    obtain ⟨h1, h2⟩ := List.getElem?_eq_some_iff.mp q
    rw [List.getElem_range] at h2
    subst h2
    cases h
    rfl
theorem rngL_len {lo : Int} {n : Nat} : (rngL lo n).length = n := by unfold rngL; rw [List.length_map, List.length_range]
theorem rngC_get {lo c : Int} {n i : Nat} {x : PyData} (h : (rngC lo c n)[i]? = some x) : x = .int (lo + (i : Nat) * c) := by
  unfold rngC at h
  rw [List.getElem?_map] at h
  cases q : (List.range n)[i]? with
  | none => rw [q] at h; cases h
  | some j =>
    rw [q] at h
    obtain ⟨h1, h2⟩ := List.getElem?_eq_some_iff.mp q
    rw [List.getElem_range] at h2
    subst h2
    cases h
    rfl
theorem rngC_len {lo c : Int} {n : Nat} : (rngC lo c n).length = n := by unfold rngC; rw [List.length_map, List.length_range]
theorem it_rng {P : AS → Hp → Prop} {lo : Int} {n : Nat} (h : ∀ S H, P S H → AOk bk S H) : ItD bk X.K P (Itr lo n) (rngL lo n) := by
  refine ⟨fun i S H p hi => by rw [rngL_len] at hi; exact hi, fun i S H x v H' p hx y => ?_, fun i S H p hi => by rw [rngL_len] at hi; exact hi⟩
  obtain ⟨rfl, rfl⟩ := y
  rw [rngL_get hx]
  exact ⟨S, Ext.refl (h S _ p), .int _⟩
theorem it_rngC {P : AS → Hp → Prop} {lo c : Int} {n : Nat} (h : ∀ S H, P S H → AOk bk S H) : ItD bk X.K P (Itc lo c n) (rngC lo c n) := by
  refine ⟨fun i S H p hi => by rw [rngC_len] at hi; exact hi, fun i S H x v H' p hx y => ?_, fun i S H p hi => by rw [rngC_len] at hi; exact hi⟩
  obtain ⟨rfl, rfl⟩ := y
  rw [rngC_get hx]
  exact ⟨S, Ext.refl (h S _ p), .int _⟩
def bd62 (i : Int) : Prop := -(2 ^ 62) ≤ i ∧ i < 2 ^ 62
def tRng1 (t : TDU) : TDI := fun env Q Ex => t env (fun xs => match xs with | [.int j] => bd62 j ∧ Q (rngL 0 j.toNat) | _ => False) Ex
def tRng2 (t : TDU) : TDI := fun env Q Ex => t env (fun xs => match xs with | [.int i, .int j] => bd62 i ∧ bd62 j ∧ Q (rngL i (j - i).toNat) | _ => False) Ex
/-- downwards -/
def tRng3 (t : TDU) : TDI := fun env Q Ex => t env (fun xs => match xs with | [.int i, .int j, .int c] => c = -1 ∧ bd62 i ∧ bd62 j ∧ Q (rngC i (-1) (i - j).toNat) | _ => False) Ex
variable {a b c : Expr} {p : Pos}
theorem pid_rng1 (hg : Gl X "range") (hm : X.mg "range" = none) (ha : PDU bk X W [a] tr) (hs : starEach [a] X.env = [(false, eval a X.env)]) : PID bk X W fz tg (.Call (.Name "range" p) [a] [] pos) (tRng1 tr) := PI.imp (pi_range1 hg hm ha hs) fun σ H R q => by
  obtain ⟨S, env, Hz, Qd, Ex, ok, ab, ex, con, t⟩ := q
  refine ⟨S, env, Hz, _, Ex, ok, ab, ex, fun xs vs H1 S1 q1 e1 r1 => ?_, t⟩
  split at q1
  · obtain ⟨v, rfl, h1⟩ := paired1 r1
    have := h1.rr.int
    subst this
    exact ⟨_, rfl, q1.1.1, q1.1.2, con _ _ _ _ q1.2 e1 (it_rng fun _ _ p => p.1)⟩
  · exact q1.elim
theorem pid_rng2 (hg : Gl X "range") (hm : X.mg "range" = none) (ha : PDU bk X W [a, b] tr) (hs : starEach [a, b] X.env = [(false, eval a X.env), (false, eval b X.env)]) (hs2 : starEach [b] X.env = [(false, eval b X.env)]) :
    PID bk X W fz tg (.Call (.Name "range" p) [a, b] [] pos) (tRng2 tr) := PI.imp (pi_range2 hg hm ha hs hs2) fun σ H R q => by
  obtain ⟨S, env, Hz, Qd, Ex, ok, ab, ex, con, t⟩ := q
  refine ⟨S, env, Hz, _, Ex, ok, ab, ex, fun xs vs H1 S1 q1 e1 r1 => ?_, t⟩
  split at q1
  · obtain ⟨v, w, rfl, h1, h2⟩ := paired2 r1
    have := h1.rr.int
    subst this
    have := h2.rr.int
    subst this
    obtain ⟨b1, b2, q1⟩ := q1
    exact ⟨_, _, rfl, ⟨b1.1, b1.2, b2.1, b2.2⟩, con _ _ _ _ q1 e1 (it_rng fun _ _ p => p.1)⟩
  · exact q1.elim
theorem paired3 {α β : Type} {R : α → β → Prop} {vs : List α} {y z w : β} (h : Paired R vs [y, z, w]) : ∃ a b c, vs = [a, b, c] ∧ R a y ∧ R b z ∧ R c w := by
  cases h with
  | cons h1 h2 => obtain ⟨b, c, rfl, h3, h4⟩ := paired2 h2; exact ⟨_, b, c, rfl, h1, h3, h4⟩
theorem pid_rng3 (hg : Gl X "range") (hm : X.mg "range" = none) (ha : PDU bk X W [a, b, c] tr) (hs : starEach [a, b, c] X.env = (false, eval a X.env) :: starEach [b, c] X.env) (hpl : (backTo pos (starEach [b, c] X.env)).any (·.1) = false) :
    PID bk X W fz tg (.Call (.Name "range" p) [a, b, c] [] pos) (tRng3 tr) := PI.imp (pi_range3 hg hm ha hs hpl) fun σ H R q => by
  obtain ⟨S, env, Hz, Qd, Ex, ok, ab, ex, con, t⟩ := q
  refine ⟨S, env, Hz, _, Ex, ok, ab, ex, fun xs vs H1 S1 q1 e1 r1 => ?_, t⟩
  split at q1
  · obtain ⟨v, w, u, rfl, h1, h2, h3⟩ := paired3 r1
    have := h1.rr.int
    subst this
    have := h2.rr.int
    subst this
    have := h3.rr.int
    subst this
    obtain ⟨rfl, b1, b2, q1⟩ := q1
    exact ⟨_, _, _, _, rfl, RgC.neg b1.1 b1.2 b2.1 b2.2, con _ _ _ _ q1 e1 (it_rngC fun _ _ p => p.1)⟩
  · exact q1.elim
end

/-- as seen from the def's entry -/
theorem back_ext {bk : BoxKind} {S0 S1 S' : AS} {Hz H1 H' : Hp} (e1 : Ext bk S0 S1 Hz H1) (e : Ext bk { S0 with F := S1.F } S' Hz H') : Ext bk S0 S' Hz H' := by
  refine ⟨e1.fz.trans e.fz, fun a h1 h2 => ?_, e.eb, e.el, e.kp, e.ok⟩
  by_cases z : S1.F a = none
  · exact e.nw a z h2
  · exact e1.nw a h1 z
/-! ### for -/
def forD (g : TGD) (tb : TSD) (D : SE) : List PyData → En → Prop
  | [], env => D.nx env
  | x :: xs, env => g x env fun env1 => tb { D with nx := forD g tb D xs, ct := forD g tb D xs, bk := D.nx } env1
def tForD (ti : TDI) (g : TGD) (tb : TSD) : TSD := fun D env => ti env (fun xs => forD g tb D xs env) (D.err env)
section
variable {bk : BoxKind} {X : Cx} {W : WX} {pos : Pos}
theorem sd_for {tg iter : Expr} {body : List Stmt} {ti : TDI} {g : TGD} {ts : TSD} {sl : List Nat} (hp : PassesOwn (model X.prog X.w) X.A X.env X.xe) (hc : X.calm = true) (hi : PID bk X W true tg iter ti) (hg : PGD bk X sl tg g) (hb : PSsD bk X W body ts)
    (hs : ∀ x, foldedSetIterable iter X.env x = pure x) : PSD bk X W (.For tg iter body [] pos) (tForD ti g ts) := PS.imp (ps_for hp hc hi hg hb hs) fun D σ H q => by
  obtain ⟨S0, Hz, S, env, Dd, ok0, e0, ab, en, t⟩ := q
  refine ⟨S, env, Hz, _, _, e0.ok, ab, en.exOk ok0 e0 ab, fun xs J H1 S1 q1 e1 it => ?_, t⟩
  have e01 := Ext.tr ok0 e0 e1
  refine ⟨fun i m σ H => m = xs.length - i ∧ i ≤ xs.length ∧ ∃ S env, Ext bk S0 S Hz H ∧ Same S1.F S.F ∧ Abs X.K S Hz H σ env ∧ forD g ts Dd (xs.drop i) env, ⟨xs.length, by simp, Nat.zero_le _, S1, env, e01, Same.refl _, ab.ext e1, by simpa using q1⟩, ?_⟩
  rintro i m σ2 H2 ⟨rfl, hi, S2, env2, e2, sm, ab2, q2⟩
  have P : PFX bk true S1 H1 S2 H2 := ⟨e2.ok, sm, fun z => nomatch z⟩
  by_cases hlt : i < xs.length
  · refine .inr ⟨it.go i S2 H2 P hlt, fun σ' H' => ∃ S env, Ext bk S0 S Hz H' ∧ Same S1.F S.F ∧ Abs X.K S Hz H' σ' env ∧ forD g ts Dd (xs.drop (i + 1)) env, fun σ' H' h => ⟨xs.length - (i + 1), by omega, rfl, hlt, h⟩, fun v H3 y => ?_⟩
    have hx : xs[i]? = some xs[i] := List.getElem?_eq_getElem hlt
    obtain ⟨S3, e3, rv⟩ := it.yld i S2 H2 _ v H3 P hx y
    rw [List.drop_eq_getElem_cons hlt] at q2
    have e23 := Ext.tr ok0 e2 e3
    have sm3 : Same S1.F S3.F := sm.trans e3.fz
    refine ⟨S3, Hz, env2, xs[i], _, e3.ok, ab2.ext e3, rv, fun σ4 env4 ab4 _ _ q4 => ?_, q2⟩
    refine ⟨{ S0 with F := S1.F }, Hz, S3, env4, _, ok0, ⟨sm3, fun a h1 h2 => ?_, e23.eb, e23.el, e23.kp, e23.ok⟩, ab4, ⟨?_, ?_, ?_, ?_, ?_⟩, q4⟩
    · refine e23.nw a ?_ h2
      cases z : S0.F a with
      | none => rfl
      | some w => rw [e01.fz a w z] at h1; cases h1
    all_goals
      first
      | exact fun σ' H' S' env' e' ab' h => ⟨S', env', (back_ext e01 e'), e'.fz, ab', h⟩
      | exact fun r v H' S' e' rr h => en.rt r v H' S' (back_ext e01 e') rr h
      | exact fun σ' H' S' env' e' ab' h => en.nx σ' H' S' env' (back_ext e01 e') ab' h
      | exact fun er cls d σ' H' S' env' e' ab' rr h => en.ex er cls d σ' H' S' env' (back_ext e01 e') ab' rr h
  · have e : i = xs.length := by omega
    subst e
    refine .inl ⟨it.stop _ S2 H2 P (Nat.le_refl _), ?_⟩
    rw [List.drop_length] at q2
    exact en.nx σ2 H2 S2 env2 e2 ab2 q2
end

/-! ### list comprehensions -/
/-- the block's own names forgotten -/
def wipeD (env : En) : List Nat → En
  | [] => env
  | v :: vs => (wipeD env vs).set v none
theorem wipeD_len (env : En) : ∀ vs, (wipeD env vs).length = env.length
  | [] => rfl
  | v :: vs => by unfold wipeD; rw [List.length_set, wipeD_len env vs]
theorem wipeD_some {env : En} {i : Nat} {r : RV} : ∀ {vs : List Nat}, (wipeD env vs)[i]? = some (some r) → env[i]? = some (some r) ∧ i ∉ vs
  | [], h => ⟨h, by simp⟩
  | v :: vs, h => by
    unfold wipeD at h
    by_cases hi : v = i
    · subst hi
      by_cases hv : v < (wipeD env vs).length
      · rw [List.getElem?_set_self hv] at h; cases h
      · rw [List.getElem?_eq_none (by simpa using hv)] at h; cases h
    · rw [List.getElem?_set_ne hi] at h
      obtain ⟨h1, h2⟩ := wipeD_some h
      exact ⟨h1, by simp only [List.mem_cons, not_or]; exact ⟨fun e => hi e.symm, h2⟩⟩
theorem wipe_at {σ : Sg} {j : Nat} : ∀ {vs : List Nat}, j ∉ vs → (wipe σ vs)[j]? = σ[j]?
  | [], _ => rfl
  | v :: vs, h => by
    simp only [List.mem_cons, not_or] at h
    unfold wipe
    rw [List.getElem?_set_ne (fun z => h.1 z.symm)]
    exact wipe_at h.2
theorem wipe_in {σ : Sg} {j : Nat} : ∀ {vs : List Nat}, j ∈ vs → (wipe σ vs)[j]? = if j < σ.length then some none else none
  | v :: vs, h => by
    unfold wipe
    by_cases e : v = j
    · subst e
      by_cases l : v < σ.length
      · rw [if_pos l, List.getElem?_set_self (by rw [wipe_length]; exact l)]
      · rw [if_neg l, List.getElem?_eq_none (by rw [List.length_set, wipe_length]; omega)]
    · rw [List.getElem?_set_ne e]
      rcases List.mem_cons.mp h with z | z
      · exact absurd z.symm e
      · exact wipe_in z
/-- what a target of the block did is forgotten -/
theorem wipe_eq {σ σ2 : Sg} {vs : List Nat} (hl : σ2.length = σ.length) (h : ∀ j, j ∉ vs → σ2[j]? = (wipe σ vs)[j]?) : wipe σ2 vs = wipe σ vs := by
  refine List.ext_getElem? fun j => ?_
  by_cases m : j ∈ vs
  · rw [wipe_in m, wipe_in m, hl]
  · rw [wipe_at m, h j m]
def lcD (g : TGD) (tt : TDT) (te : TD) (vs : List Nat) (env : En) (Q : RV → Prop) : List PyData → List PyData → Prop
  | [], acc => Q (.own (.lst acc))
  | x :: xs, acc => g x (wipeD env vs) fun env2 => tt env2 (fun b => if b = true then te env2 (fun r => r.arg fun r' => match r' with
      | .d y => acc.length < sizeLine ∧ lcD g tt te vs env Q xs (acc ++ [y])
      | _ => False) (fun _ => False) else lcD g tt te vs env Q xs acc) (fun _ => False)
def tLcD (ti : TDI) (g : TGD) (tt : TDT) (te : TD) (vs : List Nat) : TD := fun env Q Ex => ti env (fun xs => lcD g tt te vs env Q xs []) Ex
def tYesD : TDT := fun _ Q _ => Q true
abbrev WF : WX := fun _ _ _ _ => False
section
variable {bk : BoxKind} {X : Cx} {W : WX} {pos : Pos} {S S' : AS} {Hz H H' : Hp} {σ : Sg} {env : En}
def PTsD (bk : BoxKind) (X : Cx) (W : WX) (es : List Expr) (t : TDT) : Prop := PTs X es (liftT bk X W t)
theorem PTs.imp {es : List Expr} {t t' : TT} (h : PTs X es t) (i : ∀ σ H Q, t' σ H Q → t σ H Q) : PTs X es t' := ⟨fun pins s σ H Q I q => h.run pins s σ H Q I (i σ H Q q)⟩
theorem ptd_nil : PTsD bk X W [] tYesD := PTs.imp pts_nil fun σ H Q q => by
  obtain ⟨S, env, Hz, Qd, Ex, ok, ab, ex, con, t⟩ := q
  exact con true _ _ t (Ext.refl ok)
theorem ptd_one {c : Expr} {t : TDT} (h : PDT bk X W c t) : PTsD bk X W [c] t := pts_one h
theorem Abs.wipe (x : Abs X.K S Hz H σ env) (vs : List Nat) : Abs X.K S Hz H (wipe σ vs) (wipeD env vs) := by
  refine ⟨by rw [wipe_length, wipeD_len]; exact x.len, fun i r h => ?_, fun i j o o' v h1 h2 h3 h4 => ?_⟩
  · obtain ⟨h1, h2⟩ := wipeD_some h
    rw [wipe_at h2]
    exact x.at_ i r h1
  · obtain ⟨g1, m1⟩ := wipeD_some h2
    obtain ⟨g2, m2⟩ := wipeD_some h3
    rw [wipe_at m1] at h4
    rw [wipe_at m2]
    exact x.ap i j o o' v h1 g1 g2 h4
theorem Ext.laidAt (ok : AOk bk S H) (e : Ext bk S S' H H') {p : Addr} {o : HO} (hn : H p = none) (hl : p ∉ S'.l) (hf : S'.F p = none) : Ext bk S S' H (upd H' p o) := e.write hn hf hl
theorem lift_lc {ti : TDI} {g : TGD} {tt : TDT} {te : TD} {vs : List Nat} {Q : VK} (h : liftE bk X W (tLcD ti g tt te vs) σ H Q) :
    tLc (liftI bk X W false ti) (liftG bk X vs g) (liftT bk X WF tt) (liftE bk X WF te) vs σ H Q := by
  obtain ⟨S, env, Hz, Qd, Ex, ok, ab, ex, con, t⟩ := h
  refine ⟨S, env, Hz, _, Ex, ok, ab, ex, fun xs J H1 S1 q1 e1 it => ?_, t⟩
  intro D hD
  have ok1 := e1.ok
  have lD : D ∉ S1.l := fun m => ok1.there m hD
  have fD : S1.F D = none := ok1.free hD
  have ab1 := ab.ext e1
  refine ⟨fun i m H => m = xs.length - i ∧ i ≤ xs.length ∧ ∃ S ws acc, Ext bk S1 S H1 H ∧ S.F D = none ∧ H D = some (.lst ws) ∧ RpAll X.K S.F ws acc ∧ lcD g tt te vs env Qd (xs.drop i) acc,
    ⟨xs.length, by simp, Nat.zero_le _, S1, [], [], Ext.laid ok1 hD, fD, upd_same, .nil, by simpa using q1⟩, ?_⟩
  rintro i m H2 ⟨rfl, hi, S2, ws, acc, e2, f2, h2, r2, q2⟩
  have P : PFX bk false S1 H1 S2 H2 := ⟨e2.ok, e2.fz, fun _ => e2⟩
  by_cases hlt : i < xs.length
  · refine .inr ⟨it.go i S2 H2 P hlt, fun H => ∃ S ws acc, Ext bk S1 S H1 H ∧ S.F D = none ∧ H D = some (.lst ws) ∧ RpAll X.K S.F ws acc ∧ lcD g tt te vs env Qd (xs.drop (i + 1)) acc, fun H' h => ⟨xs.length - (i + 1), by omega, rfl, hlt, h⟩, fun v H3 y => ?_⟩
    have hx : xs[i]? = some xs[i] := List.getElem?_eq_getElem hlt
    obtain ⟨S3, e3, rv⟩ := it.yld i S2 H2 _ v H3 P hx y
    rw [List.drop_eq_getElem_cons hlt] at q2
    have e13 := Ext.trans ok1 e2 e3
    -- the new list is kept by what comes
    have keep : ∀ {S4 : AS} {H4 : Hp}, Ext bk S2 S4 H2 H4 → S4.F D = none ∧ H4 D = some (.lst ws) ∧ RpAll X.K S4.F ws acc ∧ D ∉ S4.l := fun {S4 H4} e => by
      have l2 : D ∉ S2.l := by rw [e2.el]; exact lD
      refine ⟨?_, e.kp _ _ h2 l2, r2.mono e.fz, by rw [e.el]; exact l2⟩
      cases z : S4.F D with
      | none => rfl
      | some w =>
        have z2 := e.nw D f2 (by rw [z]; exact nofun)
        rw [h2] at z2; cases z2
    refine ⟨S3, Hz, wipeD env vs, xs[i], _, e3.ok, (ab1.ext e13).wipe vs, rv, fun σ4 env4 ab4 hl4 hj4 q4 => ?_, q2⟩
    refine ⟨wipe_eq (by rw [hl4, wipe_length]) hj4, ?_⟩
    refine ⟨S3, env4, Hz, _, fun _ => False, e3.ok, ab4, fun _ _ _ _ _ z => z.elim, fun b H5 S5 q5 e5 => ?_, q4⟩
    have e35 := Ext.trans e2.ok e3 e5
    cases b with
    | false =>
      obtain ⟨k1, k2, k3, _⟩ := keep e35
      simp only [Bool.false_eq_true, if_false] at q5 ⊢
      exact ⟨S5, ws, acc, Ext.trans ok1 e2 e35, k1, k2, k3, q5⟩
    | true =>
      simp only [if_true] at q5 ⊢
      refine ⟨S5, env4, Hz, _, fun _ => False, e5.ok, ab4.ext e5, fun _ _ _ _ _ z => z.elim, fun r v6 H6 S6 q6 e6 r6 => ?_, q5⟩
      obtain ⟨S7, r', e7, rv7, q7, _⟩ := r6.arg e5.ok e6 q6
      have e37 := Ext.trans e2.ok e35 e7
      obtain ⟨k1, k2, k3, k4⟩ := keep e37
      cases r' with
      | d y =>
        refine ⟨ws, k2, by rw [k3.length]; exact q7.1, S7, ws ++ [v6], acc ++ [y], ?_, k1, upd_same, k3.append (.cons rv7 .nil), q7.2⟩
        exact Ext.write (Ext.trans ok1 e2 e37) hD k1 k4
      | own o => exact q7.elim
      | bor o => exact q7.elim
      | box => exact q7.elim
      | scr ns => exact q7.elim
  · have e : i = xs.length := by omega
    subst e
    refine .inl ⟨it.stop _ S2 H2 P (Nat.le_refl _), ?_⟩
    rw [List.drop_length] at q2
    refine con _ _ _ _ q2 (Ext.trans ok e1 e2) ⟨D, rfl, e1.free ok hD, by rw [e2.el]; exact lD, f2, ws, h2, r2⟩
section
variable {elt tg iter : Expr} {ifs : List Expr} {scope : Scope} {own : List (Str × Nat)} {ti : TDI} {g : TGD} {tt : TDT} {te : TD}
theorem pd_lc (hc : X.calm = true) (hN : X.N.Nodup) (hi : PID bk X W false tg iter ti) (ok : BlkOk X.N X.env.scope scope own)
    (hg : ∀ (s : Shared) (H : Hp) (C : Addr) (cl : List (Str × Addr)) (fp : List Addr), PGD bk (X.blk s H scope (compEnvC scope cl C X.env) fp) (own.map (·.2)) tg g) (ht : ∀ (s : Shared) (H : Hp) (C : Addr) (cl : List (Str × Addr)) (fp : List Addr), PTsD bk (X.blk s H scope (compEnvC scope cl C X.env) fp) WF ifs tt)
    (he : ∀ (s : Shared) (H : Hp) (C : Addr) (cl : List (Str × Addr)) (fp : List Addr), PD bk (X.blk s H scope (compEnvC scope cl C X.env) fp) WF elt te) (hs : ∀ x, foldedSetIterable iter X.env x = pure x) :
    PD bk X W (.ListComp elt [⟨tg, iter, ifs, 0⟩] scope pos) (tLcD ti g tt te (own.map (·.2))) := PE.imp (pe_lc (g := liftG bk X (List.map (fun x : Str × Nat => x.2) own) g) (tt := liftT bk X WF tt) (te := liftE bk X WF te) hc hN hi ok (fun s H C cl fp => hg s H C cl fp) (fun s H C cl fp => ht s H C cl fp) (fun s H C cl fp => he s H C cl fp) hs) fun _ _ _ q => lift_lc q
theorem sd_setLc {i : Nat} {y : Str} {py spos : Pos} (hc : X.calm = true) (hN : X.N.Nodup) (hy : X.N[i]? = some y) (hyl : X.env.scope.names.lookup y = some .local)
    (hsw : swapsWith (.ListComp elt [⟨tg, iter, ifs, 0⟩] scope pos) (some (.Name y py)) spos.line X.env = pure true) (hi : PID bk X W false tg iter ti) (ok : BlkOk X.N X.env.scope scope own)
    (hg : ∀ (s : Shared) (H : Hp) (C : Addr) (cl : List (Str × Addr)) (fp : List Addr), PGD bk (X.blk s H scope (compEnvC scope cl C X.env) fp) (own.map (·.2)) tg g) (ht : ∀ (s : Shared) (H : Hp) (C : Addr) (cl : List (Str × Addr)) (fp : List Addr), PTsD bk (X.blk s H scope (compEnvC scope cl C X.env) fp) WF ifs tt)
    (he : ∀ (s : Shared) (H : Hp) (C : Addr) (cl : List (Str × Addr)) (fp : List Addr), PD bk (X.blk s H scope (compEnvC scope cl C X.env) fp) WF elt te) (hs : ∀ x, foldedSetIterable iter X.env x = pure x) :
    PSD bk X W (.Assign [.Name y py] (.ListComp elt [⟨tg, iter, ifs, 0⟩] scope pos) spos) (tSetD i (tLcD ti g tt te (own.map (·.2)))) :=
  PS.imp (ps_setLc (g := liftG bk X (List.map (fun x : Str × Nat => x.2) own) g) (tt := liftT bk X WF tt) (te := liftE bk X WF te) hc hN hy hyl hsw hi ok (fun s H C cl fp => hg s H C cl fp) (fun s H C cl fp => ht s H C cl fp) (fun s H C cl fp => he s H C cl fp) hs) fun D σ H q => lift_lc (lift_set q)
end

/-! ### several names at once -/
/-- results that are kept as they are -/
inductive RStos (K : PySem.W.Frag) (S : AS) (H H' : Hp) : List V → List RV → Prop
  | nil : RStos K S H H' [] []
  | cons {v : V} {r : RV} {vs : List V} {rs : List RV} : RRes K S H H' v r → (∀ o, r ≠ .bor o) → (∀ o, r = .own o → ∀ (j : Nat) (o' : Ow), rs[j]? = some (.own o') → vs[j]? ≠ some v) → RStos K S H H' vs rs → RStos K S H H' (v :: vs) (r :: rs)
def liftSto (bk : BoxKind) (X : Cx) (W : WX) (t : TDA) : TA := fun σ H Q => ∃ S env Hz Qd Ex, AOk bk S H ∧ Abs X.K S Hz H σ env ∧ ExOk bk X W S σ H Ex ∧ (∀ rs vs H' S', Qd rs → Ext bk S S' H H' → RStos X.K S' H H' vs rs → Q vs H') ∧ t env Qd Ex
def PDS (bk : BoxKind) (X : Cx) (W : WX) (es : List Expr) (t : TDA) : Prop := PA X es (liftSto bk X W t)
def tConsO (ta : TD) (tr : TDA) : TDA := fun env Q Ex => ta env (fun r => r.sto fun r' => tr env (fun rs => Q (r' :: rs)) Ex) Ex
theorem RRes.on {v : V} {r : RV} {H0 : Hp} {S2 : AS} {H2 : Hp} (h : RRes X.K S H0 H v r) (e : Ext bk S S2 H H2) : RRes X.K S2 H0 H2 v r := by
  have fr : ∀ {a : Addr} {o : Ow}, S.F a = none → OwR X.K S.F H a o → S2.F a = none := fun {a o} f w => by
    obtain ⟨u, hu⟩ := OwR.there (K := X.K) (S := S) (H := H) w
    cases z : S2.F a with
    | none => rfl
    | some w =>
      have z2 := e.nw a f (by rw [z]; exact nofun)
      rw [hu] at z2; cases z2
  cases r with
  | d x => exact Rp.mono e.fz h
  | own o =>
    obtain ⟨a, rfl, n, l, f, w⟩ := h
    exact ⟨a, rfl, n, by rw [e.el]; exact l, fr f w, OwR.mono e.fz w fun u q => e.kp a u q l⟩
  | bor o =>
    obtain ⟨a, rfl, l, f, w⟩ := h
    exact ⟨a, rfl, by rw [e.el]; exact l, fr f w, OwR.mono e.fz w fun u q => e.kp a u q l⟩
  | box =>
    obtain ⟨h1, h2⟩ := h
    exact ⟨by rw [e.el]; exact h1, by rw [e.eb]; exact h2⟩
  | scr ns =>
    obtain ⟨a, rfl, h1⟩ := h
    exact ⟨a, rfl, sqL_mono e.fz h1⟩
theorem RStos.back {H0 : Hp} (k : ∀ a, H a = none → H0 a = none) : ∀ {vs : List V} {rs : List RV}, RStos X.K S H H' vs rs → RStos X.K S H0 H' vs rs
  | _, _, .nil => .nil
  | _, _, .cons h1 h2 h3 h4 => .cons (h1.back k) h2 h3 (RStos.back k h4)
theorem RStos.at_ : ∀ {vs : List V} {rs : List RV} {j : Nat} {r : RV}, RStos X.K S H H' vs rs → rs[j]? = some r → ∃ v, vs[j]? = some v ∧ RRes X.K S H H' v r
  | _, _, _, _, .nil, e => by simp at e
  | _, _, 0, _, .cons h1 _ _ _, e => by simp at e; subst e; exact ⟨_, rfl, h1⟩
  | _, _, j + 1, _, .cons _ _ _ h4, e => by
    obtain ⟨v, h5, h6⟩ := RStos.at_ (j := j) h4 (by simpa using e)
    exact ⟨v, by simpa using h5, h6⟩
theorem pdo_nil : PDS bk X W [] tNilD := PA.imp pa_nil fun _ _ _ q => by
  obtain ⟨S, env, Hz, Qd, Ex, ok, ab, ex, con, t⟩ := q
  exact con [] [] _ _ t (Ext.refl ok) .nil
theorem pdo_cons {e : Expr} {es : List Expr} {t : TD} {tr : TDA} (ha : PD bk X W e t) (hr : PDS bk X W es tr) (hs : starEach (e :: es) X.env = (false, eval e X.env) :: starEach es X.env) : PDS bk X W (e :: es) (tConsO t tr) := PA.imp (pa_cons ha hr hs) fun σ H Q q => by
  obtain ⟨S, env, Hz, Qd, Ex, ok, ab, ex, con, t⟩ := q
  refine ⟨S, env, Hz, _, Ex, ok, ab, ex, fun r v H1 S1 q1 e1 r1 => ?_, t⟩
  obtain ⟨hb, q2⟩ := RV.sto_ne q1
  refine ⟨S1, env, Hz, _, Ex, e1.ok, ab.ext e1, ex.ext ok e1, fun rs vs H2 S2 q3 e2 r2 => ?_, q2⟩
  refine con _ _ _ _ q3 (Ext.trans ok e1 e2) (.cons (r1.on e2) hb (fun o ho j o' hj hv => ?_) (r2.back fun a => e1.free ok))
  subst ho
  obtain ⟨a, rfl, _, _, _, w⟩ := r1
  obtain ⟨u, hu⟩ := OwR.there (K := X.K) (S := S1) (H := H1) w
  obtain ⟨v', h5, a', h6, n, _⟩ := r2.at_ hj
  rw [hv] at h5
  cases h5
  cases h6
  rw [n] at hu; cases hu
theorem RStos.slots2 {i j : Nat} {v w : V} {r r' : RV} (e : Ext bk S S' H H') (ok0 : ∀ a, H a = none → Hz a = none) (ab : Abs X.K S Hz H σ env) (h : RStos X.K S' H H' [v, w] [r, r']) : Abs X.K S' Hz H' ((σ.set i (some v)).set j (some w)) ((env.set i (some r)).set j (some r')) := by
  cases h with
  | cons h1 b1 n1 t =>
    cases t with
    | cons h2 b2 n2 t =>
      refine ((ab.ext e).set (h1.slot ok0 b1) fun o ho k o' _ => h1.apart ab o ho k o').set (h2.slot ok0 b2) fun o ho k o' hk hs hv => ?_
      by_cases z : i = k
      · subst z
        have l : i < env.length := by
          by_cases l : i < env.length
          · exact l
          · rw [List.getElem?_eq_none (by rw [List.length_set]; omega)] at hs; cases hs
        rw [List.getElem?_set_self l] at hs
        rw [List.getElem?_set_self (by rw [← ab.len]; exact l)] at hv
        cases hs
        cases hv
        subst ho
        exact n1 _ rfl 0 o rfl rfl
      · rw [List.getElem?_set_ne z] at hs hv
        exact h2.apart ab o ho k o' hs hv
/-- a, b = x, y -/
def tParD (i j : Nat) (t : TDA) : TSD := fun D env => t env (fun rs => match rs with | [r, r'] => D.nx ((env.set i (some r)).set j (some r')) | _ => False) (D.err env)
theorem sd_par {i j : Nat} {x y : Str} {a b : Expr} {ta : TDA} {px py pt : Pos} {kt k2 pt2} (hc : X.calm = true) (hN : X.N.Nodup) (hi : X.N[i]? = some x) (hj : X.N[j]? = some y) (hij : i ≠ j)
    (hx : X.env.scope.names.lookup x = some .local) (hy : X.env.scope.names.lookup y = some .local) (ha : PDS bk X W [a, b] ta)
    (hw : swappedStores [.Tuple [.Name x px, .Name y py] kt pt] (.Tuple [a, b] k2 pt2) X.env = pure (some [x, y]))
    (hs : swapsWithSole [.Tuple [.Name x px, .Name y py] kt pt] (.Tuple [a, b] k2 pt2) pos.line X.env = pure false) :
    PSD bk X W (.Assign [.Tuple [.Name x px, .Name y py] kt pt] (.Tuple [a, b] k2 pt2) pos) (tParD i j ta) := PS.imp (ps_par hc hN hi hj hij hx hy ha hw hs) fun D σ H q => by
  obtain ⟨S0, Hz, S, env, Dd, ok0, e0, ab, en, t⟩ := q
  refine ⟨S, env, Hz, _, _, e0.ok, ab, en.exOk ok0 e0 ab, fun rs vs H1 S1 q1 e1 r1 => ?_, t⟩
  split at q1
  · obtain ⟨v, w, rfl⟩ : ∃ v w, vs = [v, w] := by
      cases r1 with
      | cons _ _ _ t => cases t with
        | cons _ _ _ t => cases t; exact ⟨_, _, rfl⟩
    exact ⟨v, w, rfl, en.nx _ _ S1 _ (Ext.tr ok0 e0 e1) (r1.slots2 e1 (Ext.freeZ ok0 e0) ab) q1⟩
  · exact q1.elim
theorem RStos.slots3 {i j l : Nat} {v w u : V} {r r' r2 : RV} (hij : i ≠ j) (e : Ext bk S S' H H') (ok0 : ∀ a, H a = none → Hz a = none) (ab : Abs X.K S Hz H σ env) (h : RStos X.K S' H H' [v, w, u] [r, r', r2]) :
    Abs X.K S' Hz H' (((σ.set i (some v)).set j (some w)).set l (some u)) (((env.set i (some r)).set j (some r')).set l (some r2)) := by
  cases h with
  | cons h1 b1 n1 t =>
    have t0 := t
    cases t with
    | cons h2 b2 n2 t =>
      cases t with
      | cons h3 b3 n3 t =>
        have two : RStos X.K S' H H' [v, w] [r, r'] := .cons h1 b1 (fun o ho k o' hk hv => by
          cases k with
          | zero => exact n1 o ho 0 o' (by simpa using hk) (by simpa using hv)
          | succ k => simp at hk) (.cons h2 b2 (fun _ _ _ _ hk => by simp at hk) .nil)
        refine (two.slots2 e ok0 ab).set (h3.slot ok0 b3) fun o ho k o' hk hs hv => ?_
        subst ho
        by_cases z : j = k
        · subst z
          have l' : j < env.length := by
            by_cases l : j < env.length
            · exact l
            · rw [List.getElem?_eq_none (by rw [List.length_set, List.length_set]; omega)] at hs; cases hs
          rw [List.getElem?_set_self (by rw [List.length_set]; exact l')] at hs
          rw [List.getElem?_set_self (by rw [List.length_set, ← ab.len]; exact l')] at hv
          cases hs
          cases hv
          exact n2 _ rfl 0 o rfl rfl
        · rw [List.getElem?_set_ne z] at hs hv
          by_cases z : i = k
          · subst z
            have l' : i < env.length := by
              by_cases l : i < env.length
              · exact l
              · rw [List.getElem?_eq_none (by rw [List.length_set]; omega)] at hs; cases hs
            rw [List.getElem?_set_self l'] at hs
            rw [List.getElem?_set_self (by rw [← ab.len]; exact l')] at hv
            cases hs
            cases hv
            exact n1 _ rfl 1 o rfl rfl
          · rw [List.getElem?_set_ne z] at hs hv
            exact h3.apart ab o rfl k o' hs hv
def tPar3D (i j l : Nat) (t : TDA) : TSD := fun D env => t env (fun rs => match rs with | [r, r', r2] => D.nx (((env.set i (some r)).set j (some r')).set l (some r2)) | _ => False) (D.err env)
end
/-- target = a value: its parts -/
def tAsgD (t : TD) (g : TGD) : TSD := fun D env => t env (fun r => r.arg fun r' => match r' with | .d x => g x env D.nx | _ => False) (D.err env)
section
variable {bk : BoxKind} {X : Cx} {W : WX} {pos : Pos}
theorem sd_asg {tg e : Expr} {t : TD} {g : TGD} {sl : List Nat} (he : PD bk X W e t) (hg : PGD bk X sl tg g) (hs : swapsWithSole [tg] e pos.line X.env = pure false) (hw : swappedStores [tg] e X.env = pure none)
    (h1 : (assignEach [tg] X.env).map (·.2) = [assign tg X.env]) : PSD bk X W (.Assign [tg] e pos) (tAsgD t g) := PS.imp (ps_asg he hg hs hw h1) fun D σ H q => by
  obtain ⟨S0, Hz, S, env, Dd, ok0, e0, ab, en, t⟩ := q
  refine ⟨S, env, Hz, _, _, e0.ok, ab, en.exOk ok0 e0 ab, fun r v H1 S1 q1 e1 r1 => ?_, t⟩
  obtain ⟨S2, r', e2, ra, q2, _⟩ := r1.arg e0.ok e1 q1
  cases r' with
  | d x => exact ⟨S2, Hz, env, x, _, e2.ok, ab.ext e2, ra, fun σ' env' ab' _ _ q3 => en.nx _ _ S2 _ (Ext.tr ok0 e0 e2) ab' q3, q2⟩
  | own o => exact q2.elim
  | bor o => exact q2.elim
  | box => exact q2.elim
  | scr ns => exact q2.elim
end
end HA

namespace HA
open PySem PySem.Spec PyProof.Rows L2

/-! ### what every rule asks of the place -/
structure XB (X : Cx) (W : WX) (k : Nat) : Prop where
  calm : X.calm = true
  nd : X.N.Nodup
  room : Room k X.A
  gd : X.A.guards = some []
  sys : noSys X
  own : PassesOwn (model X.prog X.w) X.A X.env X.xe
  tk : Takes X W
theorem XB.u64 {X : Cx} {W : WX} {k : Nat} (x : XB X W k) : X.A.units + 64 < cLine := by have := x.room.un; omega
theorem XB.u65 {X : Cx} {W : WX} {k : Nat} (x : XB X W k) : X.A.units + 65 < cLine := by have := x.room.un; omega
theorem XB.blk {X : Cx} {W : WX} {k : Nat} (x : XB X W k) (s : Shared) (H : Hp) (sc : Scope) (ce : Env) (fp : List Addr) : XB (X.blk s H sc ce fp) WF k :=
  ⟨x.calm, x.nd, x.room, x.gd, x.sys, PassesOwn.never, takes0⟩
def sysIn (_ : PySem.W.Frag) : Prop := True
theorem noSys_of {X : Cx} (h : sysIn X.K) (k : X.K.In X.base) : noSys X := trivial
abbrev WOf (E : XK) : WX := fun cls d _ H => E cls d H
section
variable {P : Program} {w : World} {K : PySem.W.Frag} {mg : Str → Option Value} {base : Heap} {k n : Nat} {f : Addr} {fd : FuncData} {ps : List Str} {sp : SpD} {x : Str}
theorem XB.ofDef {N : List Str} {qual : Str} {sc : Scope} {f : Addr} {cd : Value} {A : Around} {outer : List Env} {s : Shared} {H : Hp} {E : XK} (nd : N.Nodup) (hr : Room k (A.deeper (envOfC qual sc s.heap.objs.size f cd))) (hg : A.guards = some []) (hs : sysIn K) (hk : K.In base) :
    XB (cxOf (L2.CX P w) P w K mg base N qual sc f cd A outer s H E) (WOf E) k := ⟨rfl, nd, hr, hg, noSys_of hs hk, passes_of rfl, takes_of rfl rfl rfl rfl⟩

/-! ### a def by its body over data -/
def fnEnds (Q : RV → Prop) (Ex : Err → Prop) : SE := ⟨fun _ => Q (.d .none), Q, fun _ => False, fun _ => False, fun e _ => Ex e⟩
def startD (m : Nat) (rs : List RV) : En := rs.map some ++ List.replicate (m - rs.length) none
theorem paired_at {α β : Type} {R : α → β → Prop} {xs : List α} {ys : List β} (h : Paired R xs ys) : ∀ {i : Nat} {y : β}, ys[i]? = some y → ∃ x, xs[i]? = some x ∧ R x y := by
  induction h with
  | nil => intro i y e; simp at e
  | cons r t ih =>
    intro i y e
    cases i with
    | zero => simp at e; subst e; exact ⟨_, rfl, r⟩
    | succ j => simp only [List.getElem?_cons_succ] at e ⊢; exact ih e
theorem RArg.slot {S : AS} {Hz H : Hp} {v : V} {r : RV} (h : RArg K S v r) : RSlot K S Hz H v r ∧ ∀ o, r ≠ .own o := by
  cases r with
  | d x => exact ⟨h, nofun⟩
  | own o => exact h.elim
  | bor o => exact h.elim
  | box => exact ⟨h, nofun⟩
  | scr ns => exact ⟨h, nofun⟩
theorem abs_start {S : AS} {H : Hp} {vs : List V} {rs : List RV} {N : List Str} (h : RArgs K S vs rs) : Abs K S H H (L2.start N vs) (startD N.length rs) := by
  have hl := Paired.len h
  unfold L2.start startD
  have at2 : ∀ (i : Nat) (r : RV), (rs.map some ++ List.replicate (N.length - rs.length) none)[i]? = some (some r) → rs[i]? = some r := fun i r e => by
    by_cases hi : i < rs.length
    · rw [List.getElem?_append_left (by rw [List.length_map]; exact hi), List.getElem?_map] at e
      cases q : rs[i]? with
      | none => rw [q] at e; cases e
      | some r' => rw [q] at e; cases e; rfl
    · rw [List.getElem?_append_right (by rw [List.length_map]; omega), List.getElem?_replicate] at e
      split at e <;> cases e
  refine ⟨by simp [hl], fun i r e => ?_, fun i j o o' v hij h1 h2 h3 => ?_⟩
  · obtain ⟨v, hv, hr⟩ := paired_at h (at2 i r e)
    refine ⟨v, ?_, (RArg.slot hr).1⟩
    have hi : i < vs.length := (List.getElem?_eq_some_iff.mp hv).1
    rw [List.getElem?_append_left (by rw [List.length_map]; exact hi), List.getElem?_map, hv]
    rfl
  · obtain ⟨v, hv, hr⟩ := paired_at h (at2 i _ h1)
    exact (show False from hr).elim
theorem FnG.data {bk : BoxKind} {qual : Str} {st : Stmt} {N : List Str} {D : TSD} (F : Fun K x qual st f fd) (S : FnScope N ps (defScope st)) (hn : n = ps.length)
    (hb : ∀ (cdv : Value) (A : Around) (outer : List Env) (s : Shared) (H : Hp) (E : XK), Room k (A.deeper (envOfC qual (defScope st) s.heap.objs.size f cdv)) → A.guards = some [] →
      PSsD bk (cxOf (L2.CX P w) P w K mg base N qual (defScope st) f cdv A outer s H E) (WOf E) (defBody st) D)
    (hd : ∀ rs Q Ex, rs.length = n → sp rs Q Ex → D (fnEnds Q Ex) (startD N.length rs)) : FnG P w K mg base (k + 1) f fd ps (liftSp bk K mg n sp) :=
  FnG.body F S (fun vs H Q E h => (liftSp.len h).trans hn) fun cdv A outer s H vs Q E hr hg hsp => by
    obtain ⟨S0, rs, Qd, Ex, ok, ra, hl, con, ex, q⟩ := hsp
    refine ⟨_, hb cdv A outer s H E hr hg, S0, H, S0, _, fnEnds Qd Ex, ok.box, Ext.refl ok, abs_start ra, ⟨?_, ?_, ?_, ?_, ?_⟩, hd rs Qd Ex hl q⟩
    · exact fun σ H' S' env e ab h => con _ .non _ S' h e .non
    · exact fun r v H' S' e rr h => con r v _ S' h e rr
    · exact fun _ _ _ _ _ _ h => h.elim
    · exact fun _ _ _ _ _ _ h => h.elim
    · exact fun e cls d σ H' S' env e2 ab rr h => ex e cls d _ S' h e2 rr
/-- a def that can be called by its name -/
structure FnAt (P : Program) (w : World) (K : PySem.W.Frag) (mg : Str → Option Value) (base : Heap) (bk : BoxKind) (k : Nat) (x : Str) (n : Nat) (ps : List Str) (s : SpD) : Prop where
  ex : ∃ f fd, FnG P w K mg base k f fd ps (liftSp bk K mg n s) ∧ mg x = some (.ref f) ∧ PySem.W.keepIn K (.ref f) = true ∧ Binds K fd ps []
structure FnKw (P : Program) (w : World) (K : PySem.W.Frag) (mg : Str → Option Value) (base : Heap) (bk : BoxKind) (k : Nat) (x : Str) (n : Nat) (ps ks : List Str) (g : {α : Type} → List α → List α) (s : SpD) : Prop where
  ex : ∃ f fd, FnG P w K mg base k f fd ps (liftSp bk K mg n s) ∧ mg x = some (.ref f) ∧ PySem.W.keepIn K (.ref f) = true ∧ KwB K fd ps ks g
theorem Fun.kwb {qual : Str} {st : Stmt} {ks : List Str} {g : {α : Type} → List α → List α} (F : Fun K x qual st f fd)
    (h : ∀ (kV doc pm : Value) (an : Option Addr) (cdv ct : Value) (ws : List Value), (g ws).length = ps.length → bindArgs (PySem.W.fnOf x qual (defArgs st) (defBody st) (defScope st) .none kV doc pm an cdv ct) ⟨[], ks.zip ws⟩ = pure (ps.zip (g ws)))
    (hr : ∀ {vs : List V} {ws : List Value}, Vals vs ws → Vals (g vs) (g ws)) : KwB K fd ps ks g := by
  obtain ⟨oc, od, kV, doc, pm, an, cdv, ct, osl, rfl, lk, hcd⟩ := F.ex
  exact ⟨fun s ws _ hl => .of_eq (h kV doc pm an cdv ct ws hl), hr⟩
end

/-! ### the rules in short -/
section
variable {bk : BoxKind} {X : Cx} {W : WX} {k : Nat} {pos p p2 : Pos} {e a b : Expr} {es : List Expr} {t ta tb : TD}
theorem qv (i : Nat) {x : Str} (hN : X.N[i]? = some x := by rfl) (hv : Vis X.env.scope x := by first | exact Or.inl rfl | exact Or.inr (Or.inl rfl) | exact Or.inr (Or.inr rfl)) (hd : (x == ("__debug__" : Str)) = false := by decide)
    (hcd : (x == ("__classdict__" : Str)) = false := by decide) : PD bk X W (.Name x pos) (tVarD i) := pd_var hN hv hd hcd
abbrev St1 (X : Cx) (e : Expr) (es : List Expr) : Prop := starEach (e :: es) X.env = (false, eval e X.env) :: starEach es X.env
theorem qa {tr : TDA} (ha : PD bk X W e t) (hr : PDA bk X W es tr) (hs : St1 X e es := by rfl) : PDA bk X W (e :: es) (tConsD t tr) := pda_cons ha hr hs
theorem qu {tr : TDU} (ha : PD bk X W e t) (hr : PDU bk X W es tr) (hs : St1 X e es := by rfl) : PDU bk X W (e :: es) (tConsU t tr) := pdu_cons ha hr hs
theorem qo {tr : TDA} (ha : PD bk X W e t) (hr : PDS bk X W es tr) (hs : St1 X e es := by rfl) : PDS bk X W (e :: es) (tConsO t tr) := pdo_cons ha hr hs
theorem qw {fz : Bool} {tr : TDU} (ha : PD bk X W e t) (hr : PDV bk X W fz es tr) (hs : St1 X e es := by rfl) : PDV bk X W fz (e :: es) (tConsS fz t tr) := pdv_cons ha hr hs
theorem qcmp {op : CmpOp} {g : GD} (ho : OpD bk X (compareOp op) g) (ha : PD bk X W a ta) (hb : PD bk X W b tb) (hm : behindInMarks op b = false := by first | exact nomark _ | with_unfolding_all rfl) : PD bk X W (.Compare a [op] [b] pos) (tBinD g ta tb) := pd_cmp ho ha hb hm
theorem qtcmp {op : CmpOp} {g : GD} (ho : OpD bk X (compareOp op) g) (ha : PD bk X W a ta) (hb : PD bk X W b tb) (hm : behindInMarks op b = false := by first | exact nomark _ | with_unfolding_all rfl) : PDT bk X W (.Compare a [op] [b] pos) (tTst (tBinD g ta tb)) := pdt_cmp ho ha hb hm
theorem qtv (h : PD bk X W a ta) (he : ∀ whole, isTrue a X.env whole = (do let v ← whole; standAt a.pos; holding [v] (truthy v)) := by intro _; rfl) : PDT bk X W a (tTst ta) := pdt_val h he
/-- a builtin of one argument -/
theorem q_len (hm : X.mg "len" = none) (h : PD bk X W e t) (hg : Gl X "len" := by rfl) (he : St1 X e [] := by rfl) : PD bk X W (.Call (.Name "len" p) [e] [] pos) (tCallB gLen (tConsU t tNilU)) :=
  pd_callB cd_len hg hm PySem.boot_len (pdu_cons h pdu_nil he) (by decide) (by decide) he rfl
theorem q_int (hm : X.mg "int" = none) (h : PD bk X W e t) (hg : Gl X "int" := by rfl) (he : St1 X e [] := by rfl) : PD bk X W (.Call (.Name "int" p) [e] [] pos) (tCallB gInt (tConsU t tNilU)) :=
  pd_callTy cd_int hg hm (by decide +kernel) (pdu_cons h pdu_nil he) (by decide) (by decide) he rfl
theorem q_abs (hm : X.mg "abs" = none) (h : PD bk X W e t) (hg : Gl X "abs" := by rfl) (he : St1 X e [] := by rfl) : PD bk X W (.Call (.Name "abs" p) [e] [] pos) (tCallB gAbs (tConsU t tNilU)) :=
  pd_callB cd_abs hg hm (by decide +kernel) (pdu_cons h pdu_nil he) (by decide) (by decide) he rfl
theorem q_repr (xb : XB X W k) (hm : X.mg "repr" = none) (h : PD bk X W e t) (hg : Gl X "repr" := by rfl) (he : St1 X e [] := by rfl) : PD bk X W (.Call (.Name "repr" p) [e] [] pos) (tCallB gRepr (tConsU t tNilU)) :=
  pd_callB (cd_repr xb.sys ⟨k, xb.room⟩ xb.gd) hg hm (by decide +kernel) (pdu_cons h pdu_nil he) (by decide) (by decide) he rfl
theorem q_list (hm : X.mg "list" = none) (h : PD bk X W e t) (hg : Gl X "list" := by rfl) (he : St1 X e [] := by rfl) : PD bk X W (.Call (.Name "list" p) [e] [] pos) (tCallB gList (tConsU t tNilU)) :=
  pd_callTy cd_list hg hm (by decide +kernel) (pdu_cons h pdu_nil he) (by decide) (by decide) he rfl
theorem q_tuple (hm : X.mg "tuple" = none) (h : PD bk X W e t) (hg : Gl X "tuple" := by rfl) (he : St1 X e [] := by rfl) : PD bk X W (.Call (.Name "tuple" p) [e] [] pos) (tCallB gTuple (tConsU t tNilU)) :=
  pd_callTy cd_tuple hg hm (by decide +kernel) (pdu_cons h pdu_nil he) (by decide) (by decide) he rfl
theorem q_gcd {tu : TD} (hm : X.mg "gcd" = some (.builtin "math.gcd")) (h : PD bk X W a ta) (h2 : PD bk X W b tb) (hg : Gl X "gcd" := by rfl) (he : St1 X a [b] := by rfl) (he2 : St1 X b [] := by rfl) (hpl : (backTo pos (starEach [b] X.env)).any (·.1) = false := by rfl) :
    PD bk X W (.Call (.Name "gcd" p) [a, b] [] pos) (tCallB gGcd (tConsU ta (tConsU tb tNilU))) :=
  pd_callImp cd_gcd hg hm (pdu_cons h (pdu_cons h2 pdu_nil he2) he) (by decide) he hpl
theorem q_isa (T : Ty) {y : Str} (hm : X.mg "isinstance" = none) (hm2 : X.mg y = none) (h : PD bk X W e t) (hy : y = Str.ofString T.nm := by rfl) (hg : Gl X "isinstance" := by rfl) (hg2 : Gl X y := by rfl) (he : St1 X e [.Name y p2] := by rfl) :
    PD bk X W (.Call (.Name "isinstance" p) [e, .Name y p2] [] pos) (tIsa T t) := pd_isa T rfl hy hg hm hg2 hm2 h he
theorem q_fn {j n : Nat} {x : Str} {ps : List Str} {s : SpD} {tr : TDA} (xb : XB X W k) (F : FnAt X.prog X.w X.K X.mg X.base bk j x n ps s) (ha : PDA bk X W (e :: es) tr) (hj : j ≤ k := by decide) (hg : Gl X x := by rfl) (hdb : (x == ("__debug__" : Str)) = false := by decide)
    (he : St1 X e es := by rfl) (hpl : (backTo pos (starEach es X.env)).any (·.1) = false := by rfl) : PD bk X W (.Call (.Name x p) (e :: es) [] pos) (tFn n s tr) := by
  obtain ⟨f, fd, F, hm, hk, hb⟩ := F.ex
  exact pd_fn xb.tk (F.mono hj) xb.room xb.gd hg hm hk hb ha hdb he hpl
theorem q_fn0 {j n : Nat} {x : Str} {ps : List Str} {s : SpD} (xb : XB X W k) (F : FnAt X.prog X.w X.K X.mg X.base bk j x n ps s) (hj : j ≤ k := by decide) (hg : Gl X x := by rfl) (hdb : (x == ("__debug__" : Str)) = false := by decide) : PD bk X W (.Call (.Name x p) [] [] pos) (tFn n s tNilD) := by
  obtain ⟨f, fd, F, hm, hk, hb⟩ := F.ex
  exact pd_fn0 xb.tk (F.mono hj) xb.room xb.gd hg hm hk hb hdb
theorem q_fnK {j n : Nat} {x : Str} {ps ks : List Str} {g : {α : Type} → List α → List α} {s : SpD} {tr : TDA} {kws : List Keyword} (xb : XB X W k) (F : FnKw X.prog X.w X.K X.mg X.base bk j x n ps ks g s) (ha : PDK bk X W kws tr) (hg2 : ∀ {α β : Type} (R : α → β → Prop) (xs : List α) (ys : List β), Paired R xs ys → Paired R (g xs) (g ys))
    (hj : j ≤ k := by decide) (hg : Gl X x := by rfl) (hdb : (x == ("__debug__" : Str)) = false := by decide) (hall : (backToKw pos (keywordEach kws X.env)).all (·.1.isSome) = true := by rfl) (hks : (backToKw pos (keywordEach kws X.env)).filterMap (·.1) = ks := by rfl)
    (hpl : ((backTo pos (starEach [] X.env)).any (·.1) || (backToKw pos (keywordEach kws X.env)).any (·.1.isNone)) = false := by rfl) : PD bk X W (.Call (.Name x p) [] kws pos) (tFnK n g s tr) := by
  obtain ⟨f, fd, F, hm, hk, hb⟩ := F.ex
  exact pd_fnK hg2 xb.tk (F.mono hj) xb.room xb.gd hg hm hk hb ha hall hks hdb hpl

/-! statements -/
theorem q_set (i : Nat) {x : Str} (xb : XB X W k) (he : PD bk X W e t) (hi : X.N[i]? = some x := by rfl) (hx : Loc X.env.scope x := by first | exact Or.inl rfl | exact Or.inr rfl) (hf : X.fn x = true ∨ X.env.scope.names.lookup x = some .local := by first | exact .inl rfl | exact .inr rfl)
    (hs : swapsWith e (some (.Name x p)) pos.line X.env = pure false := by rfl) : PSD bk X W (.Assign [.Name x p] e pos) (tSetD i t) := sd_set xb.nd hi hx hf he hs
theorem q_retv (i : Nat) {x : Str} (hN : X.N[i]? = some x := by rfl) (hv : Vis X.env.scope x := by first | exact Or.inl rfl | exact Or.inr (Or.inl rfl) | exact Or.inr (Or.inr rfl)) (hd : (x == ("__debug__" : Str)) = false := by decide)
    (hcd : (x == ("__classdict__" : Str)) = false := by decide) : PSD bk X W (.Return (some (.Name x p)) pos) (tRetV i) := sd_retv hN hv hd hcd
theorem q_drop (he : PD bk X W e t) (hs : swapsWith e none pos.line X.env = pure false := by rfl) : PSD bk X W (.Expr e pos) (tDropD t) := sd_drop he hs
theorem q_append (i : Nat) {x : Str} {p3 : Pos} (he : PD bk X W e t) (hN : X.N[i]? = some x := by rfl) (hv : Vis X.env.scope x := by first | exact Or.inl rfl | exact Or.inr (Or.inl rfl) | exact Or.inr (Or.inr rfl)) (hd : (x == ("__debug__" : Str)) = false := by decide)
    (hcd : (x == ("__classdict__" : Str)) = false := by decide) (hbase : attributeBase (.Name x p) "append" X.env (eval (.Name x p) X.env) = eval (.Name x p) X.env := by rfl)
    (hfew : ((backTo p3 (starEach [e] X.env)).all (fun x => !x.1) && (backToKw p3 (keywordEach [] X.env)).all (fun x => x.1.isSome) && decide ([e].length + ([] : List Keyword).length + (if ([] : List Keyword).isEmpty then 0 else 1) < 30)) = true := by rfl)
    (hline : (p2.endLine == p3.line) = true := by rfl) (hst : St1 X e [] := by rfl) : PSD bk X W (.Expr (.Call (.Attribute (.Name x p) "append" p2) [e] [] p3) pos) (tAppD i t) :=
  sd_append (pe_var hN hv hd hcd) hbase he hfew hline hst
theorem q_extend (i : Nat) {x : Str} {p3 : Pos} (he : PD bk X W e t) (hN : X.N[i]? = some x := by rfl) (hv : Vis X.env.scope x := by first | exact Or.inl rfl | exact Or.inr (Or.inl rfl) | exact Or.inr (Or.inr rfl)) (hd : (x == ("__debug__" : Str)) = false := by decide)
    (hcd : (x == ("__classdict__" : Str)) = false := by decide) (hbase : attributeBase (.Name x p) "extend" X.env (eval (.Name x p) X.env) = eval (.Name x p) X.env := by rfl)
    (hfew : ((backTo p3 (starEach [e] X.env)).all (fun x => !x.1) && (backToKw p3 (keywordEach [] X.env)).all (fun x => x.1.isSome) && decide ([e].length + ([] : List Keyword).length + (if ([] : List Keyword).isEmpty then 0 else 1) < 30)) = true := by rfl)
    (hline : (p2.endLine == p3.line) = true := by rfl) (hst : St1 X e [] := by rfl) : PSD bk X W (.Expr (.Call (.Attribute (.Name x p) "extend" p2) [e] [] p3) pos) (tExtD i t) :=
  sd_extend (pe_var hN hv hd hcd) hbase he hfew hline hst
/-! targets, loops -/
theorem qgn {sl : List Nat} (i : Nat) {x : Str} (xb : XB X W k) (hi : X.N[i]? = some x := by rfl) (hx : Loc X.env.scope x := by first | exact Or.inl rfl | exact Or.inr rfl) (hf : X.fn x = true ∨ X.env.scope.names.lookup x = some .local := by first | exact .inl rfl | exact .inr rfl) (hm : i ∈ sl := by decide) :
    PGD bk X sl (.Name x pos) (gNmD i) := pgd_name xb.nd hi hx hf hm
theorem qgc {sl : List Nat} {t : TGD} {u : TGDs} (h1 : PGD bk X sl e t) (h2 : PGDs bk X sl es u) (hs : (assignEach (e :: es) X.env).map (·.2) = assign e X.env :: (assignEach es X.env).map (·.2) := by rfl) : PGDs bk X sl (e :: es) (gConsD t u) := pgds_cons h1 h2 hs
theorem qgt {sl : List Nat} {n k2 : Nat} {t : TGDs} (xb : XB X W k) (h : PGDs bk X sl es t) (hn : (assignEach es X.env).length = n := by rfl) (hst : (assignEach es X.env).findIdx? (·.1) = none := by rfl) : PGD bk X sl (.Tuple es k2 pos) (gTupD n t) := pgd_tup xb.calm h hn hst
theorem q_for {tg iter : Expr} {body : List Stmt} {ti : TDI} {g : TGD} {ts : TSD} (sl : List Nat) (xb : XB X W k) (hi : PID bk X W true tg iter ti) (hg : PGD bk X sl tg g) (hb : PSsD bk X W body ts)
    (hs : ∀ x, foldedSetIterable iter X.env x = pure x := by intro _; rfl) : PSD bk X W (.For tg iter body [] pos) (tForD ti g ts) := sd_for xb.own xb.calm hi hg hb hs
theorem q_while {c : Expr} {body : List Stmt} {tc : TD} {ts : TSD} (xb : XB X W k) (hc : PDT bk X W c (tTst tc)) (hb : PSsD bk X W body ts) : PSD bk X W (.While c body [] pos) (tWhileD tc ts) := sd_while xb.own hc hb
theorem q_rng1 {tg : Expr} {fz : Bool} {tr : TDU} (hm : X.mg "range" = none) (ha : PDU bk X W [a] tr) (hg : Gl X "range" := by rfl) (hs : starEach [a] X.env = [(false, eval a X.env)] := by rfl) : PID bk X W fz tg (.Call (.Name "range" p) [a] [] pos) (tRng1 tr) := pid_rng1 hg hm ha hs
theorem q_rng2 {tg : Expr} {fz : Bool} {tr : TDU} (hm : X.mg "range" = none) (ha : PDU bk X W [a, b] tr) (hg : Gl X "range" := by rfl) (hs : starEach [a, b] X.env = [(false, eval a X.env), (false, eval b X.env)] := by rfl) (hs2 : starEach [b] X.env = [(false, eval b X.env)] := by rfl) :
    PID bk X W fz tg (.Call (.Name "range" p) [a, b] [] pos) (tRng2 tr) := pid_rng2 hg hm ha hs hs2
theorem q_rng3 {c : Expr} {tg : Expr} {fz : Bool} {tr : TDU} (hm : X.mg "range" = none) (ha : PDU bk X W [a, b, c] tr) (hg : Gl X "range" := by rfl) (hs : starEach [a, b, c] X.env = (false, eval a X.env) :: starEach [b, c] X.env := by rfl) (hpl : (backTo pos (starEach [b, c] X.env)).any (·.1) = false := by rfl) :
    PID bk X W fz tg (.Call (.Name "range" p) [a, b, c] [] pos) (tRng3 tr) := pid_rng3 hg hm ha hs hpl
section
variable {elt tg iter : Expr} {ifs : List Expr} {scope : Scope} {ti : TDI} {g : TGD} {tt : TDT} {te : TD}
abbrev XBlk (X : Cx) (s : Shared) (H : Hp) (scope : Scope) (C : Addr) (cl : List (Str × Addr)) (fp : List Addr) : Cx := X.blk s H scope (compEnvC scope cl C X.env) fp
theorem q_lc (own : List (Str × Nat)) (xb : XB X W k) (hi : PID bk X W false tg iter ti)
    (h : ∀ (s : Shared) (H : Hp) (C : Addr) (cl : List (Str × Addr)) (fp : List Addr), XB (XBlk X s H scope C cl fp) WF k → PGD bk (XBlk X s H scope C cl fp) (own.map (·.2)) tg g ∧ PTsD bk (XBlk X s H scope C cl fp) WF ifs tt ∧ PD bk (XBlk X s H scope C cl fp) WF elt te)
    (ok : blkC X.N X.env.scope scope own = true := by first | rfl | with_unfolding_all rfl) (hs : ∀ x, foldedSetIterable iter X.env x = pure x := by intro _; rfl) :
    PD bk X W (.ListComp elt [⟨tg, iter, ifs, 0⟩] scope pos) (tLcD ti g tt te (own.map (·.2))) :=
  pd_lc xb.calm xb.nd hi (blkOk_by ok) (fun s H C cl fp => (h s H C cl fp (xb.blk ..)).1) (fun s H C cl fp => (h s H C cl fp (xb.blk ..)).2.1) (fun s H C cl fp => (h s H C cl fp (xb.blk ..)).2.2) hs
theorem q_setLc (i : Nat) {y : Str} {py spos : Pos} (own : List (Str × Nat)) (xb : XB X W k) (hi : PID bk X W false tg iter ti)
    (h : ∀ (s : Shared) (H : Hp) (C : Addr) (cl : List (Str × Addr)) (fp : List Addr), XB (XBlk X s H scope C cl fp) WF k → PGD bk (XBlk X s H scope C cl fp) (own.map (·.2)) tg g ∧ PTsD bk (XBlk X s H scope C cl fp) WF ifs tt ∧ PD bk (XBlk X s H scope C cl fp) WF elt te)
    (hy : X.N[i]? = some y := by rfl) (hyl : X.env.scope.names.lookup y = some .local := by rfl) (hsw : swapsWith (.ListComp elt [⟨tg, iter, ifs, 0⟩] scope pos) (some (.Name y py)) spos.line X.env = pure true := by rfl)
    (ok : blkC X.N X.env.scope scope own = true := by first | rfl | with_unfolding_all rfl) (hs : ∀ x, foldedSetIterable iter X.env x = pure x := by intro _; rfl) :
    PSD bk X W (.Assign [.Name y py] (.ListComp elt [⟨tg, iter, ifs, 0⟩] scope pos) spos) (tSetD i (tLcD ti g tt te (own.map (·.2)))) :=
  sd_setLc xb.calm xb.nd hy hyl hsw hi (blkOk_by ok) (fun s H C cl fp => (h s H C cl fp (xb.blk ..)).1) (fun s H C cl fp => (h s H C cl fp (xb.blk ..)).2.1) (fun s H C cl fp => (h s H C cl fp (xb.blk ..)).2.2) hs
end
theorem q_par (i j : Nat) {x y : Str} {ta : TDA} {px py pt : Pos} {kt k2 : Nat} {pt2 : Pos} (xb : XB X W k) (ha : PDS bk X W [a, b] ta) (hi : X.N[i]? = some x := by rfl) (hj : X.N[j]? = some y := by rfl) (hij : i ≠ j := by decide)
    (hx : X.env.scope.names.lookup x = some .local := by rfl) (hy : X.env.scope.names.lookup y = some .local := by rfl)
    (hw : swappedStores [.Tuple [.Name x px, .Name y py] kt pt] (.Tuple [a, b] k2 pt2) X.env = pure (some [x, y]) := by rfl)
    (hs : swapsWithSole [.Tuple [.Name x px, .Name y py] kt pt] (.Tuple [a, b] k2 pt2) pos.line X.env = pure false := by rfl) :
    PSD bk X W (.Assign [.Tuple [.Name x px, .Name y py] kt pt] (.Tuple [a, b] k2 pt2) pos) (tParD i j ta) := sd_par xb.calm xb.nd hi hj hij hx hy ha hw hs
theorem q_asg {tg : Expr} {g : TGD} (sl : List Nat) (he : PD bk X W e t) (hg : PGD bk X sl tg g) (hs : swapsWithSole [tg] e pos.line X.env = pure false := by rfl) (hw : swappedStores [tg] e X.env = pure none := by rfl)
    (h1 : (assignEach [tg] X.env).map (·.2) = [assign tg X.env] := by rfl) : PSD bk X W (.Assign [tg] e pos) (tAsgD t g) := sd_asg he hg hs hw h1
end
end HA

namespace HA
open PySem PySem.Spec PyProof.Rows L2

/-! ### x[::-1] -/
section
variable {prog : Program} {w : World} {A : Around} {E : Value → Shared → Prop} {s : Shared}
theorem adjust_back (n : Nat) : Builtin.Slice.sliceAdjust none none (-1) (n : Int) = ((n : Int) - 1, -1) := by
  have h1 : ((-1 : Int) < 0) := by omega
  unfold Builtin.Slice.sliceAdjust
  simp only [h1, if_true]
theorem places_back (n : Nat) : Builtin.Slice.slicePlaces ((n : Int) - 1) (-1) (-1) = n := by
  unfold Builtin.Slice.slicePlaces
  have h1 : ¬ ((-1 : Int) > 0) := by omega
  have h2 : (- -1 : Int) = 1 := by omega
  simp only [h1, if_false, h2, Int.ediv_one]
  split <;> omega
theorem applied_back {sl : Addr} {vs : Value} {n : Nat} {Q : Int × Int × Nat → Shared → Prop} (hs : s.heap.IsSliceOf sl .none .none vs) (ps : IsPart vs (some (-1)))
    (h : Q ((n : Int) - 1, -1, n) s) : wpAny (model prog w) A (Builtin.Slice.sliceApplied (.ref sl) (pure (n : Int))) Q E s := by
  obtain ⟨os, hos, hcs, hds⟩ := id hs
  unfold Builtin.Slice.sliceApplied Builtin.Slice.sliceFields
  refine wpAny_bind (wpAny_bind (wpAny_field hos hds (x := .none) rfl (wpAny_bind (wpAny_field hos hds (x := .none) rfl (wpAny_bind (wpAny_field hos hds (x := vs) rfl (wpAny_pure ?_)))))))
  refine wpAny_bind (HT.slicePart_ ps ?_)
  show wpAny _ _ (if ((-1 : Int) == 0) = true then _ else _) _ _ s
  rw [if_neg (by decide)]
  refine wpAny_bind (slicePart_none (wpAny_bind (slicePart_none (wpAny_bind (wpAny_pure ?_)))))
  show wpAny _ _ (match Builtin.Slice.sliceAdjust none none (-1) (n : Int) with | (lo, hi) => pure (lo, (-1 : Int), Builtin.Slice.slicePlaces lo hi (-1))) _ _ s
  rw [adjust_back n]
  show wpAny _ _ (pure ((n : Int) - 1, (-1 : Int), Builtin.Slice.slicePlaces ((n : Int) - 1) (-1) (-1))) _ _ s
  rw [places_back]
  exact wpAny_pure h
theorem pick_back (xs : Array Value) : ((List.range xs.size).filterMap fun (m : Nat) => xs[(((xs.size : Int) - 1) + (m : Int) * (-1)).toNat]?).toArray = xs.toList.reverse.toArray := by
  have e1 : (List.range xs.size).filterMap (fun (m : Nat) => xs[(((xs.size : Int) - 1) + (m : Int) * (-1)).toNat]?) = ((List.range xs.size).map fun k => xs.size - 1 - k).filterMap (xs[·]?) := by
    rw [List.filterMap_map]
    have hc : ∀ l : List Nat, (∀ m ∈ l, m < xs.size) → l.filterMap (fun (m : Nat) => xs[(((xs.size : Int) - 1) + (m : Int) * (-1)).toNat]?) = l.filterMap ((xs[·]?) ∘ fun k => xs.size - 1 - k) := fun l => by
      induction l with
      | nil => intro _; rfl
      | cons m r ih =>
        intro h
        have hm := h m List.mem_cons_self
        have e : (((xs.size : Int) - 1) + (m : Int) * (-1)).toNat = xs.size - 1 - m := by omega
        rw [List.filterMap_cons, List.filterMap_cons, ih fun q hq => h q (List.mem_cons_of_mem _ hq)]
        have e2 : ((fun x => xs[x]?) ∘ fun k => xs.size - 1 - k) m = xs[xs.size - 1 - m]? := rfl
        rw [e2, e]
    exact hc _ fun m hm => List.mem_range.mp hm
  rw [e1, PySem.W.krv_range, List.filterMap_reverse, PySem.W.krv_all]
theorem getItem_back {t sl : Addr} {items : Array Value} {vs : Value} {Q : Value → Shared → Prop} (ht : IsTup s.heap t items) (hs : s.heap.IsSliceOf sl .none .none vs) (ps : IsPart vs (some (-1)))
    (h : Q (.ref s.heap.objs.size) { s with heap := s.heap.push { cls := .type "tuple", data := .seq items.toList.reverse.toArray } })
    (hsz : items.size ≤ sizeLine) : wpAny (model prog w) A (getItem (.ref t) (.ref sl)) Q E s := by
  have hfit : sizeOk (.seq items.toList.reverse.toArray) := by
    show items.toList.reverse.toArray.size ≤ sizeLine
    rw [List.size_toArray, List.length_reverse, Array.length_toList]
    exact hsz
  obtain ⟨os, hos, hcs, hds⟩ := id hs
  have hTs : s.TypeIs (.ref sl) "slice" := ⟨os, hos, hcs⟩
  unfold getItem
  try with_reducible refine wpAny_holding ?_
  first | refine wpAny_bind (wpAny_pure ?_) | skip
  refine wpAny_bind (wpAny_sequenceKey ht.typeIs (by decide) ?_)
  refine wpAny_bind (wpAny_callSpecial?_slot (name := Str.ofString "__getitem__") ht.typeIs PyProof.Rows.slot_tuple_getitem (wpAny_call_entry PyProof.Rows.slot_tuple_getitem ht.typeIs PyProof.Rows.entry_tuple_getitem ?_ (PyProof.Rows.args_tuple_getitem _ _)))
  show wpAny _ _ (Builtin.Tuple.tupleItemsOf (.ref t) >>= _) _ _ s
  refine wpAny_bind (PyProof.Rows.tupleItemsOf_ ht ?_)
  refine wpAny_bind (wpAny_typeOf hTs ?_)
  rw [if_pos (by decide)]
  refine wpAny_bind (applied_back hs ps ?_)
  have hno : ¬ ((((items.size : Int) - 1) == 0 && (-1 : Int) == 1 && items.size == items.size) = true) := by
    intro q
    rw [Bool.and_eq_true, Bool.and_eq_true] at q
    exact absurd q.1.2 (by decide)
  show wpAny _ _ (if (((items.size : Int) - 1) == 0 && (-1 : Int) == 1 && items.size == items.size) = true then _ else _) _ _ s
  rw [if_neg hno, pick_back]
  first
    | exact wpAny_bind (m := Builtin.Tuple.tupleExact _) (wpAny_newObj_type (wpAny_pure ⟨_, rfl, wpAny_pure h⟩) hfit)
    | exact wpAny_bind (m := Builtin.Tuple.tupleExact _) (wpAny_newObj_type (wpAny_bind (wpAny_pure (wpAny_pure ⟨_, rfl, wpAny_pure h⟩))) hfit)
    | exact wpAny_bind (wpAny_bind (m := Builtin.Tuple.tupleExact _) (wpAny_newObj_type (wpAny_pure (wpAny_pure ⟨_, rfl, wpAny_pure h⟩)) hfit))
    | exact wpAny_bind (wpAny_bind (m := Builtin.Tuple.tupleExact _) (wpAny_newObj_type (wpAny_pure ⟨_, rfl, wpAny_pure h⟩) hfit))
end
section
variable {X : Cx}
theorem pe_revQ {e : Expr} {te : TE} {k : Nat} {p1 p2 p3 pos : Pos} (he : PE X e te) : PE X (.Subscript e (.Slice none none (some (.UnaryOp .USub (.Constant (.int 1) k p1) p2)) p3) pos)
    (fun σ H Q => te σ H fun x H1 => ∃ a xs, x = .ref a ∧ ((SqL X.K H1 a xs ∧ ∀ p, H1 p = none → Q (.ref p) (upd H1 p (.lst xs.reverse))) ∨ (SqT X.K H1 a xs ∧ ∀ p, H1 p = none → Q (.ref p) (upd H1 p (.tup xs.reverse))))) := by
  refine ⟨fun pins s σ H Q I h => ?_⟩
  refine Subscript_ (thn (he.run pins s σ H _ I h) fun v s1 ⟨x, H1, I1, r1, q1⟩ => ?_)
  obtain ⟨a, xs, ex, q⟩ := q1
  subst ex
  cases r1
  have hst : PO X (some (.UnaryOp .USub (.Constant (.int 1) k p1) p2)) (tPart (tUn (rU fun i => .int (-i)) (tC (.int 1)))) := po_some (pe_un un_neg pe_int)
  refine wpAny_Slice (thn (po_none.run pins s1 σ H1 (fun o H2 => o = none ∧ H2 = H1) I1 ⟨rfl, rfl⟩) fun vl s2 ⟨l, H2, I2, pl, el, e2⟩ => ?_)
  subst el e2
  refine thn (po_none.run pins s2 σ H2 (fun o H3 => o = none ∧ H3 = H2) I2 ⟨rfl, rfl⟩) fun vu s3 ⟨u, H3, I3, pu, eu, e3⟩ => ?_
  subst eu e3
  refine thn (hst.run pins s3 σ H3 (fun o H4 => o = some (-1) ∧ H4 = H3) I3 ⟨1, rfl, -1, rfl, rfl, rfl⟩) fun vs s4 ⟨o, H4, I4, ps, eo, e4⟩ => ?_
  subst eo e4
  have I5 : Inv X pins σ H4 { s4 with heap := s4.heap.push { cls := .type "slice", data := .fields #[vl, vu, vs] } } := I4.kept (t' := s4.toks) fun b ob q => Heap.get?_push_of_some _ q
  show wpAny (model X.prog X.w) X.A (subscriptTail e (.Slice none none (some (.UnaryOp .USub (.Constant (.int 1) k p1) p2)) p3) (.ref a) (.ref s4.heap.objs.size)) (EP X pins σ Q) X.xe { s4 with heap := s4.heap.push { cls := .type "slice", data := .fields #[vl, vu, vs] } }
  rcases q with ⟨hx, q⟩ | ⟨hx, q⟩
  · obtain ⟨its, r, ht, hz⟩ := I5.list hx
    have hlen := r.length
    refine tail_any (ops := [.ref a, .ref s4.heap.objs.size]) ht.isList.typeIs (PySem.slot_list_getitem.lookup) ?_ (by with_unfolding_all rfl)
    refine wpAny_getItem_list_slice ht.isList (Heap.IsSliceOf.new _ vl vu vs) pl pu ps (by decide) ?_ (by rw [List.size_toArray]; omega)
    rw [PySem.W.krv_pick]
    refine ⟨.ref _, _, I5.laid (t' := s4.toks) (o := .lst xs.reverse) (fun b ob q => Heap.get?_push_of_some _ q) (Nat.le_refl _) ?_, rfl, q _ (I5.hok.fresh (Nat.le_refl _))⟩
    exact ⟨by rw [List.length_reverse]; exact hz, _, 0, r.reverse, Heap.get?_push_size _ rfl⟩
  · cases pl
    cases pu
    obtain ⟨its, r, ht, hz⟩ := I5.tuple hx
    have hlen := r.length
    refine tail_any (ops := [.ref a, .ref s4.heap.objs.size]) ht.typeIs (PyProof.Rows.slot_tuple_getitem.lookup) ?_ (by with_unfolding_all rfl)
    refine getItem_back ht (Heap.IsSliceOf.new _ .none .none vs) ps ?_ (by rw [List.size_toArray]; omega)
    refine ⟨.ref _, _, I5.laid (t' := s4.toks) (o := .tup xs.reverse) (fun b ob q => Heap.get?_push_of_some _ q) (Nat.le_refl _) ?_, rfl, q _ (I5.hok.fresh (Nat.le_refl _))⟩
    exact ⟨by rw [List.length_reverse]; exact hz, _, r.reverse, IsTup.new _ _⟩
end
def gRevS : PyData → (RV → Prop) → Prop
  | .list xs, Q => Q (.own (.lst xs.reverse))
  | .tuple xs, Q => Q (.d (.tuple xs.reverse))
  | _, _ => False
section
variable {bk : BoxKind} {X : Cx} {W : WX} {k : Nat} {pos : Pos}
theorem q_revS {e : Expr} {t : TD} {k : Nat} {p1 p2 p3 : Pos} (he : PD bk X W e t) : PD bk X W (.Subscript e (.Slice none none (some (.UnaryOp .USub (.Constant (.int 1) k p1) p2)) p3) pos) (tUnD gRevS t) := PE.imp (pe_revQ he) fun σ H Q q => by
  obtain ⟨S, env, Hz, Qd, Ex, ok, ab, ex, con, t⟩ := q
  refine ⟨S, env, Hz, _, Ex, ok, ab, ex, fun r v H1 S1 q1 e1 r1 => ?_, t⟩
  obtain ⟨x, rx, q2⟩ := r1.rq q1
  have con1 := con.ext ok e1
  cases x with
  | list xs =>
    obtain ⟨a, ws, rfl, ha, ra⟩ := rx.list e1.ok
    exact ⟨a, ws, rfl, .inl ⟨ha, fun p hp => con1.lst e1.ok q2 ra.reverse p hp⟩⟩
  | tuple xs =>
    obtain ⟨a, ws, rfl, ha, ra⟩ := rx.tuple
    exact ⟨a, ws, rfl, .inr ⟨sqT_mono e1.ok.sub ha, fun p hp => con1.tup e1.ok q2 ra.reverse p hp⟩⟩
  | _ => exact q2.elim

/-! ### three names -/
theorem q_par3 (i j l : Nat) {x y z : Str} {a b c : Expr} {ta : TDA} {px py pz pt : Pos} {kt k2 : Nat} {pt2 : Pos} (xb : XB X W k) (ha : PDS bk X W [a, b, c] ta) (hi : X.N[i]? = some x := by rfl) (hj : X.N[j]? = some y := by rfl) (hl : X.N[l]? = some z := by rfl)
    (hij : i ≠ j := by decide) (hil : i ≠ l := by decide) (hjl : j ≠ l := by decide) (hx : X.env.scope.names.lookup x = some .local := by rfl) (hy : X.env.scope.names.lookup y = some .local := by rfl) (hz : X.env.scope.names.lookup z = some .local := by rfl)
    (hw : swappedStores [.Tuple [.Name x px, .Name y py, .Name z pz] kt pt] (.Tuple [a, b, c] k2 pt2) X.env = pure (some [x, y, z]) := by rfl)
    (hs : swapsWithSole [.Tuple [.Name x px, .Name y py, .Name z pz] kt pt] (.Tuple [a, b, c] k2 pt2) pos.line X.env = pure false := by rfl) :
    PSD bk X W (.Assign [.Tuple [.Name x px, .Name y py, .Name z pz] kt pt] (.Tuple [a, b, c] k2 pt2) pos) (tPar3D i j l ta) := PS.imp (ps_par3 xb.calm xb.nd hi hj hl hij hil hjl hx hy hz ha hw hs) fun D σ H q => by
  obtain ⟨S0, Hz, S, env, Dd, ok0, e0, ab, en, t⟩ := q
  refine ⟨S, env, Hz, _, _, e0.ok, ab, en.exOk ok0 e0 ab, fun rs vs H1 S1 q1 e1 r1 => ?_, t⟩
  split at q1
  · obtain ⟨v, w, u, rfl⟩ : ∃ v w u, vs = [v, w, u] := by
      cases r1 with
      | cons _ _ _ t => cases t with
        | cons _ _ _ t => cases t with
          | cons _ _ _ t => cases t; exact ⟨_, _, _, rfl⟩
    exact ⟨v, w, u, rfl, en.nx _ _ S1 _ (Ext.tr ok0 e0 e1) (r1.slots3 hij e1 (Ext.freeZ ok0 e0) ab) q1⟩
  · exact q1.elim
end

/-! ### {k: v, ..} -/
def isKey : PyData → Bool
  | .int _ => true
  | .str _ => true
  | _ => false
theorem key_of {d : PyData} (h : isKey d = true) : ∃ k, keyD k = d := by
  cases d with
  | int i => exact ⟨.inl i, rfl⟩
  | str x => exact ⟨.inr x, rfl⟩
  | _ => cases h
theorem keyD_inj : ∀ {k j : Key}, keyD k = keyD j → k = j
  | .inl _, .inl _, h => by cases h; rfl
  | .inr _, .inr _, h => by cases h; rfl
  | .inl _, .inr _, h => by cases h
  | .inr _, .inl _, h => by cases h
/-- keys that are one -/
def keq : PyData → PyData → Bool
  | .int i, .int j => decide (i = j)
  | .str x, .str y => decide (x = y)
  | _, _ => false
theorem keq_keyD : ∀ k j : Key, keq (keyD k) (keyD j) = decide (k = j)
  | .inl i, .inl j => decide_eq_decide.mpr ⟨fun e => by rw [e], fun e => by cases e; rfl⟩
  | .inr i, .inr j => decide_eq_decide.mpr ⟨fun e => by rw [e], fun e => by cases e; rfl⟩
  | .inl _, .inr _ => rfl
  | .inr _, .inl _ => rfl
abbrev KVs := List (PyData × PyData)
def hasD (kvs : KVs) (k : PyData) : Bool := kvs.any fun kv => keq kv.1 k
def putD (kvs : KVs) (k v : PyData) : KVs := if hasD kvs k = true then kvs.map (fun kv => if keq kv.1 k = true then (kv.1, v) else kv) else kvs ++ [(k, v)]
def getD (kvs : KVs) (k : PyData) : Option PyData := (kvs.find? fun kv => keq kv.1 k).map (·.2)
def mergeD (kvs more : KVs) : KVs := more.foldl (fun acc kv => putD acc kv.1 kv.2) kvs
section
variable {K : PySem.W.Frag} {F : Hp}
theorem RpKv.has : ∀ {ds : KVs} {vs : List (Key × V)} (k : Key), RpKv K F vs ds → (vs.any fun kv => decide (kv.1 = k)) = hasD ds (keyD k)
  | [], _, _, h => by cases h; rfl
  | _ :: ds, _, k, h => by
    cases h with
    | @cons k2 v kvs d ds h1 h2 =>
      show (decide (k2 = k) || _) = (keq (keyD k2) (keyD k) || _)
      rw [keq_keyD, RpKv.has k h2]
      rfl
theorem RpKv.append : ∀ {ds es : KVs} {vs ws : List (Key × V)}, RpKv K F vs ds → RpKv K F ws es → RpKv K F (vs ++ ws) (ds ++ es)
  | [], _, _, _, h, g => by cases h; exact g
  | _ :: _, _, _, _, h, g => by
    cases h with
    | cons h1 h2 => exact .cons h1 (RpKv.append h2 g)
theorem RpKv.over {k : Key} {v : V} {x : PyData} (r : Rp K F v x) : ∀ {ds : KVs} {vs : List (Key × V)}, RpKv K F vs ds → RpKv K F (vs.map fun kv => if kv.1 = k then (kv.1, v) else kv) (ds.map fun kv => if keq kv.1 (keyD k) = true then (kv.1, x) else kv)
  | [], _, h => by cases h; exact .nil
  | _ :: ds, _, h => by
    cases h with
    | @cons k2 v2 kvs d ds h1 h2 =>
      rw [List.map_cons, List.map_cons]
      by_cases e : k2 = k
      · have e2 : keq (keyD k2) (keyD k) = true := by rw [keq_keyD]; exact decide_eq_true e
        simp only [if_pos e, if_pos e2]
        exact .cons r (RpKv.over r h2)
      · have e2 : ¬ keq (keyD k2) (keyD k) = true := by rw [keq_keyD]; exact fun z => e (of_decide_eq_true z)
        simp only [if_neg e, if_neg e2]
        exact .cons h1 (RpKv.over r h2)
theorem RpKv.put {ds : KVs} {vs : List (Key × V)} {k : Key} {v : V} {x : PyData} (h : RpKv K F vs ds) (r : Rp K F v x) : RpKv K F (putK vs k v) (putD ds (keyD k) x) := by
  unfold putK putD
  rw [h.has k]
  split
  · exact RpKv.over r h
  · exact h.append (.cons r .nil)
theorem RpKv.merge : ∀ {es ds : KVs} {ws vs : List (Key × V)}, RpKv K F ws es → RpKv K F vs ds → RpKv K F (mergeK vs ws) (mergeD ds es)
  | [], _, _, _, h, g => by cases h; exact g
  | _ :: es, ds, _, vs, h, g => by
    cases h with
    | @cons k2 v2 kvs d _ h1 h2 => exact RpKv.merge (es := es) (ds := putD ds (keyD k2) d) (ws := kvs) (vs := putK vs k2 v2) h2 (g.put h1)
theorem RpKv.get : ∀ {ds : KVs} {vs : List (Key × V)} {k : Key} {x : PyData}, RpKv K F vs ds → HA.getD ds (keyD k) = some x → ∃ v, valV vs k = some v ∧ Rp K F v x
  | [], _, _, _, h, e => by cases e
  | _ :: ds, _, k, x, h, e => by
    cases h with
    | @cons k2 v2 kvs d ds h1 h2 =>
      by_cases z : k2 = k
      · have z2 : keq (keyD k2) (keyD k) = true := by rw [keq_keyD]; exact decide_eq_true z
        have e' : some d = some x := by simpa [HA.getD, List.find?_cons, z2] using e
        cases e'
        exact ⟨v2, valV_pos z, h1⟩
      · have z2 : keq (keyD k2) (keyD k) = false := by rw [keq_keyD]; exact decide_eq_false z
        have e' : HA.getD ds (keyD k) = some x := by simpa [HA.getD, List.find?_cons, z2] using e
        obtain ⟨v, h3, h4⟩ := RpKv.get h2 e'
        exact ⟨v, by rw [valV_neg z]; exact h3, h4⟩
theorem RpKv.getN : ∀ {ds : KVs} {vs : List (Key × V)} {k : Key}, RpKv K F vs ds → HA.getD ds (keyD k) = none → valV vs k = none
  | [], _, _, h, e => by cases h; rfl
  | _ :: ds, _, k, h, e => by
    cases h with
    | @cons k2 v2 kvs d ds h1 h2 =>
      by_cases z : k2 = k
      · have z2 : keq (keyD k2) (keyD k) = true := by rw [keq_keyD]; exact decide_eq_true z
        simp [HA.getD, List.find?_cons, z2] at e
      · have z2 : keq (keyD k2) (keyD k) = false := by rw [keq_keyD]; exact decide_eq_false z
        have e' : HA.getD ds (keyD k) = none := by simpa [HA.getD, List.find?_cons, z2] using e
        rw [valV_neg z]
        exact RpKv.getN h2 e'
theorem Rp.key {k : Key} {v : V} (h : Rp K F v (keyD k)) : v = kV k := by
  cases k with
  | inl i => cases h; rfl
  | inr x => cases h; rfl
end
abbrev TDK := En → (KVs → Prop) → (Err → Prop) → Prop
def kNilD : TDK := fun _ Q _ => Q []
def kConsD (tk tv : TD) (r : TDK) : TDK := fun env Q Ex => tk env (fun rk => rk.use fun x => isKey x = true ∧ tv env (fun rv => rv.arg fun rv' => match rv' with
  | .d y => r env (fun kvs => Q ((x, y) :: kvs)) Ex
  | _ => False) Ex) Ex
def tDispD (t : TDK) : TD := fun env Q Ex => t env (fun kvs => Q (.own (.dic (mergeD [] kvs)))) Ex
/-- the pairs, evaluated; the new dict's address p is to be left alone -/
def PKv (bk : BoxKind) (X : Cx) (W : WX) (pos : Pos) (ks : List (Option Expr)) (vs : List Expr) (t : TDK) : Prop := ∃ trs, PPs X pos ks vs trs ∧ ∀ (σ : Sg) (S : AS) (env : En) (Hz H : Hp) (Qd : KVs → Prop) (Ex : Err → Prop) (Q : List (V × V) → Hp → Prop),
  AOk bk S H → Abs X.K S Hz H σ env → ExOk bk X W S σ H Ex → (∀ ds ws H' S', Qd ds → Ext bk S S' H H' → ws.length = ks.length → RpKv X.K S'.F ws ds → Q (ws.map fun kv => (kV kv.1, kv.2)) H') → t env Qd Ex → tPairs trs σ H Q
section
variable {bk : BoxKind} {X : Cx} {W : WX} {pos : Pos} {e f : Expr} {ks : List (Option Expr)} {vs : List Expr} {tk tv : TD} {t : TDK}
theorem pkv_nil : PKv bk X W pos [] [] kNilD := ⟨[], pps_nil, fun σ S env Hz H Qd Ex Q ok ab ex con t => con [] [] H S t (Ext.refl ok) rfl .nil⟩
theorem pkv_cons (hk : PD bk X W e tk) (hv : PD bk X W f tv) (hr : PKv bk X W pos ks vs t) : PKv bk X W pos (some e :: ks) (f :: vs) (kConsD tk tv t) := by
  obtain ⟨trs, pr, hr⟩ := hr
  refine ⟨_, pps_cons hk hv pr, fun σ S env Hz H Qd Ex Q ok ab ex con q => ?_⟩
  refine ⟨S, env, Hz, _, Ex, ok, ab, ex, fun r v H1 S1 q1 e1 r1 => ?_, q⟩
  obtain ⟨x, rx, hx, q2⟩ := r1.rq q1
  obtain ⟨key, rfl⟩ := key_of hx
  refine ⟨S1, env, Hz, _, Ex, e1.ok, ab.ext e1, ex.ext ok e1, fun r' v' H2 S2 q3 e2 r2 => ?_, q2⟩
  obtain ⟨S3, r3, e3, ra, q4, _⟩ := r2.arg e1.ok e2 q3
  have e13 := Ext.trans ok e1 e3
  have ek : v = kV key := by
    rcases rx with h | ⟨a, o, rfl, _, h, z⟩ | ⟨a, ns, rfl, h, z⟩
    · exact h.key
    · cases key <;> cases o <;> cases z
    · cases key <;> cases z
  cases r3 with
  | d y =>
    refine hr σ S3 env Hz H2 _ Ex _ e3.ok (ab.ext e13) (ex.ext ok e13) (fun ds ws H4 S4 q5 e4 l4 r4 => ?_) q4
    have := con _ ((key, v') :: ws) H4 S4 q5 (Ext.trans ok e13 e4) (by rw [List.length_cons, List.length_cons, l4]) (.cons (Rp.mono e4.fz ra) r4)
    rw [ek]
    exact this
  | own o => exact q4.elim
  | bor o => exact q4.elim
  | box => exact q4.elim
  | scr ns => exact q4.elim
theorem pd_disp (h : PKv bk X W pos ks vs t) (hall : ks.all (·.isSome) = true) (hl : ks.length = vs.length) (h0 : ks ≠ []) (h15 : ks.length ≤ 15) : PD bk X W (.Dict ks vs pos) (tDispD t) := by
  obtain ⟨trs, pr, h⟩ := h
  refine PE.imp (pe_disp pr hall hl h0 h15) fun σ H Q q => ?_
  obtain ⟨S, env, Hz, Qd, Ex, ok, ab, ex, con, t⟩ := q
  intro p hp
  have lp : p ∉ S.l := fun m => ok.there m hp
  have e0 := Ext.laid (o := .dK []) ok hp
  refine h σ S env Hz _ _ Ex _ e0.ok (ab.ext e0) (ex.ext ok e0) (fun ds ws H1 S1 q1 e1 l1 r1 => ?_) t
  have hp1 : H1 p = some (.dK []) := e1.kp _ _ upd_same lp
  have f1 : S1.F p = none := by
    cases z : S1.F p with
    | none => rfl
    | some w =>
      have z2 := e1.nw p (ok.free hp) (by rw [z]; exact nofun)
      rw [upd_same] at z2; cases z2
  have l2 : p ∉ S1.l := by rw [e1.el]; exact lp
  refine ⟨hp1, ws, rfl, by omega, ?_⟩
  exact con _ _ _ _ q1 ((Ext.trans ok e0 e1).write hp f1 l2) ⟨p, rfl, hp, l2, f1, _, upd_same, r1.merge .nil⟩
theorem q_disp (h : PKv bk X W pos ks vs t) (hall : ks.all (·.isSome) = true := by rfl) (hl : ks.length = vs.length := by rfl) (h0 : ks ≠ [] := by exact nofun) (h15 : ks.length ≤ 15 := by decide) : PD bk X W (.Dict ks vs pos) (tDispD t) := pd_disp h hall hl h0 h15
end

/-! ### x[k], of a dict, too -/
def gIx : GD := fun x y Q => match x with
  | .dict kvs => isKey y = true ∧ ∃ z, getD kvs y = some z ∧ Q (.d z)
  | x => gIx0 x y Q
theorem ix_dK {X : Cx} (hu : X.A.units + 1 < cLine) : IxR X (fun x y H Q => ∃ a v, x = .ref a ∧ DGet H a y (some v) ∧ Q v H) := by
  intro value slice pins s σ H x y v u Q I rx ry h hs
  obtain ⟨a, z, rfl, g, q⟩ := h
  obtain rfl : v = Value.ref a := rx
  exact tail_any (dict_typeIs I g) PySem.F.slot_dict_getitem.lookup (d_getItem hu I g ry fun w' s3 I3 rw' => ⟨z, H, I3, rw', q⟩) hs
theorem Rq.keyV {K : PySem.W.Frag} {S : AS} {H : Hp} {v : V} {k : Key} (h : Rq K S H v (keyD k)) : v = kV k := by
  rcases h with h | ⟨a, o, rfl, _, h, z⟩ | ⟨a, ns, rfl, h, z⟩
  · exact h.key
  · cases k <;> cases o <;> cases z
  · cases k <;> cases z
section
variable {bk : BoxKind} {X : Cx} {W : WX} {k : Nat} {pos : Pos} {a b : Expr} {ta tb : TD}
theorem ix_any (hu : X.A.units + 1 < cLine) : IxD bk X gIx := by
  intro value slice pins s σ H x y v u Q I rx ry h hsub
  obtain ⟨S, dx, dy, Qd, ok, hx, hy, con, g⟩ := h
  cases dx with
  | dict kvs =>
    obtain ⟨hk, z, hz, g⟩ := g
    obtain ⟨key, rfl⟩ := key_of hk
    obtain ⟨p, ws, rfl, hp, rp⟩ := hx.rr.dict ok.sub
    obtain ⟨w, hw, rw'⟩ := rp.get hz
    have ey := hy.keyV
    exact ix_dK hu value slice pins s σ H _ y v u Q I rx ry ⟨p, w, rfl, by rw [ey, ← hw]; exact DGet.k hp, con.data ok g rw'⟩ hsub
  | _ => exact ix_data value slice pins s σ H x y v u Q I rx ry ⟨S, _, dy, Qd, ok, hx, hy, con, g⟩ hsub
theorem XB.u1 {X : Cx} {W : WX} {k : Nat} (x : XB X W k) : X.A.units + 1 < cLine := by have := x.room.un; omega
theorem q_ix (xb : XB X W k) (ha : PD bk X W a ta) (hb : PD bk X W b tb) (hs : PlainIx b := by first | exact (fun _ _ => rfl)) : PD bk X W (.Subscript a b pos) (tBinD gIx ta tb) :=
  PE.imp (pe_ix (ix_any xb.u1) ha hb hs) fun _ _ _ h => two_data h
end
end HA

namespace HA
open PySem PySem.Spec PyProof.Rows L2

/-! ### the law: its box is made, then it draws -/
def spLaw (K : PySem.W.Frag) : Sp := fun vs H Q _ => ∃ (a : Addr) (ns : List Int), vs = [.ref a] ∧ SqL K H a (ns.map V.int) ∧ ns.length ≤ 63 ∧ ∀ H', Q (.bl true) H'
/-- what the law's end is: True -/
def lawEnds : SE := ⟨fun _ => False, fun r => r = .d (.bool true), fun _ => False, fun _ => False, fun _ _ => False⟩
def lawEnv (m : Nat) : En := none :: some .box :: List.replicate (m - 2) none
section
variable {P : Program} {w : World} {K : PySem.W.Frag} {mg : Str → Option Value} {base : Heap} {k : Nat} {f : Addr} {fd : FuncData} {bk : BoxKind}
/-- a start at which all is as it stands but for the box -/
theorem restart {X : Cx} {W : WX} {D : Ends} {t : TSD} {σ : Sg} {H : Hp} {b : Addr} {l : List Addr} {Dd : SE} {env : En} (hb : bk.ok H b l) (hl : l ≠ []) (hlen : env.length = σ.length)
    (henv : ∀ (i : Nat) (r : RV), env[i]? = some (some r) → r = .box ∧ σ[i]? = some (some (.ref b)))
    (en : EndsOk bk X W ⟨fun a => if a ∈ l then none else H a, b, l⟩ H D Dd) (q : t Dd env) : liftS bk X W t D σ H := by
  have ok : AOk bk ⟨fun a => if a ∈ l then none else H a, b, l⟩ H := by
    refine ⟨fun a u h => ?_, fun a m => ?_, .inr hb⟩
    · have h' : (if a ∈ l then none else H a) = some u := h
      split at h'
      · cases h'
      · exact h'
    · show (if a ∈ l then none else H a) = none
      rw [if_pos m]
  refine ⟨⟨fun a => if a ∈ l then none else H a, b, l⟩, H, ⟨fun a => if a ∈ l then none else H a, b, l⟩, env, Dd, ok.box, Ext.refl ok, ⟨hlen, fun i r h => ?_, fun i j o o' v _ h => ?_⟩, en, q⟩
  · obtain ⟨rfl, e⟩ := henv i r h
    exact ⟨_, e, hl, rfl⟩
  · have := (henv i _ h).1
    cases this
theorem FnG.law {N : List Str} {st s0 : Stmt} {rest : List Stmt} {D : TSD} {spBox : SpD} {boxOk : Ow → Prop} (F : Fun K "law" "law" st f fd) (S : FnScope N ["script"] (defScope st)) (hN : 2 ≤ N.length) (hbody : defBody st = s0 :: rest)
    (b0 : ∀ (cdv : Value) (A : Around) (outer : List Env) (s : Shared) (H : Hp) (E : XK), Room k (A.deeper (envOfC "law" (defScope st) s.heap.objs.size f cdv)) → A.guards = some [] →
      PSD bk (cxOf (L2.CX P w) P w K mg base N "law" (defScope st) f cdv A outer s H E) (WOf E) s0 (tSetD 1 (tFn 1 spBox (tConsD (tVarD 0) tNilD))) ∧
      PSsD bk (cxOf (L2.CX P w) P w K mg base N "law" (defScope st) f cdv A outer s H E) (WOf E) rest D)
    (hbox : ∀ ns Q Ex, ns.length ≤ 63 → (∀ o, boxOk o → Q (.own o)) → spBox [.scr ns] Q Ex)
    (hk : ∀ (F H : Hp) (b : Addr) (o : Ow), boxOk o → OwR K F H b o → F b = none → Same F H → ∃ l, l ≠ [] ∧ bk.ok H b l)
    (hd : D lawEnds (lawEnv N.length)) : FnG P w K mg base (k + 1) f fd ["script"] (spLaw K) :=
  FnG.body F S (fun vs H Q E h => by obtain ⟨a, ns, rfl, _⟩ := h; rfl) fun cdv A outer s H vs Q E hr hg hsp => by
    obtain ⟨a, ns, rfl, hS, hlen, q⟩ := hsp
    obtain ⟨h0, h1⟩ := b0 cdv A outer s H E hr hg
    rw [hbody]
    refine ⟨_, pss_cons h0 h1, ?_⟩
    have ok : AOk bk ⟨H, 0, []⟩ H := ⟨Same.refl _, fun a m => (nomatch m), .inl rfl⟩
    have ra : RArgs K ⟨H, 0, []⟩ [.ref a] [.scr ns] := .cons ⟨a, rfl, hS⟩ .nil
    refine ⟨⟨H, 0, []⟩, H, ⟨H, 0, []⟩, startD N.length [.scr ns], ⟨fun env => ∃ o, boxOk o ∧ env = (startD N.length [.scr ns]).set 1 (some (.own o)), fun _ => False, fun _ => False, fun _ => False, fun _ _ => False⟩, ok.box, Ext.refl ok, abs_start ra, ⟨?_, ?_, ?_, ?_, ?_⟩, ?_⟩
    · rintro σ' H' S' env' e' ab' ⟨o, ho, rfl⟩
      have l1 : 1 < (startD N.length [RV.scr ns]).length := by simp [startD]; omega
      obtain ⟨v, hv, b, rfl, hz, hl, hf, ow⟩ := ab'.at_ 1 (.own o) (List.getElem?_set_self l1)
      obtain ⟨l, hl0, hb⟩ := hk S'.F H' b o ho ow hf e'.ok.sub
      have hlσ : σ'.length = N.length := by rw [← ab'.len]; simp [startD]; omega
      refine restart (env := lawEnv N.length) (Dd := lawEnds) hb hl0 (by rw [hlσ]; simp [lawEnv]; omega) (fun i r hi => ?_) ⟨?_, ?_, ?_, ?_, ?_⟩ hd
      · match i with
        | 0 => simp [lawEnv] at hi
        | 1 => simp [lawEnv] at hi; exact ⟨hi.symm, hv⟩
        | i + 2 =>
          have : (List.replicate (N.length - 2) (none : Option RV))[i]? = some (some r) := by simpa [lawEnv] using hi
          rw [List.getElem?_replicate] at this
          split at this <;> cases this
      · exact fun _ _ _ _ _ _ h => h.elim
      · rintro r v H2 S2 _ rr rfl
        cases rr
        exact q H2
      · exact fun _ _ _ _ _ _ h => h.elim
      · exact fun _ _ _ _ _ _ h => h.elim
      · exact fun _ _ _ _ _ _ _ _ _ _ h => h.elim
    · exact fun _ _ _ _ _ _ h => h.elim
    · exact fun _ _ _ _ _ _ h => h.elim
    · exact fun _ _ _ _ _ _ h => h.elim
    · exact fun _ _ _ _ _ _ _ _ _ _ h => h.elim
    · have e0 : enGet (startD N.length [.scr ns]) 0 = fun k => k (.scr ns) := rfl
      unfold tSetD tFn tConsD tVarD tNilD
      rw [e0]
      exact ⟨rfl, hbox ns _ _ hlen fun o ho => ⟨o, ho, rfl⟩⟩
end

/-! ### the row's end -/
theorem law_callG {P : Program} {w : World} {K : PySem.W.Frag} {mg mb : Str → Option Value} {k : Nat} {fa a : Addr} {fd : FuncData} {x : Str} {sp : Sp} {t : Shared} {us : List Value} {ns : List Int}
    (KX : K.In t.heap) (hns : t.heap.Ns mainGlobals mg) (hb : t.heap.Ns builtinsNs mb) (hbb : ∀ x : Str, x ≠ "__name__" → mb x = bootBuiltins x) (hlim : t.heap.NoLimit) (hg : t.gens = #[])
    (ha : t.heap.get? a = some { cls := .type "list", data := .seq us.toArray }) (hi : IntsAre us ns) (hl : ns.length ≤ sizeLine) (hr : Room k callerA)
    (F : ∀ base : Heap, K.In base → base.Ns mainGlobals mg → FnG P w K mg base k fa fd [x] sp) (hbind : ∀ (s : Shared) (u : Value), BindsTo s fd ⟨[u], []⟩ [(x, u)])
    (hsp : ∀ H : Hp, SqL K H a (ns.map V.int) → sp [.ref a] H (fun v _ => v = .bl true) fun _ _ _ => False) :
    codeAny (model P w) callerA (.call (.ref fa) ⟨[.ref a], []⟩) (fun r s' => r = .ok (.ret (.bool true)) ∧ OldK t.heap s'.heap ∧ s'.os = t.os ∧ AllBare s'.gens) t := by
  have rv := vals_ints hi
  have go : ∀ H : Hp, Only H → SqL K H a (ns.map V.int) → HOk P w H t.heap → (∀ b, H b ≠ none → b = a) → (H a ≠ none → K.lookup a = none) → codeAny (model P w) callerA (.call (.ref fa) ⟨[.ref a], []⟩) (fun r s' => r = .ok (.ret (.bool true)) ∧ OldK t.heap s'.heap ∧ s'.os = t.os ∧ AllBare s'.gens) t := by
    intro H only hS hok one hK
    have shown : ∀ {b : Addr} {o : Obj}, t.heap.get? b = some o → H b = none → (hidT t.heap H).get? b = some o := fun e n => hidT_get e n
    have noA : ∀ {b : Addr} {o : Obj} {es : Array DictEntry} {ep : Nat}, t.heap.get? b = some o → o.data = .dict es ep → H b = none := fun {b o es ep} e d => by
      cases q : H b with
      | none => rfl
      | some u =>
        obtain rfl := one b (by rw [q]; exact nofun)
        rw [ha] at e
        cases e
        exact absurd (show Data.seq us.toArray _ = Data.dict es ep from d) nofun
    have names : ∀ {b : Addr} {m : Str → Option Value}, t.heap.Ns b m → (hidT t.heap H).Ns b m := fun {b m} ⟨o, es, ep, e, d, r⟩ => ⟨o, es, ep, shown e (noA e d), d, r⟩
    have kin : K.In (hidT t.heap H) := fun b o e => shown (KX b o e) (by
      cases q : H b with
      | none => rfl
      | some u =>
        obtain rfl := one b (by rw [q]; exact nofun)
        rw [hK (by rw [q]; exact nofun)] at e
        cases e)
    have md : Mod K mg (hidT t.heap H) := ⟨kin, names hns, ⟨mb, names hb, hbb⟩, let ⟨mc, h1, h2⟩ := hlim; ⟨mc, names h1, h2⟩⟩
    have e0 : Env0 P w K mg (hidT t.heap H) callerA [] t H := ⟨rfl, md, fun b o e => of_hidT e, Nat.le_of_eq (hidT_size _ _), trivial, fun b z => (nomatch z), hok, .of_eq hg⟩
    refine codeAny_mono ((F _ kin (names hns)).run callerA [] t H ⟨[.ref a], []⟩ [.ref a] [.ref a] _ _ hr rfl e0 (hbind t (.ref a)) (.cons rfl .nil) (hsp H hS)) fun r s' h => ?_
    cases r with
    | error e =>
      obtain ⟨_, _, _, _, _, _, _, _, _, _, _, _, z⟩ := h
      exact z.elim
    | ok fl =>
      cases fl with
      | next => exact False.elim h
      | brk => exact False.elim h
      | cont => exact False.elim h
      | ret u =>
        obtain ⟨v, H', os, bare, un, hok', r', q⟩ := h
        obtain rfl : v = .bl true := q
        obtain rfl : u = Value.bool true := r'
        refine ⟨rfl, OldK.of_keep fun b o e => ?_, os, bare⟩
        cases q : H b with
        | none => exact un.keep b o e q (fun z => by cases z) (by simp)
        | some u =>
          rcases only b with z | ⟨ob, xs, z⟩
          · rw [q] at z; cases z
          · obtain ⟨e1, _⟩ := hok b _ z
            obtain ⟨e2, _⟩ := hok' b _ (un.frzs b ob _ z)
            rw [e] at e1
            cases e1
            exact e2
  cases hk : K.lookup a with
  | some o =>
    have e := KX a o hk
    rw [ha] at e
    cases e
    exact go (fun _ => none) (fun _ => .inl rfl) (.inr ⟨_, us.toArray, _, hk, rfl, rfl, rfl, by rw [List.size_toArray, hi.length]; exact hl, by simpa using rv⟩) (fun b u z => by cases (show (none : Option HO) = some u from z)) (fun b z => absurd rfl z) fun z => absurd rfl z
  | none =>
    have at_ : ∀ b u, (if b = a then some (HO.frz { cls := .type "list", data := .seq us.toArray } (.lst (ns.map V.int))) else none) = some u → b = a ∧ u = HO.frz { cls := .type "list", data := .seq us.toArray } (.lst (ns.map V.int)) := fun b u z => by
      split at z
      · cases z; exact ⟨by assumption, rfl⟩
      · cases z
    refine go (fun b => if b = a then some (.frz { cls := .type "list", data := .seq us.toArray } (.lst (ns.map V.int))) else none) (fun b => ?_) (.inl (.inr ⟨{ cls := .type "list", data := .seq us.toArray }, if_pos rfl⟩)) (fun b u z => ?_) (fun b z => ?_) fun _ => hk
    · by_cases e : b = a
      · exact .inr ⟨_, _, if_pos e⟩
      · exact .inl (if_neg e)
    · obtain ⟨rfl, rfl⟩ := at_ b u z
      exact ⟨ha, by rw [List.length_map]; exact hl, us, _, rv, ha⟩
    · by_cases e : b = a
      · exact e
      · exact absurd (if_neg e) z
theorem walk_ofG {l : PySem.W.OpenLaw} {k : Nat} {q : Program} {loose : List Str} {XP : (Str → Option Value) → Heap → Prop} {YP : World → Heap → Prop} {d : DefRec} {K : Params → PySem.W.Frag} {x : Str}
    (hn : l.most = some 63) (hdf : d.params.defaults = []) (hr : Room k callerA) (hY : ∀ (w : World) (h : Heap), YP w h → (K w.params).In h)
    (F : ∀ (w : World) (mg : Str → Option Value) (fa : Addr) (h : Heap), (K w.params).In h → h.Ns mainGlobals mg → mg d.name = some (.ref fa) →
      ∃ fd : FuncData, (∀ (s : Shared) (u : Value), BindsTo s fd ⟨[u], []⟩ [(x, u)]) ∧ ∀ base : Heap, (K w.params).In base → base.Ns mainGlobals mg → FnG l.prog w (K w.params) mg base k fa fd [x] (spLaw (K w.params))) :
    PySem.W.WalkO q loose XP YP l.row.toRowW d [] (fun f vs => PySem.call f vs) := by
  refine Att.attach_call hn hdf fun w s₀ s₁ mg mb fa o pm cd doc a vs ns G Y ho hd hcd hmg hobj hints hlen hg => ?_
  have KX := hY w _ Y
  obtain ⟨fd, hb, hF⟩ := F w mg fa _ KX G.T.g hmg
  exact law_callG KX G.T.g G.T.b G.T.builtins G.T.nolimit hg hobj hints (Nat.le_trans hlen (by decide)) hr hF hb fun H hS => ⟨a, ns, rfl, hS, hlen, fun _ => rfl⟩
end HA

namespace HA
open PySem PySem.Spec PyProof.Rows L2

/-! ### reading with everything frozen -/
section
variable {bk : BoxKind} {X : Cx} {W : WX} {σ : Sg} {H : Hp} {env : En}
/-- the slots as data of the heap as it stands -/
def AllD (K : PySem.W.Frag) (H : Hp) (σ : Sg) (env : En) : Prop := env.length = σ.length ∧ ∀ (i : Nat) (r : RV), env[i]? = some (some r) → ∃ v x, σ[i]? = some (some v) ∧ r = .d x ∧ Rp K H v x
theorem aok_all : AOk bk ⟨H, 0, []⟩ H := ⟨Same.refl _, fun a m => (nomatch m), .inl rfl⟩
theorem AllD.nil {K : PySem.W.Frag} {H : Hp} : AllD K H [] [] := ⟨rfl, fun i r e => by simp at e⟩
theorem AllD.no {K : PySem.W.Frag} {H : Hp} {σ : Sg} {env : En} {v : Option V} (h : AllD K H σ env) : AllD K H (v :: σ) (none :: env) := ⟨by simp [h.1], fun i r e => by
  cases i with
  | zero => simp at e
  | succ i => simpa using h.2 i r (by simpa using e)⟩
theorem AllD.da {K : PySem.W.Frag} {H : Hp} {σ : Sg} {env : En} {v : V} {x : PyData} (r : Rp K H v x) (h : AllD K H σ env) : AllD K H (some v :: σ) (some (.d x) :: env) := ⟨by simp [h.1], fun i r' e => by
  cases i with
  | zero => simp at e; subst e; exact ⟨v, x, rfl, rfl, r⟩
  | succ i => simpa using h.2 i r' (by simpa using e)⟩
theorem AllD.abs (h : AllD X.K H σ env) : Abs X.K ⟨H, 0, []⟩ H H σ env := by
  refine ⟨h.1, fun i r e => ?_, fun i j o o' v _ e => ?_⟩
  · obtain ⟨v, x, e1, rfl, r⟩ := h.2 i r e
    exact ⟨v, e1, r⟩
  · obtain ⟨v, x, e1, z, r⟩ := h.2 i _ e
    cases z
theorem pureE {t : TD} {Q : VK} (h : AllD X.K H σ env) (q : t env (fun r => ∃ x, r = .d x ∧ ∀ v H', Same H H' → (∃ F, Same F H' ∧ Rp X.K F v x) → Q v H') (fun _ => False)) : liftE bk X W t σ H Q :=
  ⟨⟨H, 0, []⟩, env, H, _, _, aok_all, h.abs, fun _ _ _ _ _ z => z.elim, fun r v H' S' q e rr => by
    obtain ⟨x, rfl, q⟩ := q
    exact q v H' (fun a o ha => e.kp a o ha (by intro m; cases m)) ⟨_, e.ok.sub, rr⟩, q⟩
theorem pureI {t : TD} {Q : VK} (h : AllD X.K H σ env) (q : t env (fun r => ∃ z : Int, r = .d (.int z) ∧ ∀ H', Same H H' → Q (.int z) H') (fun _ => False)) : liftE bk X W t σ H Q :=
  ⟨⟨H, 0, []⟩, env, H, _, _, aok_all, h.abs, fun _ _ _ _ _ z => z.elim, fun r v H' S' q e rr => by
    obtain ⟨z, rfl, q⟩ := q
    cases rr
    exact q H' (fun a o ha => e.kp a o ha (by intro m; cases m)), q⟩
theorem pureT {t : TDT} {Q : Bool → Hp → Prop} (h : AllD X.K H σ env) (q : t env (fun b => ∀ H', Same H H' → Q b H') (fun _ => False)) : liftT bk X W t σ H Q :=
  ⟨⟨H, 0, []⟩, env, H, _, _, aok_all, h.abs, fun _ _ _ _ _ z => z.elim, fun b H' S' q e => q H' (fun a o ha => e.kp a o ha (by intro m; cases m)), q⟩
end
theorem Sm.of {i : Int} (h : i.natAbs < 2 ^ 64) : Sm i := Nat.lt_of_lt_of_le h (Nat.pow_le_pow_right (by decide) (by decide))
theorem ints_can (gs : List Int) : PyData.canLayAll0 (gs.map PyData.int) = true := by
  induction gs with
  | nil => rfl
  | cons z r ih => show (true && PyData.canLayAll0 (r.map PyData.int)) = true; rw [ih]; rfl
theorem ints_depth (gs : List Int) : PyData.depthAll (gs.map PyData.int) = 0 := by
  induction gs with
  | nil => rfl
  | cons z r ih =>
    show max (PyData.depth (.int z)) (PyData.depthAll (r.map PyData.int)) = 0
    rw [ih]; rfl
theorem ints_shaped (gs : List Int) : SeqAt.shaped (.list (gs.map PyData.int)) = true := by
  unfold SeqAt.shaped
  rw [show PyData.canLay0 (.list (gs.map PyData.int)) = PyData.canLayAll0 (gs.map PyData.int) from rfl, ints_can, Bool.true_and]
  refine decide_eq_true ?_
  rw [show PyData.depth (.list (gs.map PyData.int)) = PyData.depthAll (gs.map PyData.int) + 1 from rfl, ints_depth]
  decide

/-! ### the box of k01 to k16: a dict of a list and two counts -/
def kv3 (g : Addr) (st ct : Int) : List (Key × V) := [(.inr "great", .ref g), (.inr "stirred", .int st), (.inr "count", .int ct)]
def bx1 : BoxKind where
  ok H b l := ∃ (g : Addr) (gs : List Int) (st ct : Int), l = [b, g] ∧ b ≠ g ∧ H b = some (.dK (kv3 g st ct)) ∧ H g = some (.lst (gs.map V.int)) ∧ ∀ z ∈ gs, 0 ≤ z
  loc := by
    rintro H H' b l ⟨g, gs, st, ct, rfl, hn, h1, h2, h3⟩ k
    exact ⟨g, gs, st, ct, rfl, hn, by rw [k b (by simp)]; exact h1, by rw [k g (by simp)]; exact h2, h3⟩
  there := by
    rintro H b l ⟨g, gs, st, ct, rfl, hn, h1, h2, h3⟩ a m
    have : a = b ∨ a = g := by simpa using m
    rcases this with rfl | rfl
    · rw [h1]; exact nofun
    · rw [h2]; exact nofun
/-- what the box's maker is to give -/
def boxOk1 (o : Ow) : Prop := ∃ (gs : List Int) (st ct : Int), (∀ z ∈ gs, 0 ≤ z) ∧ o = .dic [(.str "great", .list (gs.map PyData.int)), (.str "stirred", .int st), (.str "count", .int ct)]
theorem RpAll.intsV {K : PySem.W.Frag} {F : Hp} : ∀ {gs : List Int} {vs : List V}, RpAll K F vs (gs.map PyData.int) → vs = gs.map V.int
  | [], _, h => by cases h; rfl
  | z :: gs, _, h => by
    cases h with
    | cons h1 h2 => cases h1; rw [RpAll.intsV h2]; rfl
theorem box1_is {K : PySem.W.Frag} (F H : Hp) (b : Addr) (o : Ow) (h : boxOk1 o) (w : OwR K F H b o) (hf : F b = none) (e : Same F H) : ∃ l, l ≠ [] ∧ bx1.ok H b l := by
  obtain ⟨gs, st, ct, hg, rfl⟩ := h
  obtain ⟨vs, h1, h2⟩ := w
  have keyOf : ∀ {k : Key} {x : Str}, keyD k = .str x → k = .inr x := fun {k x} e => by
    cases k with
    | inl i => cases e
    | inr y => cases e; rfl
  obtain ⟨g, rfl, hG⟩ : ∃ g, vs = kv3 g st ct ∧ F g = some (.lst (gs.map V.int)) := by
    generalize eq : [(PyData.str "great", PyData.list (gs.map PyData.int)), (.str "stirred", .int st), (.str "count", .int ct)] = ds at h2
    cases h2 with
    | nil => cases eq
    | @cons k1 v1 kvs1 d1 ds1 r1 t1 =>
      injection eq with e1 e2
      injection e1 with e3 e4
      subst e4
      cases t1 with
      | nil => cases e2
      | @cons k2 v2 kvs2 d2 ds2 r2 t2 =>
        injection e2 with e5 e6
        injection e5 with e7 e8
        subst e8
        cases t2 with
        | nil => cases e6
        | @cons k3 v3 kvs3 d3 ds3 r3 t3 =>
          injection e6 with e9 e10
          injection e9 with e11 e12
          subst e12 e10
          cases t3
          cases r2
          cases r3
          cases r1 with
          | lst ha ra =>
            rw [ra.intsV] at ha
            exact ⟨_, by rw [keyOf e3.symm, keyOf e7.symm, keyOf e11.symm]; rfl, ha⟩
  exact ⟨[b, g], nofun, g, gs, st, ct, rfl, (fun z => by rw [z, hG] at hf; cases hf), h1, e _ _ hG, hg⟩

/-! the draw, by hand -/
def spDraw : SpD := fun rs Q _ => match rs with
  | [.box, .d (.int m)] => 1 ≤ m ∧ Sm m ∧ ∀ r : Int, 0 ≤ r → r < m → Q (.d (.int r))
  | _ => False
section
variable (X : Cx) (W : WX)
def tDr1If : TS := tSeq (tAsg (liftE bx1 X W (tBinD gIx (tVarD 2) (tConD (.int 0)))) (gName 3))
  (tSeq (tAsg (liftE bx1 X W (tBinD gFdiv (tVarD 3) (tVarD 1))) (L2.gSub (tVar 2) (tC (.int 0)) rSetL))
  (tSeq (tIfS (liftT bx1 X W (tTst (tBinD gLt (tVarD 3) (tVarD 1)))) (tSeq (tDrop (tBM X.K "list" rPopAt (tVar 2) (tCons (tC (.int 0)) tNil))) tNext) tNext)
  (tSeq (tRet (liftE bx1 X W (tBinD gMod (tCallB gInt (tConsU (tVarD 3) tNilU)) (tVarD 1)))) tNext)))
def dF1 : TD := tBinD gMod (tCallB gInt (tConsU (tBinD gAdd (tBinD gIx (tVarD 0) (tConD (.str "stirred"))) (tBinD gMul (tConD (.int 2654435761)) (tVarD 4))) tNilU)) (tConD (.int 4294967291))
def dF2 : TD := tBinD gMod (tCallB gInt (tConsU (tBinD gAdd (tBinD gAdd (tBinD gMul (tVarD 5) (tVarD 5)) (tBinD gMul (tConD (.int 40503)) (tVarD 4))) (tConD (.int 7))) tNilU)) (tConD (.int 4294967279))
def dF3 : TD := tBinD gMod (tCallB gInt (tConsU (tBinD gAdd (tBinD gMul (tVarD 5) (tVarD 5)) (tBinD gIx (tVarD 0) (tConD (.str "stirred")))) tNilU)) (tConD (.int 4294967231))
def dF4 : TD := tBinD gMod (tCallB gInt (tConsU (tBinD gFdiv (tVarD 5) (tConD (.int 128))) tNilU)) (tVarD 1)
def tDr1Else : TS := tSeq (tAsg (liftE bx1 X W (tBinD gAdd (tBinD gIx (tVarD 0) (tConD (.str "count"))) (tConD (.int 1)))) (gName 4))
  (tSeq (tAsg (liftE bx1 X W (tVarD 4)) (L2.gSub (tVar 0) (tC (.str "count")) rSetD))
  (tSeq (tAsg (liftE bx1 X W dF1) (gName 5)) (tSeq (tAsg (liftE bx1 X W dF2) (gName 5)) (tSeq (tAsg (liftE bx1 X W dF3) (gName 5)) (tSeq (tRet (liftE bx1 X W dF4)) tNext)))))
def tDr1 : TS := tSeq (tAsg (tDGet (tVar 0) (tC (.str "great"))) (gName 2)) (tSeq (tIfS (liftT bx1 X W (tTst (tBinD gNe (tVarD 2) (tLstD tNilD)))) (tDr1If X W) tNext) (tDr1Else X W))
end
theorem same_upd {H : Hp} {a : Addr} {o : HO} (h : ∀ b u, H b = some u → b ≠ a → upd H a o b = some u := fun b u e n => by rw [upd_ne n]; exact e) : ∀ b u, H b = some u → b ≠ a → upd H a o b = some u := h
section
variable {X : Cx} {W : WX} {b g : Addr} {gs : List Int} {st ct m : Int}
theorem rp_box {K : PySem.W.Frag} {H : Hp} (hb : H b = some (.dK (kv3 g st ct))) (hg : H g = some (.lst (gs.map V.int))) : Rp K H (.ref b) (.dict [(.str "great", .list (gs.map PyData.int)), (.str "stirred", .int st), (.str "count", .int ct)]) :=
  .dic hb (.cons (.lst hg (RpAll.ints gs)) (.cons (.int st) (.cons (.int ct) .nil)))
/-- what a draw does to the heap: beside the box's own objects nothing is changed -/
def Kp2 (b g : Addr) (H H' : Hp) : Prop := ∀ a o, H a = some o → a ≠ b → a ≠ g → H' a = some o
theorem Kp2.same {H H' H'' : Hp} (h : Kp2 b g H H') (e : Same H' H'') : Kp2 b g H H'' := fun a o ha n1 n2 => e a o (h a o ha n1 n2)
theorem Kp2.upd {H H' : Hp} {a : Addr} {o : HO} (h : Kp2 b g H H') (ha : a = b ∨ a = g) : Kp2 b g H (L2.upd H' a o) := fun c u hc n1 n2 => by
  rw [upd_ne (fun z => by rcases ha with q | q <;> rw [q] at z <;> contradiction)]
  exact h c u hc n1 n2
theorem at0 {α : Type} {x : α} {xs : List α} : atI (x :: xs) 0 = some x := by
  unfold atI ixN
  rw [if_pos (by omega), if_pos (by rw [List.length_cons]; omega)]
  rfl
theorem draw1_if {D : Ends} {H0 H : Hp} {x4 x5 : Option V} (hm : 1 ≤ m) (hs : Sm m) (hn : b ≠ g) (hb : H b = some (.dK (kv3 g st ct))) (hg : H g = some (.lst (gs.map V.int))) (hp : ∀ z ∈ gs, 0 ≤ z) (he : gs ≠ []) (k : Kp2 b g H0 H)
    (q : ∀ (r : Int) (H' : Hp) (gs' : List Int), 0 ≤ r → r < m → Kp2 b g H0 H' → H' b = some (.dK (kv3 g st ct)) → H' g = some (.lst (gs'.map V.int)) → (∀ z ∈ gs', 0 ≤ z) → D.rt (.int r) H') :
    tDr1If X W D [some (.ref b), some (.int m), some (.ref g), none, x4, x5] H := by
  obtain ⟨z, rest, rfl⟩ : ∃ z rest, gs = z :: rest := by
    cases gs with
    | nil => exact absurd rfl he
    | cons z r => exact ⟨z, r, rfl⟩
  have hz : 0 ≤ z := hp z List.mem_cons_self
  -- mark = great[0]
  refine pureI (env := [none, none, some (.d (.list ((z :: rest).map PyData.int))), none, none, none]) (.no (.no (.da (.lst hg (RpAll.ints _)) (.no (.no (.no .nil)))))) ?_
  · refine ⟨.int z, at0, z, rfl, fun H1 e1 => ?_⟩
    have hb1 := e1 _ _ hb
    have hg1 := e1 _ _ hg
    -- great[0] = mark // many
    refine pureI (env := [none, some (.d (.int m)), none, some (.d (.int z)), none, none]) (.no (.da (.int m) (.no (.da (.int z) (.no (.no .nil)))))) ?_
    · refine ⟨by omega, hs, z.fdiv m, rfl, fun H2 e2 => ?_⟩
      have hb2 := e2 _ _ hb1
      have hg2 := e2 _ _ hg1
      refine ⟨.ref g, rfl, g, _, 0, 0, rfl, rfl, hg2, ?_, ?_⟩
      · unfold ixN
        rw [if_pos (by omega), if_pos (by rw [List.length_map, List.length_cons]; omega)]
        rfl
      have hb3 : upd H2 g (.lst (((z :: rest).map V.int).set 0 (.int (z.fdiv m)))) b = some (.dK (kv3 g st ct)) := by rw [upd_ne hn]; exact hb2
      have hg3 : upd H2 g (.lst (((z :: rest).map V.int).set 0 (.int (z.fdiv m)))) g = some (.lst ((z.fdiv m :: rest).map V.int)) := upd_same
      have k3 : Kp2 b g H0 (upd H2 g (.lst (((z :: rest).map V.int).set 0 (.int (z.fdiv m))))) := ((k.same e1).same e2).upd (.inr rfl)
      generalize upd H2 g (.lst (((z :: rest).map V.int).set 0 (.int (z.fdiv m)))) = H3 at hb3 hg3 k3
      have hd : 0 ≤ z.fdiv m := by
        rw [Int.fdiv_eq_ediv_of_nonneg z (by omega)]
        exact Int.ediv_nonneg hz (by omega)
      have hr0 : 0 ≤ z.fmod m := Int.fmod_nonneg_of_pos z (by omega)
      have hr1 : z.fmod m < m := Int.fmod_lt_of_pos z (by omega)
      have ret : ∀ (H4 : Hp) (gs' : List Int), H4 b = some (.dK (kv3 g st ct)) → H4 g = some (.lst (gs'.map V.int)) → (∀ y ∈ gs', 0 ≤ y) → Kp2 b g H0 H4 →
          tSeq (tRet (liftE bx1 X W (tBinD gMod (tCallB gInt (tConsU (tVarD 3) tNilU)) (tVarD 1)))) tNext D [some (.ref b), some (.int m), some (.ref g), some (.int z), x4, x5] H4 := fun H4 gs' h1 h2 h3 k4 => by
        refine pureI (env := [none, some (.d (.int m)), none, some (.d (.int z)), none, none]) (.no (.da (.int m) (.no (.da (.int z) (.no (.no .nil)))))) ?_
        · exact ⟨by omega, z.fmod m, rfl, fun H5 e5 => q _ H5 gs' hr0 hr1 (k4.same e5) (e5 _ _ h1) (e5 _ _ h2) h3⟩
      -- if mark < many: great.pop(0)
      refine pureT (env := [none, some (.d (.int m)), none, some (.d (.int z)), none, none]) (.no (.da (.int m) (.no (.da (.int z) (.no (.no .nil)))))) ?_
      show ∀ H', Same H3 H' → if decide (z < m) = true then _ else _
      intro H4 e4
      have hb4 := e4 _ _ hb3
      have hg4 := e4 _ _ hg3
      have k4 := k3.same e4
      refine ite2 (fun _ => ?_) fun _ => ?_
      · refine ⟨.ref g, rfl, tyV_lst hg4, ?_⟩
        refine ⟨g, _, 0, 0, .int (z.fdiv m), rfl, rfl, hg4, by decide, by decide, ?_, rfl, ?_⟩
        · unfold seqIndex?
          simp
        · refine ret _ rest ?_ upd_same (fun y hy => hp y (List.mem_cons_of_mem _ hy)) (k4.upd (.inr rfl))
          rw [upd_ne hn]
          exact hb4
      · refine ret H4 (z.fdiv m :: rest) hb4 hg4 (fun y hy => ?_) k4
        rcases List.mem_cons.mp hy with rfl | hy
        · exact hd
        · exact hp y (List.mem_cons_of_mem _ hy)
theorem draw1_else {D : Ends} {H0 H : Hp} {x2 x3 x4 x5 : Option V} (hm : 1 ≤ m) (hs : Sm m) (hn : b ≠ g) (hb : H b = some (.dK (kv3 g st ct))) (hg : H g = some (.lst (gs.map V.int))) (k : Kp2 b g H0 H)
    (q : ∀ (r : Int) (H' : Hp) (ct' : Int), 0 ≤ r → r < m → Kp2 b g H0 H' → H' b = some (.dK (kv3 g st ct')) → H' g = some (.lst (gs.map V.int)) → D.rt (.int r) H') :
    tDr1Else X W D [some (.ref b), some (.int m), x2, x3, x4, x5] H := by
  refine pureI (env := [some (.d _), none, none, none, none, none]) (.da (rp_box hb hg) (.no (.no (.no (.no (.no .nil)))))) ?_
  refine ⟨rfl, .int ct, rfl, ct + 1, rfl, fun H1 e1 => ?_⟩
  have hb1 := e1 _ _ hb
  have hg1 := e1 _ _ hg
  -- box['count'] = count
  refine pureI (env := [none, none, none, none, some (.d (.int (ct + 1))), none]) (.no (.no (.no (.no (.da (.int _) (.no .nil)))))) ?_
  refine ⟨ct + 1, rfl, fun H2 e2 => ?_⟩
  have hb2 := e2 _ _ hb1
  have hg2 := e2 _ _ hg1
  refine ⟨.ref b, rfl, b, _, rfl, DPut.k (k := .inr "count") hb2 (by show 3 < sizeLine; decide), ?_⟩
  have ep : putK (kv3 g st ct) (.inr "count") (.int (ct + 1)) = kv3 g st (ct + 1) := rfl
  rw [ep]
  have hb3 : upd H2 b (.dK (kv3 g st (ct + 1))) b = some (.dK (kv3 g st (ct + 1))) := upd_same
  have hg3 : upd H2 b (.dK (kv3 g st (ct + 1))) g = some (.lst (gs.map V.int)) := by rw [upd_ne hn.symm]; exact hg2
  have k3 : Kp2 b g H0 (upd H2 b (.dK (kv3 g st (ct + 1)))) := ((k.same e1).same e2).upd (.inl rfl)
  generalize upd H2 b (.dK (kv3 g st (ct + 1))) = H3 at hb3 hg3 k3
  have sm32 : ∀ z : Int, 0 ≤ z → z < 4294967296 → z.natAbs < 2 ^ 64 := fun z h1 h2 => by
    have : (2 : Nat) ^ 64 = 18446744073709551616 := by decide
    omega
  -- found
  refine pureI (env := [some (.d _), none, none, none, some (.d (.int (ct + 1))), none]) (.da (rp_box hb3 hg3) (.no (.no (.no (.da (.int _) (.no .nil)))))) ?_
  refine ⟨rfl, .int st, rfl, .inl (sm32 _ (by decide) (by decide)), by decide, _, rfl, fun H4 e4 => ?_⟩
  have f0 : ∀ z : Int, 0 ≤ z.fmod 4294967291 := fun z => Int.fmod_nonneg_of_pos z (by decide)
  have f1 : ∀ z : Int, z.fmod 4294967291 < 4294967291 := fun z => Int.fmod_lt_of_pos z (by decide)
  generalize ha : (st + 2654435761 * (ct + 1)).fmod 4294967291 = a1
  have a0 : 0 ≤ a1 := by rw [← ha]; exact f0 _
  have a2 : a1 < 4294967291 := by rw [← ha]; exact f1 _
  have hb4 := e4 _ _ hb3
  have hg4 := e4 _ _ hg3
  refine pureI (env := [none, none, none, none, some (.d (.int (ct + 1))), some (.d (.int a1))]) (.no (.no (.no (.no (.da (.int _) (.da (.int _) .nil)))))) ?_
  refine ⟨.inl (sm32 _ a0 (by omega)), .inl (sm32 _ (by decide) (by decide)), by decide, _, rfl, fun H5 e5 => ?_⟩
  generalize hc : (a1 * a1 + 40503 * (ct + 1) + 7).fmod 4294967279 = c1
  have c0 : 0 ≤ c1 := by rw [← hc]; exact Int.fmod_nonneg_of_pos _ (by decide)
  have c2 : c1 < 4294967279 := by rw [← hc]; exact Int.fmod_lt_of_pos _ (by decide)
  have hb5 := e5 _ _ hb4
  have hg5 := e5 _ _ hg4
  refine pureI (env := [some (.d _), none, none, none, none, some (.d (.int c1))]) (.da (rp_box hb5 hg5) (.no (.no (.no (.no (.da (.int _) .nil)))))) ?_
  refine ⟨.inl (sm32 _ c0 (by omega)), rfl, .int st, rfl, by decide, _, rfl, fun H6 e6 => ?_⟩
  generalize hd : (c1 * c1 + st).fmod 4294967231 = d1
  have hb6 := e6 _ _ hb5
  have hg6 := e6 _ _ hg5
  refine pureI (env := [none, some (.d (.int m)), none, none, none, some (.d (.int d1))]) (.no (.da (.int _) (.no (.no (.no (.da (.int _) .nil)))))) ?_
  refine ⟨by decide, Sm.of (by decide), by omega, _, rfl, fun H7 e7 => ?_⟩
  exact q _ H7 (ct + 1) (Int.fmod_nonneg_of_pos _ (by omega)) (Int.fmod_lt_of_pos _ (by omega)) ((((k3.same e4).same e5).same e6).same e7) (e7 _ _ hb6) (e7 _ _ hg6)
/-- the whole draw -/
theorem draw1_read {D : Ends} {H : Hp} (hm : 1 ≤ m) (hs : Sm m) (hn : b ≠ g) (hb : H b = some (.dK (kv3 g st ct))) (hg : H g = some (.lst (gs.map V.int))) (hp : ∀ z ∈ gs, 0 ≤ z)
    (q : ∀ (r : Int) (H' : Hp) (gs' : List Int) (ct' : Int), 0 ≤ r → r < m → Kp2 b g H H' → H' b = some (.dK (kv3 g st ct')) → H' g = some (.lst (gs'.map V.int)) → (∀ z ∈ gs', 0 ≤ z) → D.rt (.int r) H') :
    tDr1 X W D [some (.ref b), some (.int m), none, none, none, none] H := by
  refine ⟨.ref b, rfl, b, .ref g, rfl, .inl ⟨_, .inr "great", .inl hb, rfl, rfl⟩, ?_⟩
  have k0 : Kp2 b g H H := fun a o h _ _ => h
  refine pureT (env := [none, none, some (.d (.list (gs.map PyData.int))), none, none, none]) (.no (.no (.da (.lst hg (RpAll.ints _)) (.no (.no (.no .nil)))))) ?_
  refine ⟨Nat.zero_le _, .inr ⟨ints_shaped _, rfl⟩, fun H1 e1 => ?_⟩
  cases gs with
  | nil =>
    refine L2.iteF ?_
    exact draw1_else hm hs hn (e1 _ _ hb) (e1 _ _ hg) (k0.same e1) fun r H' ct' h1 h2 h3 h4 h5 => q r H' [] ct' h1 h2 h3 h4 h5 hp
  | cons z r =>
    refine L2.iteT ?_
    exact draw1_if hm hs hn (e1 _ _ hb) (e1 _ _ hg) hp nofun (k0.same e1) fun r H' gs' h1 h2 h3 h4 h5 h6 => q r H' gs' ct h1 h2 h3 h4 h5 h6
end
section
variable {P : Program} {w : World} {K : PySem.W.Frag} {mg : Str → Option Value} {base : Heap} {k : Nat} {f : Addr} {fd : FuncData}
theorem FnG.draw1 {x qual : Str} {ps N : List Str} {st : Stmt} (F : Fun K x qual st f fd) (S : FnScope N ps (defScope st)) (hN : N.length = 6) (hp : ps.length = 2)
    (hb : ∀ (cdv : Value) (A : Around) (outer : List Env) (s : Shared) (H : Hp) (E : XK), Room k (A.deeper (envOfC qual (defScope st) s.heap.objs.size f cdv)) → A.guards = some [] →
      PSs (cxOf (L2.CX P w) P w K mg base N qual (defScope st) f cdv A outer s H E) (defBody st) (tDr1 (cxOf (L2.CX P w) P w K mg base N qual (defScope st) f cdv A outer s H E) (WOf E))) :
    FnG P w K mg base (k + 1) f fd ps (liftSp bx1 K mg 2 spDraw) :=
  FnG.body F S (fun vs H Q E h => (liftSp.len h).trans hp.symm) fun cdv A outer s H vs Q E hr hg hsp => by
    obtain ⟨S0, rs, Qd, Ex, ok, ra, hl, con, ex, q⟩ := hsp
    refine ⟨_, hb cdv A outer s H E hr hg, ?_⟩
    unfold spDraw at q
    split at q
    · rename_i m
      obtain ⟨hm, hs, q⟩ := q
      obtain ⟨v1, v2, rfl, r1, r2⟩ := paired2 ra
      obtain ⟨hl0, rfl⟩ := r1
      have e2 : v2 = .int m := by
        have : Rp K S0.F v2 (.int m) := r2
        cases this; rfl
      subst e2
      rcases ok.box with z | hbx
      · exact absurd z hl0
      · obtain ⟨g, gs, st, ct, el, hn, h1, h2, h3⟩ := hbx
        have est : L2.start N [V.ref S0.b, V.int m] = [some (.ref S0.b), some (.int m), none, none, none, none] := by
          unfold L2.start
          rw [hN]
          rfl
        rw [est]
        refine draw1_read hm hs hn h1 h2 h3 fun r H' gs' ct' q0 q1 kp hb' hg' hp' => ?_
        refine con (.d (.int r)) (.int r) H' S0 (q r q0 q1) ?_ (.int r)
        have notB : ∀ {a : Addr} {o : HO}, S0.F a = some o → a ≠ S0.b ∧ a ≠ g := fun {a o} h => by
          have := ok.fz h
          rw [el] at this
          simpa using this
        refine ⟨Same.refl _, fun a z1 z2 => absurd z1 z2, rfl, rfl, fun a o ha hm' => ?_, ⟨fun a o h => ?_, ok.out, .inr ⟨g, gs', st, ct', el, hn, hb', hg', hp'⟩⟩⟩
        · rw [el] at hm'
          have hm2 : a ≠ S0.b ∧ a ≠ g := by simpa using hm'
          exact kp a o ha hm2.1 hm2.2
        · obtain ⟨n1, n2⟩ := notB h
          exact kp a o (ok.sub a o h) n1 n2
    · exact q.elim
end
end HA

namespace HA
open PySem PySem.Spec PyProof.Rows L2 Builtin Builtin.Str

/-! ### data that can be shown: how long the text is -/
def chOk (x : Str) : Prop := ∀ c ∈ x.cps.toList, c < 16 ^ 8
theorem chOk.append {x y : Str} (h : chOk x) (g : chOk y) : chOk (x ++ y) := fun c hc => by
  have e : (x ++ y).cps.toList = x.cps.toList ++ y.cps.toList := by
    show (x.cps ++ y.cps).toList = _
    rw [Array.toList_append]
  rw [e] at hc
  rcases List.mem_append.mp hc with q | q
  · exact h c q
  · exact g c q
theorem char_lt (c : Char) : c.toNat < 16 ^ 8 := by
  have h := c.valid
  have h2 : c.toNat < 0x110000 := by
    rcases h with h | ⟨_, h⟩
    · exact Nat.lt_trans h (by decide)
    · exact h
  exact Nat.lt_trans h2 (by decide)
theorem chOk.lit (s : String) : chOk (Str.ofString s) := fun c hc => by
  rw [Str.ofString_eq_toList] at hc
  have hc : c ∈ (s.toList.map Char.toNat).toArray.toList := hc
  rw [List.toList_toArray] at hc
  obtain ⟨d, _, rfl⟩ := List.mem_map.mp hc
  exact char_lt d
theorem chOk.join {sep : Str} (hs : chOk sep) : ∀ {ts : List Str}, (∀ t ∈ ts, chOk t) → chOk (Str.join sep ts)
  | [], _ => fun c hc => by
    have e : (Str.join sep []).cps.toList = [] := rfl
    rw [e] at hc; cases hc
  | [t], h => h t List.mem_cons_self
  | t :: u :: r, h => by
    show chOk (t ++ sep ++ Str.join sep (u :: r))
    exact ((h t List.mem_cons_self).append hs).append (chOk.join hs fun v hv => h v (List.mem_cons_of_mem _ hv))
theorem reprChar_ch (q c : Nat) (hq : q < 16 ^ 8) (hc : c < 16 ^ 8) : ∀ e ∈ reprChar q c, e < 16 ^ 8 := by
  have hex : ∀ (w : Nat), ∀ e ∈ List.replicate (w - ((Nat.toDigits 16 c).map Char.toNat).length) 48 ++ (Nat.toDigits 16 c).map Char.toNat, e < 16 ^ 8 := fun w e he => by
    rcases List.mem_append.mp he with h | h
    · rw [(List.mem_replicate.mp h).2]; decide
    · obtain ⟨d, _, rfl⟩ := List.mem_map.mp h
      exact char_lt d
  intro e he
  unfold reprChar at he
  dsimp only at he
  repeat' split at he
  all_goals
    first
    | (simp only [List.mem_cons, List.not_mem_nil, or_false] at he
       rcases he with rfl | rfl <;> first | exact hc | decide)
    | (simp only [List.mem_cons, List.not_mem_nil, or_false] at he
       subst he
       exact hc)
    | (rcases List.mem_append.mp he with h | h
       · simp only [List.mem_cons, List.not_mem_nil, or_false] at h
         rcases h with rfl | rfl <;> decide
       · exact hex _ e h)
theorem reprText_ch {x : Str} (h : chOk x) : chOk (reprText x) := by
  have hq : reprQuote x < 16 ^ 8 := by
    unfold reprQuote
    split <;> decide
  have go : ∀ (l : List Nat) (acc : Array Nat), (∀ c ∈ l, c < 16 ^ 8) → (∀ c ∈ acc.toList, c < 16 ^ 8) → ∀ c ∈ (l.foldl (fun out c => out ++ (reprChar (reprQuote x) c).toArray) acc).toList, c < 16 ^ 8 := by
    intro l
    induction l with
    | nil => intro acc _ h; exact h
    | cons d r ih =>
      intro acc h1 h2
      refine ih _ (fun c hc => h1 c (List.mem_cons_of_mem _ hc)) fun c hc => ?_
      rw [Array.toList_append, List.toList_toArray] at hc
      rcases List.mem_append.mp hc with q | q
      · exact h2 c q
      · exact reprChar_ch _ d hq (h1 d List.mem_cons_self) c q
  intro c hc
  have e : (reprText x).cps.toList = (x.cps.foldl (fun out c => out ++ (reprChar (reprQuote x) c).toArray) #[reprQuote x]).toList ++ [reprQuote x] := by
    show ((x.cps.foldl (fun out c => out ++ (reprChar (reprQuote x) c).toArray) #[reprQuote x]).push (reprQuote x)).toList = _
    rw [Array.toList_push]
  rw [e, ← Array.foldl_toList] at hc
  rcases List.mem_append.mp hc with q | q
  · exact go _ _ h (fun c hc => by simp only [List.mem_cons, List.not_mem_nil, or_false] at hc; subst hc; exact hq) c q
  · simp only [List.mem_cons, List.not_mem_nil, or_false] at q
    subst q
    exact hq
theorem listText_ch {ts : List Str} (h : ∀ t ∈ ts, chOk t) : chOk (listText ts) := by
  rw [listText_eq_join]
  exact ((chOk.lit _).append (chOk.join (chOk.lit _) h)).append (chOk.lit _)
theorem tupleText_ch {ts : List Str} (h : ∀ t ∈ ts, chOk t) : chOk (tupleText ts) := by
  unfold tupleText
  exact ((chOk.lit _).append (chOk.join (chOk.lit _) h)).append (chOk.lit _)
theorem dictText_ch {ts : List Str} (h : ∀ t ∈ ts, chOk t) : chOk (dictText ts) := by
  unfold dictText
  exact ((chOk.lit _).append (chOk.join (chOk.lit _) h)).append (chOk.lit _)
mutual
theorem shown_ch {B : Nat} : ∀ d : PyData, d.leavesShort B = true → chOk d.shown
  | .none, _ => chOk.lit _
  | .bool b, _ => by cases b <;> exact chOk.lit _
  | .int i, _ => chOk.lit _
  | .str x, h => by
    refine reprText_ch fun c hc => ?_
    have h' : (x.cps.toList.all fun c => decide (c < 16 ^ 8)) = true := by simpa only [PyData.leavesShort] using h
    exact of_decide_eq_true (List.all_eq_true.mp h' c hc)
  | .list xs, h => listText_ch (shownAll_ch xs (by simpa only [PyData.leavesShort] using h))
  | .tuple xs, h => tupleText_ch (shownAll_ch xs (by simpa only [PyData.leavesShort] using h))
  | .dict kvs, h => dictText_ch (shownKv_ch kvs (by simpa only [PyData.leavesShort] using h))
theorem shownAll_ch {B : Nat} : ∀ xs : List PyData, PyData.leavesShortAll B xs = true → ∀ t ∈ PyData.shownAll xs, chOk t
  | [], _, t, ht => by cases ht
  | x :: xs, h, t, ht => by
    have h' : x.leavesShort B = true ∧ PyData.leavesShortAll B xs = true := by simpa only [PyData.leavesShortAll, Bool.and_eq_true] using h
    rcases List.mem_cons.mp ht with rfl | ht
    · exact shown_ch x h'.1
    · exact shownAll_ch xs h'.2 t ht
theorem shownKv_ch {B : Nat} : ∀ xs : List (PyData × PyData), PyData.leavesShortKv B xs = true → ∀ t ∈ PyData.shownKv xs, chOk t
  | [], _, t, ht => by cases ht
  | (k, v) :: xs, h, t, ht => by
    have h' : (k.leavesShort B = true ∧ v.leavesShort B = true) ∧ PyData.leavesShortKv B xs = true := by simpa only [PyData.leavesShortKv, Bool.and_eq_true] using h
    rcases List.mem_cons.mp ht with rfl | ht
    · exact ((shown_ch k h'.1.1).append (chOk.lit _)).append (shown_ch v h'.1.2)
    · exact shownKv_ch xs h'.2 t ht
end
/-- n: its text is no longer; k: its depth -/
structure Tm (n k : Nat) (d : PyData) : Prop where
  l : d.leavesShort 80 = true
  s : d.showable = true
  dp : d.depth ≤ k
  n : d.shown.length ≤ n
theorem Tm.mono {n k n' k' : Nat} {d : PyData} (h : Tm n k d) (a : n ≤ n') (b : k ≤ k') : Tm n' k' d := ⟨h.l, h.s, Nat.le_trans h.dp b, Nat.le_trans h.n a⟩
theorem Tm.none {n k : Nat} (h : 4 ≤ n := by decide) : Tm n k .none := ⟨rfl, rfl, Nat.zero_le _, h⟩
theorem Tm.bool {n k : Nat} {b : Bool} (h : 5 ≤ n := by decide) : Tm n k (.bool b) := ⟨rfl, rfl, Nat.zero_le _, by cases b <;> exact Nat.le_trans (by decide) h⟩
def NumOk (i : Int) : Prop := i.natAbs < 10 ^ 79
theorem Tm.int {n k : Nat} {i : Int} (g : NumOk i) (h : 80 ≤ n := by decide) : Tm n k (.int i) := by
  have e : (PyData.shown (.int i)).length ≤ 80 := by
    show (Str.ofString (toString i)).length ≤ 80
    rw [PySem.ofString_length]
    exact int_text_length_le10 (k := 79) (by decide) g
  refine ⟨decide_eq_true e, decide_eq_true ?_, Nat.zero_le _, Nat.le_trans e h⟩
  have g2 : i.natAbs < 2 ^ 1000 := Nat.lt_trans g (by decide +kernel)
  exact Nat.lt_trans (PySem.Flt.log2_lt_of (by decide) g2) (by decide)
theorem Tm.str {n k : Nat} {x : Str} (g : chOk x) (h : 10 * x.length + 2 ≤ n) : Tm n k (.str x) := by
  refine ⟨?_, rfl, Nat.zero_le _, Nat.le_trans (StrLaws.reprText_len x g) h⟩
  show (x.cps.toList.all fun c => decide (c < 16 ^ 8)) = true
  exact List.all_eq_true.mpr fun c hc => decide_eq_true (g c hc)
theorem Tm.all {n k : Nat} : ∀ {xs : List PyData}, (∀ x ∈ xs, Tm n k x) → PyData.leavesShortAll 80 xs = true ∧ PyData.showableAll xs = true ∧ PyData.depthAll xs ≤ k ∧ ((PyData.shownAll xs).map (·.length)).sum ≤ xs.length * n ∧ (PyData.shownAll xs).length = xs.length
  | [], _ => ⟨rfl, rfl, Nat.zero_le _, Nat.zero_le _, rfl⟩
  | x :: xs, h => by
    have h0 := h x List.mem_cons_self
    obtain ⟨h1, h2, h3, h4, h5⟩ := Tm.all (xs := xs) fun y hy => h y (List.mem_cons_of_mem _ hy)
    refine ⟨?_, ?_, ?_, ?_, ?_⟩
    · simp only [PyData.leavesShortAll, h0.l, h1, Bool.and_self]
    · simp only [PyData.showableAll, h0.s, h2, Bool.and_self]
    · exact Nat.max_le.mpr ⟨h0.dp, h3⟩
    · simp only [PyData.shownAll, List.map_cons, List.sum_cons, List.length_cons]
      have e : (xs.length + 1) * n = xs.length * n + n := Nat.succ_mul ..
      have := h0.n
      omega
    · simp only [PyData.shownAll, List.length_cons, h5]
theorem Tm.lst {n k c : Nat} {xs : List PyData} (h : ∀ x ∈ xs, Tm n k x) (hc : xs.length ≤ c) {n' k' : Nat} (hn : c * n + 2 * c + 3 ≤ n' := by decide) (hk : k + 1 ≤ k' := by decide) : Tm n' k' (.list xs) := by
  obtain ⟨h1, h2, h3, h4, h5⟩ := Tm.all h
  refine ⟨h1, h2, Nat.le_trans (Nat.add_le_add_right h3 1) hk, Nat.le_trans ?_ hn⟩
  have := listText_len_le (PyData.shownAll xs)
  have e : xs.length * n ≤ c * n := Nat.mul_le_mul_right _ hc
  show (listText (PyData.shownAll xs)).length ≤ _
  omega
theorem Tm.tup {n k c : Nat} {xs : List PyData} (h : ∀ x ∈ xs, Tm n k x) (hc : xs.length ≤ c) {n' k' : Nat} (hn : c * n + 2 * c + 3 ≤ n' := by decide) (hk : k + 1 ≤ k' := by decide) : Tm n' k' (.tuple xs) := by
  obtain ⟨h1, h2, h3, h4, h5⟩ := Tm.all h
  refine ⟨h1, h2, Nat.le_trans (Nat.add_le_add_right h3 1) hk, Nat.le_trans ?_ hn⟩
  have := tupleText_len_le (PyData.shownAll xs)
  have e : xs.length * n ≤ c * n := Nat.mul_le_mul_right _ hc
  show (tupleText (PyData.shownAll xs)).length ≤ _
  omega
theorem Tm.dic0 {n k : Nat} (h : 3 ≤ n := by decide) (hk : 1 ≤ k := by decide) : Tm n k (.dict []) := ⟨rfl, rfl, hk, Nat.le_trans (dictText_len_le []) h⟩
theorem Tm.dic1 {n k : Nat} {a d : PyData} (ha : Tm n k a) (h : Tm n k d) {n' k' : Nat} (hn : 2 * n + 10 ≤ n' := by decide) (hk : k + 1 ≤ k' := by decide) : Tm n' k' (.dict [(a, d)]) := by
  refine ⟨?_, ?_, ?_, Nat.le_trans ?_ hn⟩
  · simp only [PyData.leavesShort, PyData.leavesShortKv, ha.l, h.l, Bool.and_self]
  · simp only [PyData.showable, PyData.showableKv, ha.s, h.s, Bool.and_self]
  · have e1 := ha.dp
    have e2 := h.dp
    simp only [PyData.depth, PyData.depthKv]
    omega
  · have := dictText_len_le (PyData.shownKv [(a, d)])
    have e : (a.shown ++ ": " ++ d.shown).length = a.shown.length + 2 + d.shown.length := by
      rw [strLen_append, strLen_append]; rfl
    simp only [PyData.shownKv, List.map_cons, List.map_nil, List.sum_cons, List.sum_nil, List.length_cons, List.length_nil, e] at this
    have e1 := ha.n
    have e2 := h.n
    have e3 : (PyData.dict [(a, d)]).shown.length = (dictText [a.shown ++ Str.ofString ": " ++ d.shown]).length := rfl
    rw [e3]
    omega
theorem Tm.ok {n k : Nat} {d : PyData} (h : Tm n k d) (hn : n ≤ 16777216) (hk : k ≤ 60) : showOk d := ⟨h.s, Nat.le_trans h.dp hk, by rw [sizeLine_eq]; exact Nat.le_trans h.n hn⟩
theorem Tm.ch {n k : Nat} {d : PyData} (h : Tm n k d) : chOk d.shown := shown_ch d h.l
/-- the text of a shown thing, shown -/
theorem Tm.text {n k : Nat} {d : PyData} (h : Tm n k d) {n' : Nat} (hn : 10 * n + 2 ≤ n') {k' : Nat} : Tm n' k' (.str d.shown) := Tm.str h.ch (by have := h.n; omega)
theorem Tm.lit {n k : Nat} (s : String) (h : 10 * (Str.ofString s).length + 2 ≤ n := by decide) : Tm n k (.str (Str.ofString s)) := Tm.str (chOk.lit s) h
theorem Tm.mem {n k : Nat} {xs : List PyData} (h : Tm n k (.tuple xs)) {x : PyData} (hx : x ∈ xs) : Tm n k x := by
  have go : ∀ {ys : List PyData}, x ∈ ys → PyData.leavesShortAll 80 ys = true → PyData.showableAll ys = true → x.leavesShort 80 = true ∧ x.showable = true ∧ x.depth ≤ PyData.depthAll ys ∧ x.shown ∈ PyData.shownAll ys := by
    intro ys
    induction ys with
    | nil => intro h; cases h
    | cons y r ih =>
      intro hm h1 h2
      simp only [PyData.leavesShortAll, Bool.and_eq_true] at h1
      simp only [PyData.showableAll, Bool.and_eq_true] at h2
      rcases List.mem_cons.mp hm with rfl | hm
      · exact ⟨h1.1, h2.1, Nat.le_max_left _ _, List.mem_cons_self⟩
      · obtain ⟨q1, q2, q3, q4⟩ := ih hm h1.2 h2.2
        exact ⟨q1, q2, Nat.le_trans q3 (Nat.le_max_right _ _), List.mem_cons_of_mem _ q4⟩
  obtain ⟨q1, q2, q3, q4⟩ := go hx h.l h.s
  refine ⟨q1, q2, Nat.le_trans q3 (Nat.le_trans (Nat.le_succ _) h.dp), Nat.le_trans ?_ h.n⟩
  have memLen : ∀ (ts : List Str), x.shown ∈ ts → x.shown.length ≤ (Str.join ", " ts).length := by
    intro ts
    induction ts with
    | nil => intro h; cases h
    | cons t r ih =>
      intro hm
      cases r with
      | nil =>
        simp only [List.mem_cons, List.not_mem_nil, or_false] at hm
        rw [hm]
        exact Nat.le_refl _
      | cons u r =>
        show _ ≤ (t ++ ", " ++ Str.join ", " (u :: r)).length
        rw [strLen_append, strLen_append]
        rcases List.mem_cons.mp hm with e | hm
        · rw [e]; omega
        · have := ih hm
          omega
  show x.shown.length ≤ (tupleText (PyData.shownAll xs)).length
  unfold tupleText
  rw [strLen_append, strLen_append]
  have := memLen _ q4
  omega
end HA

namespace K08
open PySem PySem.Spec PyProof.Rows L2 HA
def topS (i : Nat) : Stmt := PySem.Challenge.pw_heardagain_k08_what_are_fractions_and_mo.main.body.getD i (.Pass ⟨0, 0, 0, 0⟩)
abbrev s_is_integer : Stmt := topS 2
abbrev N_is_integer : List Str := ["value"]
abbrev p_is_integer : List Str := ["value"]
theorem sc_is_integer : FnScope N_is_integer p_is_integer (defScope s_is_integer) := ⟨rfl, rfl, rfl, by decide +kernel, rfl, by decide +kernel, by decide +kernel⟩
abbrev s__law_box : Stmt := topS 7
abbrev N__law_box : List Str := ["script", "marks", "stirred", "cell", "mark"]
abbrev p__law_box : List Str := ["script"]
theorem sc__law_box : FnScope N__law_box p__law_box (defScope s__law_box) := ⟨rfl, rfl, rfl, by decide +kernel, rfl, by decide +kernel, by decide +kernel⟩
abbrev s__law_draw : Stmt := topS 8
abbrev N__law_draw : List Str := ["box", "many", "great", "mark", "count", "found"]
abbrev p__law_draw : List Str := ["box", "many"]
theorem sc__law_draw : FnScope N__law_draw p__law_draw (defScope s__law_draw) := ⟨rfl, rfl, rfl, by decide +kernel, rfl, by decide +kernel, by decide +kernel⟩
abbrev s__law_is_whole : Stmt := topS 11
abbrev N__law_is_whole : List Str := ["thing"]
abbrev p__law_is_whole : List Str := ["thing"]
theorem sc__law_is_whole : FnScope N__law_is_whole p__law_is_whole (defScope s__law_is_whole) := ⟨rfl, rfl, rfl, by decide +kernel, rfl, by decide +kernel, by decide +kernel⟩
abbrev s_fraction_error : Stmt := topS 4
abbrev N_fraction_error : List Str := ["value"]
abbrev p_fraction_error : List Str := ["value"]
theorem sc_fraction_error : FnScope N_fraction_error p_fraction_error (defScope s_fraction_error) := ⟨rfl, rfl, rfl, by decide +kernel, rfl, by decide +kernel, by decide +kernel⟩
abbrev s__law_pick : Stmt := topS 9
abbrev N__law_pick : List Str := ["box", "items"]
abbrev p__law_pick : List Str := ["box", "items"]
theorem sc__law_pick : FnScope N__law_pick p__law_pick (defScope s__law_pick) := ⟨rfl, rfl, rfl, by decide +kernel, rfl, by decide +kernel, by decide +kernel⟩
abbrev s__law_fraction_error : Stmt := topS 12
abbrev N__law_fraction_error : List Str := ["thing", "one", "two"]
abbrev p__law_fraction_error : List Str := ["thing"]
theorem sc__law_fraction_error : FnScope N__law_fraction_error p__law_fraction_error (defScope s__law_fraction_error) := ⟨rfl, rfl, rfl, by decide +kernel, rfl, by decide +kernel, by decide +kernel⟩
abbrev s_move_error : Stmt := topS 5
abbrev N_move_error : List Str := ["value", "q", "t", "e", "v"]
abbrev p_move_error : List Str := ["value"]
theorem sc_move_error : FnScope N_move_error p_move_error (defScope s_move_error) := ⟨rfl, rfl, rfl, by decide +kernel, rfl, by decide +kernel, by decide +kernel⟩
abbrev s__law_odd : Stmt := topS 10
abbrev N__law_odd : List Str := ["box", "thing", "menu"]
abbrev p__law_odd : List Str := ["box", "thing"]
theorem sc__law_odd : FnScope N__law_odd p__law_odd (defScope s__law_odd) := ⟨rfl, rfl, rfl, by decide +kernel, rfl, by decide +kernel, by decide +kernel⟩
abbrev s__law_move_error : Stmt := topS 13
abbrev N__law_move_error : List Str := ["thing"]
abbrev p__law_move_error : List Str := ["thing"]
theorem sc__law_move_error : FnScope N__law_move_error p__law_move_error (defScope s__law_move_error) := ⟨rfl, rfl, rfl, by decide +kernel, rfl, by decide +kernel, by decide +kernel⟩
abbrev s__law_ratio : Stmt := topS 14
abbrev N__law_ratio : List Str := ["box", "small", "great", "prime", "menu"]
abbrev p__law_ratio : List Str := ["box"]
theorem sc__law_ratio : FnScope N__law_ratio p__law_ratio (defScope s__law_ratio) := ⟨rfl, rfl, rfl, by decide +kernel, rfl, by decide +kernel, by decide +kernel⟩
abbrev s__law_odd_ratio : Stmt := topS 15
abbrev N__law_odd_ratio : List Str := ["box", "own", "one", "two", "menu"]
abbrev p__law_odd_ratio : List Str := ["box", "own"]
theorem sc__law_odd_ratio : FnScope N__law_odd_ratio p__law_odd_ratio (defScope s__law_odd_ratio) := ⟨rfl, rfl, rfl, by decide +kernel, rfl, by decide +kernel, by decide +kernel⟩
abbrev s__law_moved : Stmt := topS 16
abbrev N__law_moved : List Str := ["box", "whole", "sides", "q", "t"]
abbrev p__law_moved : List Str := ["box"]
theorem sc__law_moved : FnScope N__law_moved p__law_moved (defScope s__law_moved) := ⟨rfl, rfl, rfl, by decide +kernel, rfl, by decide +kernel, by decide +kernel⟩
abbrev s__law_is_told : Stmt := topS 18
abbrev N__law_is_told : List Str := ["ratio", "move", "is_named", "kept", "due", "told"]
abbrev p__law_is_told : List Str := ["ratio", "move", "is_named"]
theorem sc__law_is_told : FnScope N__law_is_told p__law_is_told (defScope s__law_is_told) := ⟨rfl, rfl, rfl, by decide +kernel, rfl, by decide +kernel, by decide +kernel⟩
abbrev s__law_odd_move : Stmt := topS 17
abbrev N__law_odd_move : List Str := ["box", "own", "spot", "way"]
abbrev p__law_odd_move : List Str := ["box", "own"]
theorem sc__law_odd_move : FnScope N__law_odd_move p__law_odd_move (defScope s__law_odd_move) := ⟨rfl, rfl, rfl, by decide +kernel, rfl, by decide +kernel, by decide +kernel⟩
abbrev s_law : Stmt := topS 19
abbrev N_law : List Str := ["script", "box", "turn", "ratio", "move", "odd", "spot"]
abbrev p_law : List Str := ["script"]
theorem sc_law : FnScope N_law p_law (defScope s_law) := ⟨rfl, rfl, rfl, by decide +kernel, rfl, by decide +kernel, by decide +kernel⟩
structure Tx (K : PySem.W.Frag) (mg : Str → Option Value) : Prop where
  sys : sysIn K
  z_abs : mg "abs" = none
  z_bool : mg "bool" = none
  z_int : mg "int" = none
  z_isinstance : mg "isinstance" = none
  z_len : mg "len" = none
  z_list : mg "list" = none
  z_range : mg "range" = none
  z_repr : mg "repr" = none
  z_tuple : mg "tuple" = none
  i_gcd : mg "gcd" = some (.builtin "math.gcd")

def gKw_0 {α : Type} (xs : List α) : List α := xs
theorem gKw_0_rel {α β : Type} (R : α → β → Prop) (xs : List α) (ys : List β) (h : Paired R xs ys) : Paired R (gKw_0 xs) (gKw_0 ys) := h

/-! ### what the defs promise -/
def isI : PyData → Bool
  | .int _ => true
  | _ => false
def txt (s : String) : PyData := .str (Str.ofString s)
def fe2 : PyData → PyData → PyData
  | .int a, .int b => if b < 1 then txt "below" else if Nat.gcd a.natAbs b.natAbs > 1 then txt "terms" else .none
  | _, _ => txt "form"
def fe : PyData → PyData
  | .tuple xs => (match xs with
    | [x, y] => fe2 x y
    | _ => txt "form")
  | _ => txt "form"
def feN (x : PyData) : Bool := isNon (fe x)
def isZ2 : PyData → PyData → Bool
  | .int a, .int _ => decide (a = 0)
  | _, _ => false
def isZ : PyData → Bool
  | .tuple xs => (match xs with
    | [x, y] => isZ2 x y
    | _ => false)
  | _ => false
def is1 : PyData → Bool
  | .int a => decide (a = 1 ∨ a = -1)
  | _ => false
def me : PyData → PyData
  | .tuple xs => (match xs with
    | [q, t, e, v] => if feN q = false ∨ isZ q = true then txt "q" else if feN t = false then txt "t" else if is1 e = false then txt "e" else if isI v = true then .none else txt "v"
    | _ => txt "form")
  | _ => txt "form"
def one1 (f : PyData → PyData) : SpD := fun rs Q _ => match rs with
  | [.d x] => Q (.d (f x))
  | _ => False
def sp_is_integer : SpD := one1 fun x => .bool (isI x)
def sp_fraction_error : SpD := one1 fe
def sp_move_error : SpD := one1 me
def sp__law_is_whole : SpD := one1 fun x => .bool (isI x)
def sp__law_fraction_error : SpD := one1 fe
def sp__law_move_error : SpD := one1 me
def sp__law_box : SpD := fun rs Q _ => match rs with
  | [.scr ns] => ns.length ≤ 63 ∧ ∀ o, boxOk1 o → Q (.own o)
  | _ => False
abbrev sp__law_draw : SpD := spDraw
def sp__law_pick : SpD := fun rs Q _ => match rs with
  | [.box, .d (.list xs)] => 1 ≤ xs.length ∧ xs.length < 1000000 ∧ ∀ x ∈ xs, Q (.d x)
  | _ => False
def sp__law_odd : SpD := fun rs Q _ => match rs with
  | [.box, .d x] => ∃ n k, Tm n k x ∧ 80 ≤ n ∧ ∀ y, Tm (3 * n + 200) (k + 1) y → Q (.d y)
  | _ => False
def isRatio (y : PyData) : Prop := ∃ a b, y = .tuple [.int a, .int b] ∧ NumOk a ∧ NumOk b
def isMove (y : PyData) : Prop := ∃ q t e v, y = .tuple [q, t, e, v] ∧ isRatio q ∧ isRatio t ∧ Tm 200 1 e ∧ Tm 200 1 v
def sp__law_ratio : SpD := fun rs Q _ => match rs with
  | [.box] => ∀ y, isRatio y → Q (.d y)
  | _ => False
def sp__law_odd_ratio : SpD := fun rs Q _ => match rs with
  | [.box, .d x] => isRatio x ∧ ∀ y, Tm 2000 3 y → Q (.d y)
  | _ => False
def sp__law_moved : SpD := fun rs Q _ => match rs with
  | [.box] => ∀ y, isMove y → Q (.d y)
  | _ => False
def sp__law_odd_move : SpD := fun rs Q _ => match rs with
  | [.box, .d x] => isMove x ∧ ∀ y, Tm 12000 5 y → Q (.d y)
  | _ => False
def sp__law_is_told : SpD := fun rs Q _ => match rs with
  | [.d x, .d y, .d (.bool _)] => Tm 150000 8 x ∧ Tm 150000 8 y ∧ Q (.d (.bool true))
  | _ => False

section
variable {P : Program} {w : World} {K : PySem.W.Frag} {mg : Str → Option Value} {base : Heap}
noncomputable def d_is_integer : TSD :=
  tSeqD (tRetD (tAndD (tIsa .int (tVarD 0)) (tNotD (tIsa .bool (tVarD 0)))))
  (tNxD)
theorem b_is_integer (T : Tx K mg) (kin : K.In base) {f : Addr} {cdv : Value} {A : Around} {outer : List Env} {s : Shared} {H : Hp} {E : XK} (hr : Room 0 (A.deeper (envOfC "is_integer" (defScope s_is_integer) s.heap.objs.size f cdv))) (hg : A.guards = some []) : PSsD bx1 (cxOf (L2.CX P w) P w K mg base N_is_integer "is_integer" (defScope s_is_integer) f cdv A outer s H E) (WOf E) (defBody s_is_integer) d_is_integer := by
  have xb := XB.ofDef (P := P) (w := w) (mg := mg) (base := base) (E := E) (outer := outer) (H := H) sc_is_integer.nd hr hg T.sys kin
  exact sds_cons (sd_ret (pd_and (q_isa .int T.z_isinstance T.z_int (qv 0)) (pd_one (pd_not (q_isa .bool T.z_isinstance T.z_bool (qv 0))))))
    (sds_nil)
noncomputable def d__law_box_L1 : TSD :=
  tSeqD (tSetD 2 (tBinD gMod (tCallB gInt (tConsU (tBinD gAdd (tBinD gMul (tVarD 2) (tConD (.int 69069))) (tVarD 4)) tNilU)) (tConD (.int 4294967291))))
  (tNxD)
noncomputable def d__law_box_3 : TSD :=
  tSeqD (tRetD (tDispD (kConsD (tConD (.str (Str.ofString "great"))) (tLcD (tItVD false (tVarD 1)) (gNmD 4) (tTst (tBinD gGt (tVarD 4) (tBinD gPow (tConD (.int 10)) (tConD (.int 15))))) (tVarD 4) [4]) (kConsD (tConD (.str (Str.ofString "stirred"))) (tVarD 2) (kConsD (tConD (.str (Str.ofString "count"))) (tConD (.int 0)) (kNilD))))))
  (tNxD)
noncomputable def d__law_box_2 : TSD :=
  tFrzD 1 (tSeqD (tForD (tItVD true (tVarD 1)) (gNmD 4) (d__law_box_L1))
  (d__law_box_3))
noncomputable def d__law_box : TSD :=
  tSeqD (tParD 1 2 (tConsO (tLcD (tItVD false (tSlD (tVarD 0) (tNoO) (tSomeO (tConD (.int 63))))) (gNmD 3) (tYesD) (tBinD gAdd (tBinD gMul (tConD (.int 2)) (tCallB gAbs (tConsU (tVarD 3) tNilU))) (tCallB gInt (tConsU (tBinD gLt (tVarD 3) (tConD (.int 0))) tNilU))) [3]) (tConsO (tBinD gAdd (tConD (.int 40961)) (tCallB gLen (tConsU (tVarD 0) tNilU))) (tNilD))))
  (d__law_box_2)
theorem b__law_box (T : Tx K mg) (kin : K.In base) {f : Addr} {cdv : Value} {A : Around} {outer : List Env} {s : Shared} {H : Hp} {E : XK} (hr : Room 0 (A.deeper (envOfC "_law_box" (defScope s__law_box) s.heap.objs.size f cdv))) (hg : A.guards = some []) : PSsD bx1 (cxOf (L2.CX P w) P w K mg base N__law_box "_law_box" (defScope s__law_box) f cdv A outer s H E) (WOf E) (defBody s__law_box) d__law_box := by
  have xb := XB.ofDef (P := P) (w := w) (mg := mg) (base := base) (E := E) (outer := outer) (H := H) sc__law_box.nd hr hg T.sys kin
  exact sds_cons (q_par 1 2 xb (qo (q_lc [("cell", 3)] xb (pid_seq (pd_sl (qv 0) (pdo_none) (pdo_some (pd_int)))) (fun _ _ _ _ _ xbb => ⟨qgn 3 xbb, ptd_nil, pd_bin od_add (pd_bin od_mul (pd_int) (q_abs T.z_abs (qv 3))) (q_int T.z_int (qcmp (od_lt xbb.sys xbb.u64) (qv 3) (pd_int)))⟩)) (qo (pd_bin od_add (pd_int) (q_len T.z_len (qv 0))) (pdo_nil))))
    (sds_frz (i := 1) (sds_cons (q_for [4] xb (pid_seq (qv 1)) (qgn 4 xb) (sds_cons (q_set 2 xb (pd_bin od_mod (q_int T.z_int (pd_bin od_add (pd_bin od_mul (qv 2) (pd_int)) (qv 4))) (pd_int)))
    (sds_nil)))
    (sds_cons (sd_ret (q_disp (pkv_cons (pd_str) (q_lc [("mark", 4)] xb (pid_seq (qv 1)) (fun _ _ _ _ _ xbb => ⟨qgn 4 xbb, ptd_one (qtcmp (od_gt xbb.sys xbb.u64) (qv 4) (pd_bin od_pow (pd_int) (pd_int))), qv 4⟩)) (pkv_cons (pd_str) (qv 2) (pkv_cons (pd_str) (pd_int) (pkv_nil))))))
    (sds_nil))))
noncomputable def d__law_is_whole : TSD :=
  tSeqD (tRetD (tAndD (tIsa .int (tVarD 0)) (tNotD (tIsa .bool (tVarD 0)))))
  (tNxD)
theorem b__law_is_whole (T : Tx K mg) (kin : K.In base) {f : Addr} {cdv : Value} {A : Around} {outer : List Env} {s : Shared} {H : Hp} {E : XK} (hr : Room 0 (A.deeper (envOfC "_law_is_whole" (defScope s__law_is_whole) s.heap.objs.size f cdv))) (hg : A.guards = some []) : PSsD bx1 (cxOf (L2.CX P w) P w K mg base N__law_is_whole "_law_is_whole" (defScope s__law_is_whole) f cdv A outer s H E) (WOf E) (defBody s__law_is_whole) d__law_is_whole := by
  have xb := XB.ofDef (P := P) (w := w) (mg := mg) (base := base) (E := E) (outer := outer) (H := H) sc__law_is_whole.nd hr hg T.sys kin
  exact sds_cons (sd_ret (pd_and (q_isa .int T.z_isinstance T.z_int (qv 0)) (pd_one (pd_not (q_isa .bool T.z_isinstance T.z_bool (qv 0))))))
    (sds_nil)
noncomputable def d_fraction_error_3 : TSD :=
  tSeqD (tRetD (tIteD (tBinD gGt (tCallB gGcd (tConsU (tBinD gIx (tVarD 0) (tConD (.int 0))) (tConsU (tBinD gIx (tVarD 0) (tConD (.int 1))) tNilU))) (tConD (.int 1))) (tConD (.str (Str.ofString "terms"))) (tConD .none)))
  (tNxD)
noncomputable def d_fraction_error_2 : TSD :=
  tSeqD (tIfD (tBinD gLt (tBinD gIx (tVarD 0) (tConD (.int 1))) (tConD (.int 1))) (tSeqD (tRetD (tConD (.str (Str.ofString "below"))))
  (tNxD)) (tNxD))
  (d_fraction_error_3)
noncomputable def d_fraction_error : TSD :=
  tSeqD (tIfD (tOrD (tNotD (tIsa .tuple (tVarD 0))) (tOrD (tBinD gNe (tCallB gLen (tConsU (tVarD 0) tNilU)) (tConD (.int 2))) (tOrD (tNotD (tFn 1 sp_is_integer (tConsD (tBinD gIx (tVarD 0) (tConD (.int 0))) (tNilD)))) (tNotD (tFn 1 sp_is_integer (tConsD (tBinD gIx (tVarD 0) (tConD (.int 1))) (tNilD))))))) (tSeqD (tRetD (tConD (.str (Str.ofString "form"))))
  (tNxD)) (tNxD))
  (d_fraction_error_2)
theorem b_fraction_error (T : Tx K mg) (kin : K.In base) (F_is_integer : FnAt P w K mg base bx1 1 "is_integer" 1 p_is_integer sp_is_integer) {f : Addr} {cdv : Value} {A : Around} {outer : List Env} {s : Shared} {H : Hp} {E : XK} (hr : Room 1 (A.deeper (envOfC "fraction_error" (defScope s_fraction_error) s.heap.objs.size f cdv))) (hg : A.guards = some []) : PSsD bx1 (cxOf (L2.CX P w) P w K mg base N_fraction_error "fraction_error" (defScope s_fraction_error) f cdv A outer s H E) (WOf E) (defBody s_fraction_error) d_fraction_error := by
  have xb := XB.ofDef (P := P) (w := w) (mg := mg) (base := base) (E := E) (outer := outer) (H := H) sc_fraction_error.nd hr hg T.sys kin
  exact sds_cons (sd_if (PW.pt (pdt_or (pdt_not (qtv (q_isa .tuple T.z_isinstance T.z_tuple (qv 0)))) (pdt_or (qtcmp (od_ne xb.sys xb.u64) (q_len T.z_len (qv 0)) (pd_int)) (pdt_or (pdt_not (qtv (q_fn xb F_is_integer (qa (q_ix xb (qv 0) (pd_int)) (pda_nil))))) (pdt_or1 (pdt_not (qtv (q_fn xb F_is_integer (qa (q_ix xb (qv 0) (pd_int)) (pda_nil)))))))))) (sds_cons (sd_ret (pd_str))
    (sds_nil)) (sds_nil))
    (sds_cons (sd_if (qtcmp (od_lt xb.sys xb.u64) (q_ix xb (qv 0) (pd_int)) (pd_int)) (sds_cons (sd_ret (pd_str))
    (sds_nil)) (sds_nil))
    (sds_cons (sd_ret (pd_ite (qtcmp (od_gt xb.sys xb.u64) (q_gcd (tu := tDic0) T.i_gcd (q_ix xb (qv 0) (pd_int)) (q_ix xb (qv 0) (pd_int))) (pd_int)) (pd_str) (pd_non)))
    (sds_nil)))
noncomputable def d__law_pick : TSD :=
  tSeqD (tRetD (tBinD gIx (tVarD 1) (tFn 2 sp__law_draw (tConsD (tVarD 0) (tConsD (tCallB gLen (tConsU (tVarD 1) tNilU)) (tNilD))))))
  (tNxD)
theorem b__law_pick (T : Tx K mg) (kin : K.In base) (F__law_draw : FnAt P w K mg base bx1 1 "_law_draw" 2 p__law_draw sp__law_draw) {f : Addr} {cdv : Value} {A : Around} {outer : List Env} {s : Shared} {H : Hp} {E : XK} (hr : Room 1 (A.deeper (envOfC "_law_pick" (defScope s__law_pick) s.heap.objs.size f cdv))) (hg : A.guards = some []) : PSsD bx1 (cxOf (L2.CX P w) P w K mg base N__law_pick "_law_pick" (defScope s__law_pick) f cdv A outer s H E) (WOf E) (defBody s__law_pick) d__law_pick := by
  have xb := XB.ofDef (P := P) (w := w) (mg := mg) (base := base) (E := E) (outer := outer) (H := H) sc__law_pick.nd hr hg T.sys kin
  exact sds_cons (sd_ret (q_ix xb (qv 1) (q_fn xb F__law_draw (qa (qv 0) (qa (q_len T.z_len (qv 1)) (pda_nil))))))
    (sds_nil)
noncomputable def d__law_fraction_error_L1 : TSD :=
  tSeqD (tParD 1 2 (tConsO (tVarD 2) (tConsO (tBinD gMod (tCallB gInt (tConsU (tVarD 1) tNilU)) (tVarD 2)) (tNilD))))
  (tNxD)
noncomputable def d__law_fraction_error_5 : TSD :=
  tSeqD (tRetD (tIteD (tBinD gEq (tVarD 1) (tConD (.int 1))) (tConD .none) (tConD (.str (Str.ofString "terms")))))
  (tNxD)
noncomputable def d__law_fraction_error_4 : TSD :=
  tSeqD (tWhileD (tBinD gNe (tVarD 2) (tConD (.int 0))) (d__law_fraction_error_L1))
  (d__law_fraction_error_5)
noncomputable def d__law_fraction_error_3 : TSD :=
  tSeqD (tParD 1 2 (tConsO (tCallB gAbs (tConsU (tBinD gIx (tVarD 0) (tConD (.int 0))) tNilU)) (tConsO (tBinD gIx (tVarD 0) (tConD (.int 1))) (tNilD))))
  (d__law_fraction_error_4)
noncomputable def d__law_fraction_error_2 : TSD :=
  tSeqD (tIfD (tBinD gLt (tBinD gIx (tVarD 0) (tConD (.int 1))) (tConD (.int 1))) (tSeqD (tRetD (tConD (.str (Str.ofString "below"))))
  (tNxD)) (tNxD))
  (d__law_fraction_error_3)
noncomputable def d__law_fraction_error : TSD :=
  tSeqD (tIfD (tOrD (tNotD (tIsa .tuple (tVarD 0))) (tOrD (tBinD gNe (tCallB gLen (tConsU (tVarD 0) tNilU)) (tConD (.int 2))) (tOrD (tNotD (tFn 1 sp__law_is_whole (tConsD (tBinD gIx (tVarD 0) (tConD (.int 0))) (tNilD)))) (tNotD (tFn 1 sp__law_is_whole (tConsD (tBinD gIx (tVarD 0) (tConD (.int 1))) (tNilD))))))) (tSeqD (tRetD (tConD (.str (Str.ofString "form"))))
  (tNxD)) (tNxD))
  (d__law_fraction_error_2)
theorem b__law_fraction_error (T : Tx K mg) (kin : K.In base) (F__law_is_whole : FnAt P w K mg base bx1 1 "_law_is_whole" 1 p__law_is_whole sp__law_is_whole) {f : Addr} {cdv : Value} {A : Around} {outer : List Env} {s : Shared} {H : Hp} {E : XK} (hr : Room 1 (A.deeper (envOfC "_law_fraction_error" (defScope s__law_fraction_error) s.heap.objs.size f cdv))) (hg : A.guards = some []) : PSsD bx1 (cxOf (L2.CX P w) P w K mg base N__law_fraction_error "_law_fraction_error" (defScope s__law_fraction_error) f cdv A outer s H E) (WOf E) (defBody s__law_fraction_error) d__law_fraction_error := by
  have xb := XB.ofDef (P := P) (w := w) (mg := mg) (base := base) (E := E) (outer := outer) (H := H) sc__law_fraction_error.nd hr hg T.sys kin
  exact sds_cons (sd_if (PW.pt (pdt_or (pdt_not (qtv (q_isa .tuple T.z_isinstance T.z_tuple (qv 0)))) (pdt_or (qtcmp (od_ne xb.sys xb.u64) (q_len T.z_len (qv 0)) (pd_int)) (pdt_or (pdt_not (qtv (q_fn xb F__law_is_whole (qa (q_ix xb (qv 0) (pd_int)) (pda_nil))))) (pdt_or1 (pdt_not (qtv (q_fn xb F__law_is_whole (qa (q_ix xb (qv 0) (pd_int)) (pda_nil)))))))))) (sds_cons (sd_ret (pd_str))
    (sds_nil)) (sds_nil))
    (sds_cons (sd_if (qtcmp (od_lt xb.sys xb.u64) (q_ix xb (qv 0) (pd_int)) (pd_int)) (sds_cons (sd_ret (pd_str))
    (sds_nil)) (sds_nil))
    (sds_cons (q_par 1 2 xb (qo (q_abs T.z_abs (q_ix xb (qv 0) (pd_int))) (qo (q_ix xb (qv 0) (pd_int)) (pdo_nil))))
    (sds_cons (q_while xb (qtcmp (od_ne xb.sys xb.u64) (qv 2) (pd_int)) (sds_cons (q_par 1 2 xb (qo (qv 2) (qo (pd_bin od_mod (q_int T.z_int (qv 1)) (qv 2)) (pdo_nil))))
    (sds_nil)))
    (sds_cons (sd_ret (pd_ite (qtcmp (od_eq xb.sys xb.u64) (qv 1) (pd_int)) (pd_non) (pd_str)))
    (sds_nil)))))
noncomputable def d_move_error_6 : TSD :=
  tSeqD (tRetD (tIteD (tFn 1 sp_is_integer (tConsD (tVarD 4) (tNilD))) (tConD .none) (tConD (.str (Str.ofString "v")))))
  (tNxD)
noncomputable def d_move_error_5 : TSD :=
  tSeqD (tIfD (tOrD (tNotD (tFn 1 sp_is_integer (tConsD (tVarD 3) (tNilD)))) (tBinD (gIn true) (tVarD 3) (tTupD (tConsD (tConD (.int 1)) (tConsD (tUnD gNeg (tConD (.int 1))) (tNilD)))))) (tSeqD (tRetD (tConD (.str (Str.ofString "e"))))
  (tNxD)) (tNxD))
  (d_move_error_6)
noncomputable def d_move_error_4 : TSD :=
  tSeqD (tIfD (tBinD (gIs true) (tFn 1 sp_fraction_error (tConsD (tVarD 2) (tNilD))) (tConD .none)) (tSeqD (tRetD (tConD (.str (Str.ofString "t"))))
  (tNxD)) (tNxD))
  (d_move_error_5)
noncomputable def d_move_error_3 : TSD :=
  tSeqD (tIfD (tOrD (tBinD (gIs true) (tFn 1 sp_fraction_error (tConsD (tVarD 1) (tNilD))) (tConD .none)) (tBinD gEq (tVarD 1) (tTupD (tConsD (tConD (.int 0)) (tConsD (tConD (.int 1)) (tNilD)))))) (tSeqD (tRetD (tConD (.str (Str.ofString "q"))))
  (tNxD)) (tNxD))
  (d_move_error_4)
noncomputable def d_move_error_2 : TSD :=
  tSeqD (tAsgD (tVarD 0) (gTupD 4 (gConsD (gNmD 1) (gConsD (gNmD 2) (gConsD (gNmD 3) (gConsD (gNmD 4) (gNilD)))))))
  (d_move_error_3)
noncomputable def d_move_error : TSD :=
  tSeqD (tIfD (tOrD (tNotD (tIsa .tuple (tVarD 0))) (tBinD gNe (tCallB gLen (tConsU (tVarD 0) tNilU)) (tConD (.int 4)))) (tSeqD (tRetD (tConD (.str (Str.ofString "form"))))
  (tNxD)) (tNxD))
  (d_move_error_2)
theorem b_move_error (T : Tx K mg) (kin : K.In base) (F_is_integer : FnAt P w K mg base bx1 1 "is_integer" 1 p_is_integer sp_is_integer) (F_fraction_error : FnAt P w K mg base bx1 2 "fraction_error" 1 p_fraction_error sp_fraction_error) {f : Addr} {cdv : Value} {A : Around} {outer : List Env} {s : Shared} {H : Hp} {E : XK} (hr : Room 2 (A.deeper (envOfC "move_error" (defScope s_move_error) s.heap.objs.size f cdv))) (hg : A.guards = some []) : PSsD bx1 (cxOf (L2.CX P w) P w K mg base N_move_error "move_error" (defScope s_move_error) f cdv A outer s H E) (WOf E) (defBody s_move_error) d_move_error := by
  have xb := XB.ofDef (P := P) (w := w) (mg := mg) (base := base) (E := E) (outer := outer) (H := H) sc_move_error.nd hr hg T.sys kin
  exact sds_cons (sd_if (PW.pt (pdt_or (pdt_not (qtv (q_isa .tuple T.z_isinstance T.z_tuple (qv 0)))) (pdt_or1 (qtcmp (od_ne xb.sys xb.u64) (q_len T.z_len (qv 0)) (pd_int))))) (sds_cons (sd_ret (pd_str))
    (sds_nil)) (sds_nil))
    (sds_cons (q_asg [1, 2, 3, 4] (qv 0) (qgt xb (qgc (qgn 1 xb) (qgc (qgn 2 xb) (qgc (qgn 3 xb) (qgc (qgn 4 xb) (pgds_nil)))))))
    (sds_cons (sd_if (PW.pt (pdt_or (qtcmp od_isNot (q_fn xb F_fraction_error (qa (qv 1) (pda_nil))) (pd_non)) (pdt_or1 (qtcmp (od_eq xb.sys xb.u64) (qv 1) (pd_tup (qa (pd_int) (qa (pd_int) (pda_nil)))))))) (sds_cons (sd_ret (pd_str))
    (sds_nil)) (sds_nil))
    (sds_cons (sd_if (qtcmp od_isNot (q_fn xb F_fraction_error (qa (qv 2) (pda_nil))) (pd_non)) (sds_cons (sd_ret (pd_str))
    (sds_nil)) (sds_nil))
    (sds_cons (sd_if (PW.pt (pdt_or (pdt_not (qtv (q_fn xb F_is_integer (qa (qv 3) (pda_nil))))) (pdt_or1 (qtcmp (od_notIn xb.sys xb.u65) (qv 3) (pd_tup (qa (pd_int) (qa (pd_un ud_neg (pd_int)) (pda_nil)))))))) (sds_cons (sd_ret (pd_str))
    (sds_nil)) (sds_nil))
    (sds_cons (sd_ret (pd_ite (qtv (q_fn xb F_is_integer (qa (qv 4) (pda_nil)))) (pd_non) (pd_str)))
    (sds_nil))))))
noncomputable def d__law_odd_2 : TSD :=
  tSeqD (tRetD (tFn 2 sp__law_pick (tConsD (tVarD 0) (tConsD (tBinD gAdd (tVarD 2) (tLstD (tConsD (tVarD 1) (tConsD (tTupD (tConsD (tVarD 1) (tConsD (tVarD 1) (tNilD)))) (tConsD (tLstD (tConsD (tVarD 1) (tConsD (tVarD 1) (tNilD)))) (tConsD (tConD (.int 0)) (tConsD (tConD (.int 1)) (tConsD (tConD (.int 10000)) (tConsD (tUnD gNeg (tConD (.int 10000))) (tConsD (tConD (.int 128)) (tConsD (tConD (.int 8)) (tConsD (tConD (.int 1000)) (tNilD))))))))))))) (tNilD)))))
  (tNxD)
noncomputable def d__law_odd : TSD :=
  tSeqD (tSetD 2 (tLstD (tConsD (tConD .none) (tConsD (tConD (.bool true)) (tConsD (tConD (.bool false)) (tConsD (tUnD gNeg (tConD (.int 1))) (tConsD (tBinD gPow (tConD (.int 10)) (tConD (.int 30))) (tConsD (tUnD gNeg (tBinD gPow (tConD (.int 10)) (tConD (.int 30)))) (tConsD (tConD (.str (Str.ofString ""))) (tConsD (tConD (.str (Str.ofString "0"))) (tConsD (tTupD (tNilD)) (tConsD (tLstD (tNilD)) (tConsD (tDic0) (tConsD (tTupD (tConsD (tVarD 1) (tNilD))) (tConsD (tLstD (tConsD (tVarD 1) (tNilD))) (tConsD (tDispD (kConsD (tConD (.str (Str.ofString "a"))) (tVarD 1) (kNilD))) (tConsD (tConD (.str (Str.ofString "none"))) (tNilD))))))))))))))))))
  (d__law_odd_2)
theorem b__law_odd (T : Tx K mg) (kin : K.In base) (F__law_pick : FnAt P w K mg base bx1 2 "_law_pick" 2 p__law_pick sp__law_pick) {f : Addr} {cdv : Value} {A : Around} {outer : List Env} {s : Shared} {H : Hp} {E : XK} (hr : Room 2 (A.deeper (envOfC "_law_odd" (defScope s__law_odd) s.heap.objs.size f cdv))) (hg : A.guards = some []) : PSsD bx1 (cxOf (L2.CX P w) P w K mg base N__law_odd "_law_odd" (defScope s__law_odd) f cdv A outer s H E) (WOf E) (defBody s__law_odd) d__law_odd := by
  have xb := XB.ofDef (P := P) (w := w) (mg := mg) (base := base) (E := E) (outer := outer) (H := H) sc__law_odd.nd hr hg T.sys kin
  exact sds_cons (q_set 2 xb (pd_lst (qa (pd_non) (qa (pd_bl) (qa (pd_bl) (qa (pd_un ud_neg (pd_int)) (qa (pd_bin od_pow (pd_int) (pd_int)) (qa (pd_un ud_neg (pd_bin od_pow (pd_int) (pd_int))) (qa (pd_str) (qa (pd_str) (qa (pd_tup (pda_nil)) (qa (pd_lst (pda_nil)) (qa (pd_dic0) (qa (pd_tup (qa (qv 1) (pda_nil))) (qa (pd_lst (qa (qv 1) (pda_nil))) (qa (q_disp (pkv_cons (pd_str) (qv 1) (pkv_nil))) (qa (pd_str) (pda_nil))))))))))))))))))
    (sds_cons (sd_ret (q_fn xb F__law_pick (qa (qv 0) (qa (pd_bin od_add (qv 2) (pd_lst (qa (qv 1) (qa (pd_tup (qa (qv 1) (qa (qv 1) (pda_nil)))) (qa (pd_lst (qa (qv 1) (qa (qv 1) (pda_nil)))) (qa (pd_int) (qa (pd_int) (qa (pd_int) (qa (pd_un ud_neg (pd_int)) (qa (pd_int) (qa (pd_int) (qa (pd_int) (pda_nil))))))))))))) (pda_nil)))))
    (sds_nil))
noncomputable def d__law_move_error_5 : TSD :=
  tSeqD (tRetD (tIteD (tFn 1 sp__law_is_whole (tConsD (tBinD gIx (tVarD 0) (tConD (.int 3))) (tNilD))) (tConD .none) (tConD (.str (Str.ofString "v")))))
  (tNxD)
noncomputable def d__law_move_error_4 : TSD :=
  tSeqD (tIfD (tOrD (tNotD (tFn 1 sp__law_is_whole (tConsD (tBinD gIx (tVarD 0) (tConD (.int 2))) (tNilD)))) (tBinD gNe (tCallB gAbs (tConsU (tBinD gIx (tVarD 0) (tConD (.int 2))) tNilU)) (tConD (.int 1)))) (tSeqD (tRetD (tConD (.str (Str.ofString "e"))))
  (tNxD)) (tNxD))
  (d__law_move_error_5)
noncomputable def d__law_move_error_3 : TSD :=
  tSeqD (tIfD (tBinD (gIs true) (tFn 1 sp__law_fraction_error (tConsD (tBinD gIx (tVarD 0) (tConD (.int 1))) (tNilD))) (tConD .none)) (tSeqD (tRetD (tConD (.str (Str.ofString "t"))))
  (tNxD)) (tNxD))
  (d__law_move_error_4)
noncomputable def d__law_move_error_2 : TSD :=
  tSeqD (tIfD (tOrD (tBinD (gIs true) (tFn 1 sp__law_fraction_error (tConsD (tBinD gIx (tVarD 0) (tConD (.int 0))) (tNilD))) (tConD .none)) (tBinD gEq (tBinD gIx (tBinD gIx (tVarD 0) (tConD (.int 0))) (tConD (.int 0))) (tConD (.int 0)))) (tSeqD (tRetD (tConD (.str (Str.ofString "q"))))
  (tNxD)) (tNxD))
  (d__law_move_error_3)
noncomputable def d__law_move_error : TSD :=
  tSeqD (tIfD (tOrD (tNotD (tIsa .tuple (tVarD 0))) (tBinD gNe (tCallB gLen (tConsU (tVarD 0) tNilU)) (tConD (.int 4)))) (tSeqD (tRetD (tConD (.str (Str.ofString "form"))))
  (tNxD)) (tNxD))
  (d__law_move_error_2)
theorem b__law_move_error (T : Tx K mg) (kin : K.In base) (F__law_is_whole : FnAt P w K mg base bx1 1 "_law_is_whole" 1 p__law_is_whole sp__law_is_whole) (F__law_fraction_error : FnAt P w K mg base bx1 2 "_law_fraction_error" 1 p__law_fraction_error sp__law_fraction_error) {f : Addr} {cdv : Value} {A : Around} {outer : List Env} {s : Shared} {H : Hp} {E : XK} (hr : Room 2 (A.deeper (envOfC "_law_move_error" (defScope s__law_move_error) s.heap.objs.size f cdv))) (hg : A.guards = some []) : PSsD bx1 (cxOf (L2.CX P w) P w K mg base N__law_move_error "_law_move_error" (defScope s__law_move_error) f cdv A outer s H E) (WOf E) (defBody s__law_move_error) d__law_move_error := by
  have xb := XB.ofDef (P := P) (w := w) (mg := mg) (base := base) (E := E) (outer := outer) (H := H) sc__law_move_error.nd hr hg T.sys kin
  exact sds_cons (sd_if (PW.pt (pdt_or (pdt_not (qtv (q_isa .tuple T.z_isinstance T.z_tuple (qv 0)))) (pdt_or1 (qtcmp (od_ne xb.sys xb.u64) (q_len T.z_len (qv 0)) (pd_int))))) (sds_cons (sd_ret (pd_str))
    (sds_nil)) (sds_nil))
    (sds_cons (sd_if (PW.pt (pdt_or (qtcmp od_isNot (q_fn xb F__law_fraction_error (qa (q_ix xb (qv 0) (pd_int)) (pda_nil))) (pd_non)) (pdt_or1 (qtcmp (od_eq xb.sys xb.u64) (q_ix xb (q_ix xb (qv 0) (pd_int)) (pd_int)) (pd_int))))) (sds_cons (sd_ret (pd_str))
    (sds_nil)) (sds_nil))
    (sds_cons (sd_if (qtcmp od_isNot (q_fn xb F__law_fraction_error (qa (q_ix xb (qv 0) (pd_int)) (pda_nil))) (pd_non)) (sds_cons (sd_ret (pd_str))
    (sds_nil)) (sds_nil))
    (sds_cons (sd_if (PW.pt (pdt_or (pdt_not (qtv (q_fn xb F__law_is_whole (qa (q_ix xb (qv 0) (pd_int)) (pda_nil))))) (pdt_or1 (qtcmp (od_ne xb.sys xb.u64) (q_abs T.z_abs (q_ix xb (qv 0) (pd_int))) (pd_int))))) (sds_cons (sd_ret (pd_str))
    (sds_nil)) (sds_nil))
    (sds_cons (sd_ret (pd_ite (qtv (q_fn xb F__law_is_whole (qa (q_ix xb (qv 0) (pd_int)) (pda_nil)))) (pd_non) (pd_str)))
    (sds_nil)))))
noncomputable def d__law_ratio_5 : TSD :=
  tSeqD (tRetD (tFn 2 sp__law_pick (tConsD (tVarD 0) (tConsD (tBinD gAdd (tVarD 4) (tLstD (tConsD (tTupD (tConsD (tBinD gMul (tVarD 3) (tBinD gIx (tVarD 1) (tConD (.int 0)))) (tConsD (tBinD gMul (tVarD 3) (tBinD gIx (tVarD 1) (tConD (.int 1)))) (tNilD)))) (tConsD (tTupD (tConsD (tBinD gAdd (tBinD gPow (tConD (.int 10)) (tConD (.int 39))) (tConD (.int 1))) (tConsD (tBinD gPow (tConD (.int 10)) (tConD (.int 39))) (tNilD)))) (tConsD (tTupD (tConsD (tConD (.int 0)) (tConsD (tConD (.int 0)) (tNilD)))) (tConsD (tTupD (tConsD (tConD (.int 6)) (tConsD (tConD (.int 35)) (tNilD)))) (tNilD))))))) (tNilD)))))
  (tNxD)
noncomputable def d__law_ratio_4 : TSD :=
  tSeqD (tSetD 4 (tLstD (tConsD (tVarD 1) (tConsD (tVarD 1) (tConsD (tTupD (tConsD (tBinD gIx (tVarD 1) (tConD (.int 0))) (tConsD (tConD (.int 1)) (tNilD)))) (tConsD (tTupD (tConsD (tConD (.int 1)) (tConsD (tConD (.int 1)) (tNilD)))) (tConsD (tTupD (tConsD (tUnD gNeg (tConD (.int 1))) (tConsD (tConD (.int 1)) (tNilD)))) (tConsD (tTupD (tConsD (tConD (.int 0)) (tConsD (tConD (.int 1)) (tNilD)))) (tConsD (tTupD (tConsD (tConD (.int 0)) (tConsD (tConD (.int 2)) (tNilD)))) (tConsD (tTupD (tConsD (tConD (.int 2)) (tConsD (tConD (.int 4)) (tNilD)))) (tConsD (tTupD (tConsD (tConD (.int 1)) (tConsD (tConD (.int 0)) (tNilD)))) (tConsD (tTupD (tConsD (tConD (.int 1)) (tConsD (tUnD gNeg (tConD (.int 2))) (tNilD)))) (tConsD (tTupD (tConsD (tUnD gNeg (tConD (.int 3))) (tConsD (tConD (.int 2)) (tNilD)))) (tConsD (tVarD 2) (tNilD)))))))))))))))
  (d__law_ratio_5)
noncomputable def d__law_ratio_3 : TSD :=
  tSeqD (tSetD 3 (tBinD gAdd (tBinD gPow (tConD (.int 10)) (tConD (.int 9))) (tConD (.int 7))))
  (d__law_ratio_4)
noncomputable def d__law_ratio_2 : TSD :=
  tSeqD (tSetD 2 (tTupD (tConsD (tBinD gSub (tFn 2 sp__law_draw (tConsD (tVarD 0) (tConsD (tBinD gPow (tConD (.int 10)) (tConD (.int 18))) (tNilD)))) (tBinD gMul (tConD (.int 5)) (tBinD gPow (tConD (.int 10)) (tConD (.int 17))))) (tConsD (tBinD gAdd (tConD (.int 1)) (tFn 2 sp__law_draw (tConsD (tVarD 0) (tConsD (tBinD gPow (tConD (.int 10)) (tConD (.int 9))) (tNilD))))) (tNilD)))))
  (d__law_ratio_3)
noncomputable def d__law_ratio : TSD :=
  tSeqD (tSetD 1 (tTupD (tConsD (tBinD gSub (tFn 2 sp__law_draw (tConsD (tVarD 0) (tConsD (tConD (.int 13)) (tNilD)))) (tConD (.int 6))) (tConsD (tBinD gAdd (tConD (.int 1)) (tFn 2 sp__law_draw (tConsD (tVarD 0) (tConsD (tConD (.int 6)) (tNilD))))) (tNilD)))))
  (d__law_ratio_2)
theorem b__law_ratio (T : Tx K mg) (kin : K.In base) (F__law_draw : FnAt P w K mg base bx1 1 "_law_draw" 2 p__law_draw sp__law_draw) (F__law_pick : FnAt P w K mg base bx1 2 "_law_pick" 2 p__law_pick sp__law_pick) {f : Addr} {cdv : Value} {A : Around} {outer : List Env} {s : Shared} {H : Hp} {E : XK} (hr : Room 2 (A.deeper (envOfC "_law_ratio" (defScope s__law_ratio) s.heap.objs.size f cdv))) (hg : A.guards = some []) : PSsD bx1 (cxOf (L2.CX P w) P w K mg base N__law_ratio "_law_ratio" (defScope s__law_ratio) f cdv A outer s H E) (WOf E) (defBody s__law_ratio) d__law_ratio := by
  have xb := XB.ofDef (P := P) (w := w) (mg := mg) (base := base) (E := E) (outer := outer) (H := H) sc__law_ratio.nd hr hg T.sys kin
  exact sds_cons (q_set 1 xb (pd_tup (qa (pd_bin od_sub (q_fn xb F__law_draw (qa (qv 0) (qa (pd_int) (pda_nil)))) (pd_int)) (qa (pd_bin od_add (pd_int) (q_fn xb F__law_draw (qa (qv 0) (qa (pd_int) (pda_nil))))) (pda_nil)))))
    (sds_cons (q_set 2 xb (pd_tup (qa (pd_bin od_sub (q_fn xb F__law_draw (qa (qv 0) (qa (pd_bin od_pow (pd_int) (pd_int)) (pda_nil)))) (pd_bin od_mul (pd_int) (pd_bin od_pow (pd_int) (pd_int)))) (qa (pd_bin od_add (pd_int) (q_fn xb F__law_draw (qa (qv 0) (qa (pd_bin od_pow (pd_int) (pd_int)) (pda_nil))))) (pda_nil)))))
    (sds_cons (q_set 3 xb (pd_bin od_add (pd_bin od_pow (pd_int) (pd_int)) (pd_int)))
    (sds_cons (q_set 4 xb (pd_lst (qa (qv 1) (qa (qv 1) (qa (pd_tup (qa (q_ix xb (qv 1) (pd_int)) (qa (pd_int) (pda_nil)))) (qa (pd_tup (qa (pd_int) (qa (pd_int) (pda_nil)))) (qa (pd_tup (qa (pd_un ud_neg (pd_int)) (qa (pd_int) (pda_nil)))) (qa (pd_tup (qa (pd_int) (qa (pd_int) (pda_nil)))) (qa (pd_tup (qa (pd_int) (qa (pd_int) (pda_nil)))) (qa (pd_tup (qa (pd_int) (qa (pd_int) (pda_nil)))) (qa (pd_tup (qa (pd_int) (qa (pd_int) (pda_nil)))) (qa (pd_tup (qa (pd_int) (qa (pd_un ud_neg (pd_int)) (pda_nil)))) (qa (pd_tup (qa (pd_un ud_neg (pd_int)) (qa (pd_int) (pda_nil)))) (qa (qv 2) (pda_nil)))))))))))))))
    (sds_cons (sd_ret (q_fn xb F__law_pick (qa (qv 0) (qa (pd_bin od_add (qv 4) (pd_lst (qa (pd_tup (qa (pd_bin od_mul (qv 3) (q_ix xb (qv 1) (pd_int))) (qa (pd_bin od_mul (qv 3) (q_ix xb (qv 1) (pd_int))) (pda_nil)))) (qa (pd_tup (qa (pd_bin od_add (pd_bin od_pow (pd_int) (pd_int)) (pd_int)) (qa (pd_bin od_pow (pd_int) (pd_int)) (pda_nil)))) (qa (pd_tup (qa (pd_int) (qa (pd_int) (pda_nil)))) (qa (pd_tup (qa (pd_int) (qa (pd_int) (pda_nil)))) (pda_nil))))))) (pda_nil)))))
    (sds_nil)))))
noncomputable def d__law_odd_ratio_3 : TSD :=
  tSeqD (tRetD (tFn 2 sp__law_pick (tConsD (tVarD 0) (tConsD (tBinD gAdd (tVarD 4) (tLstD (tConsD (tTupD (tConsD (tConD (.bool true)) (tConsD (tConD (.int 1)) (tNilD)))) (tConsD (tTupD (tConsD (tConD (.int 1)) (tConsD (tConD (.bool true)) (tNilD)))) (tConsD (tTupD (tConsD (tVarD 2) (tConsD (tUnD gNeg (tVarD 3)) (tNilD)))) (tConsD (tTupD (tConsD (tVarD 3) (tConsD (tVarD 2) (tNilD)))) (tConsD (tTupD (tConsD (tTupD (tConsD (tVarD 2) (tConsD (tVarD 3) (tNilD)))) (tNilD))) (tConsD (tConD (.str (Str.ofString "1/2"))) (tConsD (tTupD (tConsD (tConD (.str (Str.ofString "1"))) (tConsD (tConD (.str (Str.ofString "2"))) (tNilD)))) (tConsD (tVarD 1) (tNilD))))))))))) (tNilD)))))
  (tNxD)
noncomputable def d__law_odd_ratio_2 : TSD :=
  tSeqD (tSetD 4 (tLstD (tConsD (tLstD (tConsD (tVarD 2) (tConsD (tVarD 3) (tNilD)))) (tConsD (tTupD (tConsD (tVarD 2) (tNilD))) (tConsD (tTupD (tConsD (tVarD 2) (tConsD (tVarD 3) (tConsD (tConD (.int 1)) (tNilD))))) (tConsD (tConD .none) (tConsD (tVarD 2) (tConsD (tTupD (tConsD (tFn 2 sp__law_odd (tConsD (tVarD 0) (tConsD (tVarD 2) (tNilD)))) (tConsD (tVarD 3) (tNilD)))) (tConsD (tTupD (tConsD (tVarD 2) (tConsD (tFn 2 sp__law_odd (tConsD (tVarD 0) (tConsD (tVarD 3) (tNilD)))) (tNilD)))) (tConsD (tDic0) (tNilD)))))))))))
  (d__law_odd_ratio_3)
noncomputable def d__law_odd_ratio : TSD :=
  tSeqD (tAsgD (tVarD 1) (gTupD 2 (gConsD (gNmD 2) (gConsD (gNmD 3) (gNilD)))))
  (d__law_odd_ratio_2)
theorem b__law_odd_ratio (T : Tx K mg) (kin : K.In base) (F__law_pick : FnAt P w K mg base bx1 2 "_law_pick" 2 p__law_pick sp__law_pick) (F__law_odd : FnAt P w K mg base bx1 3 "_law_odd" 2 p__law_odd sp__law_odd) {f : Addr} {cdv : Value} {A : Around} {outer : List Env} {s : Shared} {H : Hp} {E : XK} (hr : Room 3 (A.deeper (envOfC "_law_odd_ratio" (defScope s__law_odd_ratio) s.heap.objs.size f cdv))) (hg : A.guards = some []) : PSsD bx1 (cxOf (L2.CX P w) P w K mg base N__law_odd_ratio "_law_odd_ratio" (defScope s__law_odd_ratio) f cdv A outer s H E) (WOf E) (defBody s__law_odd_ratio) d__law_odd_ratio := by
  have xb := XB.ofDef (P := P) (w := w) (mg := mg) (base := base) (E := E) (outer := outer) (H := H) sc__law_odd_ratio.nd hr hg T.sys kin
  exact sds_cons (q_asg [2, 3] (qv 1) (qgt xb (qgc (qgn 2 xb) (qgc (qgn 3 xb) (pgds_nil)))))
    (sds_cons (q_set 4 xb (pd_lst (qa (pd_lst (qa (qv 2) (qa (qv 3) (pda_nil)))) (qa (pd_tup (qa (qv 2) (pda_nil))) (qa (pd_tup (qa (qv 2) (qa (qv 3) (qa (pd_int) (pda_nil))))) (qa (pd_non) (qa (qv 2) (qa (pd_tup (qa (q_fn xb F__law_odd (qa (qv 0) (qa (qv 2) (pda_nil)))) (qa (qv 3) (pda_nil)))) (qa (pd_tup (qa (qv 2) (qa (q_fn xb F__law_odd (qa (qv 0) (qa (qv 3) (pda_nil)))) (pda_nil)))) (qa (pd_dic0) (pda_nil)))))))))))
    (sds_cons (sd_ret (q_fn xb F__law_pick (qa (qv 0) (qa (pd_bin od_add (qv 4) (pd_lst (qa (pd_tup (qa (pd_bl) (qa (pd_int) (pda_nil)))) (qa (pd_tup (qa (pd_int) (qa (pd_bl) (pda_nil)))) (qa (pd_tup (qa (qv 2) (qa (pd_un ud_neg (qv 3)) (pda_nil)))) (qa (pd_tup (qa (qv 3) (qa (qv 2) (pda_nil)))) (qa (pd_tup (qa (pd_tup (qa (qv 2) (qa (qv 3) (pda_nil)))) (pda_nil))) (qa (pd_str) (qa (pd_tup (qa (pd_str) (qa (pd_str) (pda_nil)))) (qa (qv 1) (pda_nil))))))))))) (pda_nil)))))
    (sds_nil)))
noncomputable def d__law_moved_5 : TSD :=
  tFrzD 4 (tFrzD 2 (tFrzD 3 (tSeqD (tRetD (tTupD (tConsD (tVarD 3) (tConsD (tVarD 4) (tConsD (tFn 2 sp__law_pick (tConsD (tVarD 0) (tConsD (tVarD 2) (tNilD)))) (tConsD (tFn 2 sp__law_pick (tConsD (tVarD 0) (tConsD (tLstD (tConsD (tVarD 1) (tConsD (tVarD 1) (tConsD (tVarD 1) (tConsD (tBinD gPow (tConD (.int 10)) (tConD (.int 30))) (tNilD)))))) (tNilD)))) (tNilD)))))))
  (tNxD))))
noncomputable def d__law_moved_4 : TSD :=
  tSeqD (tSetD 4 (tFn 2 sp__law_pick (tConsD (tVarD 0) (tConsD (tLstD (tConsD (tTupD (tConsD (tConD (.int 0)) (tConsD (tConD (.int 1)) (tNilD)))) (tConsD (tTupD (tConsD (tVarD 1) (tConsD (tConD (.int 1)) (tNilD)))) (tConsD (tTupD (tConsD (tUnD gNeg (tConD (.int 5))) (tConsD (tConD (.int 2)) (tNilD)))) (tConsD (tTupD (tConsD (tConD (.int 1)) (tConsD (tConD (.int 3)) (tNilD)))) (tConsD (tTupD (tConsD (tBinD gAdd (tBinD gPow (tConD (.int 10)) (tConD (.int 39))) (tConD (.int 1))) (tConsD (tBinD gPow (tConD (.int 10)) (tConD (.int 39))) (tNilD)))) (tConsD (tTupD (tConsD (tVarD 1) (tConsD (tConD (.int 1)) (tNilD)))) (tConsD (tFn 1 sp__law_ratio (tConsD (tVarD 0) (tNilD))) (tNilD))))))))) (tNilD)))))
  (d__law_moved_5)
noncomputable def d__law_moved_3 : TSD :=
  tSeqD (tSetD 3 (tFn 2 sp__law_pick (tConsD (tVarD 0) (tConsD (tLstD (tConsD (tTupD (tConsD (tConD (.int 1)) (tConsD (tConD (.int 1)) (tNilD)))) (tConsD (tTupD (tConsD (tUnD gNeg (tConD (.int 1))) (tConsD (tConD (.int 1)) (tNilD)))) (tConsD (tTupD (tConsD (tConD (.int 1)) (tConsD (tConD (.int 2)) (tNilD)))) (tConsD (tTupD (tConsD (tUnD gNeg (tConD (.int 3))) (tConsD (tConD (.int 2)) (tNilD)))) (tConsD (tTupD (tConsD (tConD (.int 2)) (tConsD (tConD (.int 1)) (tNilD)))) (tConsD (tTupD (tConsD (tConD (.int 7)) (tConsD (tConD (.int 12)) (tNilD)))) (tConsD (tTupD (tConsD (tBinD gAdd (tBinD gPow (tConD (.int 10)) (tConD (.int 9))) (tConD (.int 7))) (tConsD (tConD (.int 2)) (tNilD)))) (tConsD (tFn 1 sp__law_ratio (tConsD (tVarD 0) (tNilD))) (tNilD)))))))))) (tNilD)))))
  (d__law_moved_4)
noncomputable def d__law_moved_2 : TSD :=
  tSeqD (tSetD 2 (tLstD (tConsD (tConD (.int 1)) (tConsD (tUnD gNeg (tConD (.int 1))) (tConsD (tConD (.int 1)) (tConsD (tUnD gNeg (tConD (.int 1))) (tConsD (tFn 2 sp__law_pick (tConsD (tVarD 0) (tConsD (tLstD (tConsD (tConD (.int 0)) (tConsD (tConD (.int 2)) (tConsD (tConD (.bool true)) (tConsD (tUnD gNeg (tConD (.int 2))) (tConsD (tBinD gPow (tConD (.int 10)) (tConD (.int 20))) (tConsD (tConD .none) (tConsD (tTupD (tConsD (tConD (.int 1)) (tConsD (tConD (.int 1)) (tNilD)))) (tNilD))))))))) (tNilD)))) (tNilD))))))))
  (d__law_moved_3)
noncomputable def d__law_moved : TSD :=
  tSeqD (tSetD 1 (tBinD gSub (tFn 2 sp__law_draw (tConsD (tVarD 0) (tConsD (tConD (.int 21)) (tNilD)))) (tConD (.int 10))))
  (d__law_moved_2)
theorem b__law_moved (T : Tx K mg) (kin : K.In base) (F__law_draw : FnAt P w K mg base bx1 1 "_law_draw" 2 p__law_draw sp__law_draw) (F__law_pick : FnAt P w K mg base bx1 2 "_law_pick" 2 p__law_pick sp__law_pick) (F__law_ratio : FnAt P w K mg base bx1 3 "_law_ratio" 1 p__law_ratio sp__law_ratio) {f : Addr} {cdv : Value} {A : Around} {outer : List Env} {s : Shared} {H : Hp} {E : XK} (hr : Room 3 (A.deeper (envOfC "_law_moved" (defScope s__law_moved) s.heap.objs.size f cdv))) (hg : A.guards = some []) : PSsD bx1 (cxOf (L2.CX P w) P w K mg base N__law_moved "_law_moved" (defScope s__law_moved) f cdv A outer s H E) (WOf E) (defBody s__law_moved) d__law_moved := by
  have xb := XB.ofDef (P := P) (w := w) (mg := mg) (base := base) (E := E) (outer := outer) (H := H) sc__law_moved.nd hr hg T.sys kin
  exact sds_cons (q_set 1 xb (pd_bin od_sub (q_fn xb F__law_draw (qa (qv 0) (qa (pd_int) (pda_nil)))) (pd_int)))
    (sds_cons (q_set 2 xb (pd_lst (qa (pd_int) (qa (pd_un ud_neg (pd_int)) (qa (pd_int) (qa (pd_un ud_neg (pd_int)) (qa (q_fn xb F__law_pick (qa (qv 0) (qa (pd_lst (qa (pd_int) (qa (pd_int) (qa (pd_bl) (qa (pd_un ud_neg (pd_int)) (qa (pd_bin od_pow (pd_int) (pd_int)) (qa (pd_non) (qa (pd_tup (qa (pd_int) (qa (pd_int) (pda_nil)))) (pda_nil))))))))) (pda_nil)))) (pda_nil))))))))
    (sds_cons (q_set 3 xb (q_fn xb F__law_pick (qa (qv 0) (qa (pd_lst (qa (pd_tup (qa (pd_int) (qa (pd_int) (pda_nil)))) (qa (pd_tup (qa (pd_un ud_neg (pd_int)) (qa (pd_int) (pda_nil)))) (qa (pd_tup (qa (pd_int) (qa (pd_int) (pda_nil)))) (qa (pd_tup (qa (pd_un ud_neg (pd_int)) (qa (pd_int) (pda_nil)))) (qa (pd_tup (qa (pd_int) (qa (pd_int) (pda_nil)))) (qa (pd_tup (qa (pd_int) (qa (pd_int) (pda_nil)))) (qa (pd_tup (qa (pd_bin od_add (pd_bin od_pow (pd_int) (pd_int)) (pd_int)) (qa (pd_int) (pda_nil)))) (qa (q_fn xb F__law_ratio (qa (qv 0) (pda_nil))) (pda_nil)))))))))) (pda_nil)))))
    (sds_cons (q_set 4 xb (q_fn xb F__law_pick (qa (qv 0) (qa (pd_lst (qa (pd_tup (qa (pd_int) (qa (pd_int) (pda_nil)))) (qa (pd_tup (qa (qv 1) (qa (pd_int) (pda_nil)))) (qa (pd_tup (qa (pd_un ud_neg (pd_int)) (qa (pd_int) (pda_nil)))) (qa (pd_tup (qa (pd_int) (qa (pd_int) (pda_nil)))) (qa (pd_tup (qa (pd_bin od_add (pd_bin od_pow (pd_int) (pd_int)) (pd_int)) (qa (pd_bin od_pow (pd_int) (pd_int)) (pda_nil)))) (qa (pd_tup (qa (qv 1) (qa (pd_int) (pda_nil)))) (qa (q_fn xb F__law_ratio (qa (qv 0) (pda_nil))) (pda_nil))))))))) (pda_nil)))))
    (sds_frz (i := 4) (sds_frz (i := 2) (sds_frz (i := 3) (sds_cons (sd_ret (pd_tup (qa (qv 3) (qa (qv 4) (qa (q_fn xb F__law_pick (qa (qv 0) (qa (qv 2) (pda_nil)))) (qa (q_fn xb F__law_pick (qa (qv 0) (qa (pd_lst (qa (qv 1) (qa (qv 1) (qa (qv 1) (qa (pd_bin od_pow (pd_int) (pd_int)) (pda_nil)))))) (pda_nil)))) (pda_nil)))))))
    (sds_nil))))))))
noncomputable def d__law_is_told_4 : TSD :=
  tFrzD 5 (tFrzD 4 (tSeqD (tRetD (tBinD gEq (tCallB gRepr (tConsU (tLstD (tConsD (tVarD 5) (tConsD (tCallB gRepr (tConsU (tLstD (tConsD (tVarD 0) (tConsD (tVarD 1) (tNilD)))) tNilU)) (tNilD)))) tNilU)) (tCallB gRepr (tConsU (tLstD (tConsD (tVarD 4) (tConsD (tVarD 3) (tNilD)))) tNilU))))
  (tNxD)))
noncomputable def d__law_is_told_3 : TSD :=
  tSeqD (tAppD 5 (tIteD (tVarD 2) (tFnK 1 gKw_0 sp_move_error (tConsD (tVarD 1) (tNilD))) (tFn 1 sp_move_error (tConsD (tVarD 1) (tNilD)))))
  (d__law_is_told_4)
noncomputable def d__law_is_told_2 : TSD :=
  tSeqD (tSetD 5 (tLstD (tConsD (tIteD (tVarD 2) (tFnK 1 gKw_0 sp_fraction_error (tConsD (tVarD 0) (tNilD))) (tFn 1 sp_fraction_error (tConsD (tVarD 0) (tNilD)))) (tNilD))))
  (d__law_is_told_3)
noncomputable def d__law_is_told : TSD :=
  tSeqD (tParD 3 4 (tConsO (tCallB gRepr (tConsU (tLstD (tConsD (tVarD 0) (tConsD (tVarD 1) (tNilD)))) tNilU)) (tConsO (tLstD (tConsD (tFn 1 sp__law_fraction_error (tConsD (tVarD 0) (tNilD))) (tConsD (tFn 1 sp__law_move_error (tConsD (tVarD 1) (tNilD))) (tNilD)))) (tNilD))))
  (d__law_is_told_2)
theorem b__law_is_told (T : Tx K mg) (kin : K.In base) (F_fraction_error : FnAt P w K mg base bx1 2 "fraction_error" 1 p_fraction_error sp_fraction_error) (F_move_error : FnAt P w K mg base bx1 3 "move_error" 1 p_move_error sp_move_error) (F__law_fraction_error : FnAt P w K mg base bx1 2 "_law_fraction_error" 1 p__law_fraction_error sp__law_fraction_error) (F__law_move_error : FnAt P w K mg base bx1 3 "_law_move_error" 1 p__law_move_error sp__law_move_error) (K_fraction_error_0 : FnKw P w K mg base bx1 2 "fraction_error" 1 p_fraction_error ["value"] gKw_0 sp_fraction_error) (K_move_error_0 : FnKw P w K mg base bx1 3 "move_error" 1 p_move_error ["value"] gKw_0 sp_move_error) {f : Addr} {cdv : Value} {A : Around} {outer : List Env} {s : Shared} {H : Hp} {E : XK} (hr : Room 3 (A.deeper (envOfC "_law_is_told" (defScope s__law_is_told) s.heap.objs.size f cdv))) (hg : A.guards = some []) : PSsD bx1 (cxOf (L2.CX P w) P w K mg base N__law_is_told "_law_is_told" (defScope s__law_is_told) f cdv A outer s H E) (WOf E) (defBody s__law_is_told) d__law_is_told := by
  have xb := XB.ofDef (P := P) (w := w) (mg := mg) (base := base) (E := E) (outer := outer) (H := H) sc__law_is_told.nd hr hg T.sys kin
  exact sds_cons (q_par 3 4 xb (qo (q_repr xb T.z_repr (pd_lst (qa (qv 0) (qa (qv 1) (pda_nil))))) (qo (pd_lst (qa (q_fn xb F__law_fraction_error (qa (qv 0) (pda_nil))) (qa (q_fn xb F__law_move_error (qa (qv 1) (pda_nil))) (pda_nil)))) (pdo_nil))))
    (sds_cons (q_set 5 xb (pd_lst (qa (pd_ite (qtv (qv 2)) (q_fnK xb K_fraction_error_0 (pdk_cons (qv 0) (pdk_nil)) gKw_0_rel) (q_fn xb F_fraction_error (qa (qv 0) (pda_nil)))) (pda_nil))))
    (sds_cons (q_append 5 (pd_ite (qtv (qv 2)) (q_fnK xb K_move_error_0 (pdk_cons (qv 1) (pdk_nil)) gKw_0_rel) (q_fn xb F_move_error (qa (qv 1) (pda_nil)))))
    (sds_frz (i := 5) (sds_frz (i := 4) (sds_cons (sd_ret (qcmp (od_eq xb.sys xb.u64) (q_repr xb T.z_repr (pd_lst (qa (qv 5) (qa (q_repr xb T.z_repr (pd_lst (qa (qv 0) (qa (qv 1) (pda_nil))))) (pda_nil))))) (q_repr xb T.z_repr (pd_lst (qa (qv 4) (qa (qv 3) (pda_nil)))))))
    (sds_nil))))))
noncomputable def d__law_odd_move_4 : TSD :=
  tSeqD (tRetD (tBinD gAdd (tBinD gAdd (tSlD (tVarD 1) (tNoO) (tSomeO (tVarD 2))) (tTupD (tConsD (tFn 2 sp__law_odd (tConsD (tVarD 0) (tConsD (tBinD gIx (tVarD 1) (tVarD 2)) (tNilD)))) (tNilD)))) (tSlD (tVarD 1) (tSomeO (tBinD gAdd (tVarD 2) (tConD (.int 1)))) (tNoO))))
  (tNxD)
noncomputable def d__law_odd_move_3 : TSD :=
  tSeqD (tIfD (tAndD (tBinD gEq (tVarD 3) (tConD (.int 1))) (tBinD gLt (tVarD 2) (tConD (.int 2)))) (tSeqD (tRetD (tBinD gAdd (tBinD gAdd (tSlD (tVarD 1) (tNoO) (tSomeO (tVarD 2))) (tTupD (tConsD (tFn 2 sp__law_odd_ratio (tConsD (tVarD 0) (tConsD (tBinD gIx (tVarD 1) (tVarD 2)) (tNilD)))) (tNilD)))) (tSlD (tVarD 1) (tSomeO (tBinD gAdd (tVarD 2) (tConD (.int 1)))) (tNoO))))
  (tNxD)) (tNxD))
  (d__law_odd_move_4)
noncomputable def d__law_odd_move_2 : TSD :=
  tSeqD (tIfD (tBinD gEq (tVarD 3) (tConD (.int 0))) (tSeqD (tRetD (tFn 2 sp__law_pick (tConsD (tVarD 0) (tConsD (tLstD (tConsD (tCallB gList (tConsU (tVarD 1) tNilU)) (tConsD (tSlD (tVarD 1) (tNoO) (tSomeO (tConD (.int 3)))) (tConsD (tBinD gAdd (tVarD 1) (tTupD (tConsD (tConD (.int 0)) (tNilD)))) (tConsD (tUnD gRevS (tVarD 1)) (tConsD (tConD .none) (tConsD (tDic0) (tConsD (tConD (.str (Str.ofString ""))) (tConsD (tBinD gIx (tVarD 1) (tConD (.int 0))) (tConsD (tTupD (tConsD (tVarD 1) (tNilD))) (tConsD (tTupD (tNilD)) (tConsD (tSlD (tVarD 1) (tSomeO (tConD (.int 1))) (tNoO)) (tNilD))))))))))))) (tNilD)))))
  (tNxD)) (tNxD))
  (d__law_odd_move_3)
noncomputable def d__law_odd_move : TSD :=
  tSeqD (tParD 2 3 (tConsO (tFn 2 sp__law_draw (tConsD (tVarD 0) (tConsD (tConD (.int 4)) (tNilD)))) (tConsO (tFn 2 sp__law_draw (tConsD (tVarD 0) (tConsD (tConD (.int 4)) (tNilD)))) (tNilD))))
  (d__law_odd_move_2)
theorem b__law_odd_move (T : Tx K mg) (kin : K.In base) (F__law_draw : FnAt P w K mg base bx1 1 "_law_draw" 2 p__law_draw sp__law_draw) (F__law_pick : FnAt P w K mg base bx1 2 "_law_pick" 2 p__law_pick sp__law_pick) (F__law_odd : FnAt P w K mg base bx1 3 "_law_odd" 2 p__law_odd sp__law_odd) (F__law_odd_ratio : FnAt P w K mg base bx1 4 "_law_odd_ratio" 2 p__law_odd_ratio sp__law_odd_ratio) {f : Addr} {cdv : Value} {A : Around} {outer : List Env} {s : Shared} {H : Hp} {E : XK} (hr : Room 4 (A.deeper (envOfC "_law_odd_move" (defScope s__law_odd_move) s.heap.objs.size f cdv))) (hg : A.guards = some []) : PSsD bx1 (cxOf (L2.CX P w) P w K mg base N__law_odd_move "_law_odd_move" (defScope s__law_odd_move) f cdv A outer s H E) (WOf E) (defBody s__law_odd_move) d__law_odd_move := by
  have xb := XB.ofDef (P := P) (w := w) (mg := mg) (base := base) (E := E) (outer := outer) (H := H) sc__law_odd_move.nd hr hg T.sys kin
  exact sds_cons (q_par 2 3 xb (qo (q_fn xb F__law_draw (qa (qv 0) (qa (pd_int) (pda_nil)))) (qo (q_fn xb F__law_draw (qa (qv 0) (qa (pd_int) (pda_nil)))) (pdo_nil))))
    (sds_cons (sd_if (qtcmp (od_eq xb.sys xb.u64) (qv 3) (pd_int)) (sds_cons (sd_ret (q_fn xb F__law_pick (qa (qv 0) (qa (pd_lst (qa (q_list T.z_list (qv 1)) (qa (pd_sl (qv 1) (pdo_none) (pdo_some (pd_int))) (qa (pd_bin od_add (qv 1) (pd_tup (qa (pd_int) (pda_nil)))) (qa (q_revS (qv 1)) (qa (pd_non) (qa (pd_dic0) (qa (pd_str) (qa (q_ix xb (qv 1) (pd_int)) (qa (pd_tup (qa (qv 1) (pda_nil))) (qa (pd_tup (pda_nil)) (qa (pd_sl (qv 1) (pdo_some (pd_int)) (pdo_none)) (pda_nil))))))))))))) (pda_nil)))))
    (sds_nil)) (sds_nil))
    (sds_cons (sd_if (PW.pt (pdt_and (qtcmp (od_eq xb.sys xb.u64) (qv 3) (pd_int)) (pdt_and1 (qtcmp (od_lt xb.sys xb.u64) (qv 2) (pd_int))))) (sds_cons (sd_ret (pd_bin od_add (pd_bin od_add (pd_sl (qv 1) (pdo_none) (pdo_some (qv 2))) (pd_tup (qa (q_fn xb F__law_odd_ratio (qa (qv 0) (qa (q_ix xb (qv 1) (qv 2)) (pda_nil)))) (pda_nil)))) (pd_sl (qv 1) (pdo_some (pd_bin od_add (qv 2) (pd_int))) (pdo_none))))
    (sds_nil)) (sds_nil))
    (sds_cons (sd_ret (pd_bin od_add (pd_bin od_add (pd_sl (qv 1) (pdo_none) (pdo_some (qv 2))) (pd_tup (qa (q_fn xb F__law_odd (qa (qv 0) (qa (q_ix xb (qv 1) (qv 2)) (pda_nil)))) (pda_nil)))) (pd_sl (qv 1) (pdo_some (pd_bin od_add (qv 2) (pd_int))) (pdo_none))))
    (sds_nil))))
noncomputable def d_law_I5_2 : TSD :=
  tFrzD 5 (tFrzD 1 (tSeqD (tIfD (tNotD (tFn 3 sp__law_is_told (tConsD (tVarD 5) (tConsD (tBinD gAdd (tBinD gAdd (tSlD (tVarD 5) (tNoO) (tSomeO (tVarD 6))) (tTupD (tConsD (tFn 2 sp__law_odd (tConsD (tVarD 1) (tConsD (tBinD gIx (tVarD 5) (tVarD 6)) (tNilD)))) (tNilD)))) (tSlD (tVarD 5) (tSomeO (tBinD gAdd (tVarD 6) (tConD (.int 1)))) (tNoO))) (tConsD (tConD (.bool false)) (tNilD)))))) (tSeqD (tRetD (tConD (.bool false)))
  (tNxD)) (tNxD))
  (tNxD)))
noncomputable def d_law_L1_5 : TSD :=
  tSeqD (tIfD (tAndD (tIsa .tuple (tVarD 5)) (tBinD gEq (tCallB gLen (tConsU (tVarD 5) tNilU)) (tConD (.int 4)))) (tFrzD 1 (tSeqD (tSetD 6 (tBinD gAdd (tConD (.int 2)) (tFn 2 sp__law_draw (tConsD (tVarD 1) (tConsD (tConD (.int 2)) (tNilD))))))
  (d_law_I5_2))) (tNxD))
  (tNxD)
noncomputable def d_law_L1_4 : TSD :=
  tFrzD 3 (tFrzD 5 (tFrzD 1 (tSeqD (tIfD (tNotD (tFn 3 sp__law_is_told (tConsD (tFn 2 sp__law_odd_ratio (tConsD (tVarD 1) (tConsD (tVarD 3) (tNilD)))) (tConsD (tVarD 5) (tConsD (tBinD gEq (tBinD gMod (tCallB gInt (tConsU (tVarD 2) tNilU)) (tConD (.int 4))) (tConD (.int 2))) (tNilD)))))) (tSeqD (tRetD (tConD (.bool false)))
  (tNxD)) (tNxD))
  (d_law_L1_5))))
noncomputable def d_law_L1_3 : TSD :=
  tFrzD 4 (tFrzD 1 (tSeqD (tSetD 5 (tFn 2 sp__law_odd_move (tConsD (tVarD 1) (tConsD (tVarD 4) (tNilD)))))
  (d_law_L1_4)))
noncomputable def d_law_L1_2 : TSD :=
  tFrzD 3 (tFrzD 4 (tSeqD (tIfD (tNotD (tFn 3 sp__law_is_told (tConsD (tVarD 3) (tConsD (tVarD 4) (tConsD (tBinD gEq (tBinD gMod (tCallB gInt (tConsU (tVarD 2) tNilU)) (tConD (.int 4))) (tConD (.int 1))) (tNilD)))))) (tSeqD (tRetD (tConD (.bool false)))
  (tNxD)) (tNxD))
  (d_law_L1_3)))
noncomputable def d_law_L1 : TSD :=
  tFrzD 1 (tSeqD (tParD 3 4 (tConsO (tFn 1 sp__law_ratio (tConsD (tVarD 1) (tNilD))) (tConsO (tFn 1 sp__law_moved (tConsD (tVarD 1) (tNilD))) (tNilD))))
  (d_law_L1_2))
noncomputable def d_law_2 : TSD :=
  tSeqD (tRetD (tConD (.bool true)))
  (tNxD)
noncomputable def d_law : TSD :=
  tSeqD (tForD (tRng1 (tConsU (tConD (.int 16)) (tNilU))) (gNmD 2) (d_law_L1))
  (d_law_2)
theorem b_law (T : Tx K mg) (kin : K.In base) (F__law_box : FnAt P w K mg base bx1 1 "_law_box" 1 p__law_box sp__law_box) (F__law_draw : FnAt P w K mg base bx1 1 "_law_draw" 2 p__law_draw sp__law_draw) (F__law_odd : FnAt P w K mg base bx1 3 "_law_odd" 2 p__law_odd sp__law_odd) (F__law_ratio : FnAt P w K mg base bx1 3 "_law_ratio" 1 p__law_ratio sp__law_ratio) (F__law_odd_ratio : FnAt P w K mg base bx1 4 "_law_odd_ratio" 2 p__law_odd_ratio sp__law_odd_ratio) (F__law_moved : FnAt P w K mg base bx1 4 "_law_moved" 1 p__law_moved sp__law_moved) (F__law_odd_move : FnAt P w K mg base bx1 5 "_law_odd_move" 2 p__law_odd_move sp__law_odd_move) (F__law_is_told : FnAt P w K mg base bx1 4 "_law_is_told" 3 p__law_is_told sp__law_is_told) {f : Addr} {cdv : Value} {A : Around} {outer : List Env} {s : Shared} {H : Hp} {E : XK} (hr : Room 5 (A.deeper (envOfC "law" (defScope s_law) s.heap.objs.size f cdv))) (hg : A.guards = some []) : ∃ s0 rest, defBody s_law = s0 :: rest ∧ PSD bx1 (cxOf (L2.CX P w) P w K mg base N_law "law" (defScope s_law) f cdv A outer s H E) (WOf E) s0 (tSetD 1 (tFn 1 sp__law_box (tConsD (tVarD 0) (tNilD)))) ∧ PSsD bx1 (cxOf (L2.CX P w) P w K mg base N_law "law" (defScope s_law) f cdv A outer s H E) (WOf E) rest d_law := by
  have xb := XB.ofDef (P := P) (w := w) (mg := mg) (base := base) (E := E) (outer := outer) (H := H) sc_law.nd hr hg T.sys kin
  exact ⟨_, _, rfl, q_set 1 xb (q_fn xb F__law_box (qa (qv 0) (pda_nil))), sds_cons (q_for [2] xb (q_rng1 T.z_range (qu (pd_int) (pdu_nil))) (qgn 2 xb) (sds_frz (i := 1) (sds_cons (q_par 3 4 xb (qo (q_fn xb F__law_ratio (qa (qv 1) (pda_nil))) (qo (q_fn xb F__law_moved (qa (qv 1) (pda_nil))) (pdo_nil))))
    (sds_frz (i := 3) (sds_frz (i := 4) (sds_cons (sd_if (pdt_not (qtv (q_fn xb F__law_is_told (qa (qv 3) (qa (qv 4) (qa (qcmp (od_eq xb.sys xb.u64) (pd_bin od_mod (q_int T.z_int (qv 2)) (pd_int)) (pd_int)) (pda_nil))))))) (sds_cons (sd_ret (pd_bl))
    (sds_nil)) (sds_nil))
    (sds_frz (i := 4) (sds_frz (i := 1) (sds_cons (q_set 5 xb (q_fn xb F__law_odd_move (qa (qv 1) (qa (qv 4) (pda_nil)))))
    (sds_frz (i := 3) (sds_frz (i := 5) (sds_frz (i := 1) (sds_cons (sd_if (pdt_not (qtv (q_fn xb F__law_is_told (qa (q_fn xb F__law_odd_ratio (qa (qv 1) (qa (qv 3) (pda_nil)))) (qa (qv 5) (qa (qcmp (od_eq xb.sys xb.u64) (pd_bin od_mod (q_int T.z_int (qv 2)) (pd_int)) (pd_int)) (pda_nil))))))) (sds_cons (sd_ret (pd_bl))
    (sds_nil)) (sds_nil))
    (sds_cons (sd_if (PW.pt (pdt_and (qtv (q_isa .tuple T.z_isinstance T.z_tuple (qv 5))) (pdt_and1 (qtcmp (od_eq xb.sys xb.u64) (q_len T.z_len (qv 5)) (pd_int))))) (sds_frz (i := 1) (sds_cons (q_set 6 xb (pd_bin od_add (pd_int) (q_fn xb F__law_draw (qa (qv 1) (qa (pd_int) (pda_nil))))))
    (sds_frz (i := 5) (sds_frz (i := 1) (sds_cons (sd_if (pdt_not (qtv (q_fn xb F__law_is_told (qa (qv 5) (qa (pd_bin od_add (pd_bin od_add (pd_sl (qv 5) (pdo_none) (pdo_some (qv 6))) (pd_tup (qa (q_fn xb F__law_odd (qa (qv 1) (qa (q_ix xb (qv 5) (qv 6)) (pda_nil)))) (pda_nil)))) (pd_sl (qv 5) (pdo_some (pd_bin od_add (qv 6) (pd_int))) (pdo_none))) (qa (pd_bl) (pda_nil))))))) (sds_cons (sd_ret (pd_bl))
    (sds_nil)) (sds_nil))
    (sds_nil)))))) (sds_nil))
    (sds_nil)))))))))))))))
    (sds_cons (sd_ret (pd_bl))
    (sds_nil))⟩
theorem b__law_draw (T : Tx K mg) (kin : K.In base) {f : Addr} {cdv : Value} {A : Around} {outer : List Env} {s : Shared} {H : Hp} {E : XK} (hr : Room 0 (A.deeper (envOfC "_law_draw" (defScope s__law_draw) s.heap.objs.size f cdv))) (hg : A.guards = some []) : PSs (cxOf (L2.CX P w) P w K mg base N__law_draw "_law_draw" (defScope s__law_draw) f cdv A outer s H E) (defBody s__law_draw) (tDr1 (cxOf (L2.CX P w) P w K mg base N__law_draw "_law_draw" (defScope s__law_draw) f cdv A outer s H E) (WOf E)) := by
  have xb := XB.ofDef (P := P) (w := w) (mg := mg) (base := base) (E := E) (outer := outer) (H := H) sc__law_draw.nd hr hg T.sys kin
  exact pss_cons (ps_set (i := 2) sc__law_draw.nd rfl (.inl rfl) (pe_dget xb.u1 (pv 0) pe_str (fun _ _ => rfl)))
    (pss_cons (ps_if (qtcmp (od_ne xb.sys xb.u64) (qv 2) (pd_lst pda_nil))
      (pss_cons (ps_set (i := 3) sc__law_draw.nd rfl (.inl rfl) (q_ix xb (qv 2) pd_int))
      (pss_cons (ps_asg (pd_bin od_fdiv (qv 3) (qv 1)) (pg_sub (pv 2) pe_int set_list))
      (pss_cons (ps_if (qtcmp (od_lt xb.sys xb.u64) (qv 3) (qv 1)) (pss_cons (ps_expr (pe_bm PySem.F.plainAttrs_list PySem.F.slot_list_pop PySem.F.type_list_pop mt_popAt (pv 2) (pa_cons pe_int pa_nil))) pss_nil) pss_nil)
      (pss_cons (ps_ret (pd_bin od_mod (q_int T.z_int (qv 3)) (qv 1))) pss_nil)))) pss_nil)
    (pss_cons (ps_set (i := 4) sc__law_draw.nd rfl (.inl rfl) (pd_bin od_add (q_ix xb (qv 0) pd_str) pd_int))
    (pss_cons (ps_asg (qv 4) (pg_sub (pv 0) pe_str (set_dict xb.u1)))
    (pss_cons (ps_set (i := 5) sc__law_draw.nd rfl (.inl rfl) (pd_bin od_mod (q_int T.z_int (pd_bin od_add (q_ix xb (qv 0) pd_str) (pd_bin od_mul pd_int (qv 4)))) pd_int))
    (pss_cons (ps_set (i := 5) sc__law_draw.nd rfl (.inl rfl) (pd_bin od_mod (q_int T.z_int (pd_bin od_add (pd_bin od_add (pd_bin od_mul (qv 5) (qv 5)) (pd_bin od_mul pd_int (qv 4))) pd_int)) pd_int))
    (pss_cons (ps_set (i := 5) sc__law_draw.nd rfl (.inl rfl) (pd_bin od_mod (q_int T.z_int (pd_bin od_add (pd_bin od_mul (qv 5) (qv 5)) (q_ix xb (qv 0) pd_str))) pd_int))
    (pss_cons (ps_ret (pd_bin od_mod (q_int T.z_int (pd_bin od_fdiv (qv 5) pd_int)) (qv 1))) pss_nil)))))))
end

/-! ### the readings keep the promises -/
theorem one1_inv {f : PyData → PyData} {rs : List RV} {Q : RV → Prop} {Ex : Err → Prop} (h : one1 f rs Q Ex) : ∃ x, rs = [.d x] ∧ Q (.d (f x)) := by
  unfold one1 at h
  split at h
  · exact ⟨_, rfl, h⟩
  · exact h.elim
theorem h_is_integer : ∀ rs Q Ex, rs.length = 1 → sp_is_integer rs Q Ex → d_is_integer (fnEnds Q Ex) (startD N_is_integer.length rs) := by
  intro rs Q Ex _ h
  obtain ⟨x, rfl, h⟩ := one1_inv h
  cases x <;> exact h
theorem h__law_is_whole : ∀ rs Q Ex, rs.length = 1 → sp__law_is_whole rs Q Ex → d__law_is_whole (fnEnds Q Ex) (startD N__law_is_whole.length rs) := by
  intro rs Q Ex _ h
  obtain ⟨x, rfl, h⟩ := one1_inv h
  cases x <;> exact h
theorem lenNe {xs : List PyData} {k : Nat} (h : xs.length ≠ k) : ¬ (PyData.eqv (.int (xs.length : Nat)) (.int (k : Nat))) = true := by
  intro z
  have z : ((xs.length : Int) == (k : Int)) = true := z
  rw [beq_iff_eq] at z
  omega
theorem notT {b : Bool} (h : ¬ (!b) = true) : b = true := by
  cases b
  · exact absurd rfl h
  · rfl
theorem h_fraction_error : ∀ rs Q Ex, rs.length = 1 → sp_fraction_error rs Q Ex → d_fraction_error (fnEnds Q Ex) (startD N_fraction_error.length rs) := by
  intro rs Q Ex _ h
  obtain ⟨x, rfl, q⟩ := one1_inv h
  clear h
  cases x with
  | tuple xs =>
    have big : xs.length ≠ 2 → Q (.d (txt "form")) → d_fraction_error (fnEnds Q Ex) (startD N_fraction_error.length [.d (.tuple xs)]) := fun hn q => by
      refine ⟨.inr ⟨rfl, rfl⟩, ?_⟩
      refine ite2 (fun _ => q) fun hc => ?_
      exact absurd (notT hc) (lenNe hn)
    match xs, big, q with
    | [], big, q => exact big (by decide) q
    | [a], big, q => exact big (by simp) q
    | a :: b :: c :: r, big, q => exact big (by simp) q
    | [a, b], _, q =>
      refine ⟨.inr ⟨rfl, rfl⟩, ?_⟩
      refine ⟨a, rfl, ?_⟩
      cases a with
      | int i =>
        refine ⟨rfl, ?_⟩
        refine ⟨b, rfl, ?_⟩
        cases b with
        | int j =>
          refine ⟨rfl, ?_⟩
          refine ⟨_, rfl, ?_⟩
          refine ite2 (fun hc => ?_) fun hc => ?_
          · have hc : j < 1 := of_decide_eq_true hc
            have e : fe (.tuple [.int i, .int j]) = txt "below" := if_pos hc
            rw [e] at q
            exact q
          · have hc : ¬ j < 1 := fun z => hc (decide_eq_true z)
            refine ⟨_, rfl, _, rfl, ?_⟩
            refine ite2 (fun hg => ?_) fun hg => ?_
            · have hg : (1 : Int) < (Nat.gcd i.natAbs j.natAbs : Nat) := of_decide_eq_true hg
              have e : fe (.tuple [.int i, .int j]) = txt "terms" := by
                show (if j < 1 then _ else _) = _
                rw [if_neg hc, if_pos (by omega)]
              rw [e] at q
              exact q
            · have hg : ¬ (1 : Int) < (Nat.gcd i.natAbs j.natAbs : Nat) := fun z => hg (decide_eq_true z)
              have e : fe (.tuple [.int i, .int j]) = .none := by
                show (if j < 1 then _ else _) = _
                rw [if_neg hc, if_neg (by omega)]
              rw [e] at q
              exact q
        | _ => exact ⟨rfl, q⟩
      | _ => exact ⟨rfl, q⟩
  | _ => exact q
theorem feN_is {x : PyData} (h : feN x = true) : ∃ a b : Int, x = .tuple [.int a, .int b] ∧ 1 ≤ b ∧ Nat.gcd a.natAbs b.natAbs ≤ 1 := by
  unfold feN fe at h
  split at h
  · rename_i xs
    split at h
    · rename_i x y
      unfold fe2 at h
      split at h
      · rename_i a b
        split at h
        · cases h
        · rename_i h1
          split at h
          · cases h
          · rename_i h2
            exact ⟨a, b, rfl, by omega, by omega⟩
      · cases h
    · cases h
  · cases h
theorem isZ_eqv {x : PyData} (h : feN x = true) : PyData.eqv x (.tuple [.int 0, .int 1]) = isZ x := by
  obtain ⟨a, b, rfl, hb, hg⟩ := feN_is h
  show (a == 0 && (b == 1 && true)) = decide (a = 0)
  by_cases e : a = 0
  · subst e
    have : b.natAbs ≤ 1 := by simpa using hg
    have e2 : b = 1 := by omega
    subst e2
    rfl
  · rw [decide_eq_false e]
    have : (a == 0) = false := beq_eq_false_iff_ne.mpr e
    rw [this]
    rfl
theorem xorT {b : Bool} (h : ¬ (xor true b) = true) : b = true := by
  cases b
  · exact absurd rfl h
  · rfl
theorem xorF {b : Bool} (h : (xor true b) = true) : b = false := by
  cases b
  · rfl
  · cases h
theorem shaped2 (a b : Int) : SeqAt.shaped (.tuple [.int a, .int b]) = true := rfl
theorem is1_in (a : Int) : xor true ([PyData.int 1, .int (-1)].any fun z => PyData.eqv z (.int a)) = !is1 (.int a) := by
  show xor true (((1 : Int) == a) || (((-1 : Int) == a) || false)) = !decide (a = 1 ∨ a = -1)
  by_cases h1 : a = 1
  · subst h1; rfl
  · by_cases h2 : a = -1
    · subst h2; rfl
    · rw [decide_eq_false (by omega), beq_eq_false_iff_ne.mpr (fun e => h1 e.symm), beq_eq_false_iff_ne.mpr (fun e => h2 e.symm)]
      rfl
theorem h_move_error : ∀ rs Q Ex, rs.length = 1 → sp_move_error rs Q Ex → d_move_error (fnEnds Q Ex) (startD N_move_error.length rs) := by
  intro rs Q Ex _ h
  obtain ⟨x, rfl, q⟩ := one1_inv h
  clear h
  cases x with
  | tuple xs =>
    have big : xs.length ≠ 4 → Q (.d (txt "form")) → d_move_error (fnEnds Q Ex) (startD N_move_error.length [.d (.tuple xs)]) := fun hn q => by
      refine ⟨.inr ⟨rfl, rfl⟩, ?_⟩
      refine ite2 (fun _ => q) fun hc => ?_
      exact absurd (notT hc) (lenNe hn)
    match xs, big, q with
    | [], big, q => exact big (by decide) q
    | [a], big, q => exact big (by simp) q
    | [a, b], big, q => exact big (by simp) q
    | [a, b, c], big, q => exact big (by simp) q
    | a :: b :: c :: d :: f :: r, big, q => exact big (by simp) q
    | [x, y, e, v], _, q =>
      refine ⟨.inr ⟨rfl, rfl⟩, ?_⟩
      refine ⟨rfl, ?_⟩
      refine ⟨rfl, ?_⟩
      refine ⟨rfl, ?_⟩
      refine ⟨rfl, ?_⟩
      show if (xor true (isNon (fe x))) = true then _ else _
      by_cases hx : feN x = true
      · refine ite2 (fun hc => ?_) fun _ => ?_
        · exact absurd hx (by rw [show feN x = isNon (fe x) from rfl, xorF hc]; exact nofun)
        obtain ⟨a, b, ex, hb, hg⟩ := feN_is hx
        refine ⟨by decide, .inr ⟨by rw [ex]; rfl, rfl⟩, ?_⟩
        rw [isZ_eqv hx]
        by_cases hz : isZ x = true
        · rw [hz]
          have e1 : me (.tuple [x, y, e, v]) = txt "q" := if_pos (.inr hz)
          rw [e1] at q
          exact q
        · have hz : isZ x = false := by simpa using hz
          rw [hz]
          refine ⟨rfl, rfl, ?_⟩
          have pre : me (.tuple [x, y, e, v]) = if feN y = false then txt "t" else if is1 e = false then txt "e" else if isI v = true then .none else txt "v" := by
            show (if _ then _ else _) = _
            rw [if_neg (by rw [hx, hz]; decide)]
          rw [pre] at q
          by_cases hy : feN y = true
          · rw [if_neg (by rw [hy]; decide)] at q
            rw [show (xor true (isNon (fe y))) = false by rw [show isNon (fe y) = true from hy]; rfl]
            refine ⟨rfl, ?_⟩
            cases e with
            | int a =>
              refine ⟨by decide, rfl, rfl, ?_⟩
              show if (xor true ([PyData.int 1, .int (-1)].any fun z => PyData.eqv z (.int a))) = true then _ else _
              rw [is1_in]
              by_cases h1 : is1 (.int a) = true
              · rw [h1]
                rw [if_neg (by rw [h1]; decide)] at q
                refine ⟨rfl, ?_⟩
                cases v <;> exact q
              · have h1 : is1 (.int a) = false := by simpa using h1
                rw [h1]
                rw [if_pos h1] at q
                exact q
            | _ => exact q
          · rw [if_pos (by simpa using hy)] at q
            rw [show (xor true (isNon (fe y))) = true by rw [show isNon (fe y) = false by simpa [feN] using hy]; rfl]
            exact q
      · have hx : isNon (fe x) = false := by simpa [feN] using hx
        rw [hx]
        have e1 : me (.tuple [x, y, e, v]) = txt "q" := if_pos (.inl hx)
        rw [e1] at q
        exact q
  | _ => exact q
theorem ne_int (i j : Int) : (!PyData.eqv (.int i) (.int j)) = !decide (i = j) := by
  show (!(i == j)) = _
  by_cases h : i = j
  · subst h; simp
  · rw [beq_eq_false_iff_ne.mpr h, decide_eq_false h]
theorem h__law_fraction_error : ∀ rs Q Ex, rs.length = 1 → sp__law_fraction_error rs Q Ex → d__law_fraction_error (fnEnds Q Ex) (startD N__law_fraction_error.length rs) := by
  intro rs Q Ex _ h
  obtain ⟨x, rfl, q⟩ := one1_inv h
  clear h
  cases x with
  | tuple xs =>
    have big : xs.length ≠ 2 → Q (.d (txt "form")) → d__law_fraction_error (fnEnds Q Ex) (startD N__law_fraction_error.length [.d (.tuple xs)]) := fun hn q => by
      refine ⟨.inr ⟨rfl, rfl⟩, ?_⟩
      refine ite2 (fun _ => q) fun hc => ?_
      exact absurd (notT hc) (lenNe hn)
    match xs, big, q with
    | [], big, q => exact big (by decide) q
    | [a], big, q => exact big (by simp) q
    | a :: b :: c :: r, big, q => exact big (by simp) q
    | [a, b], _, q =>
      refine ⟨.inr ⟨rfl, rfl⟩, ?_⟩
      refine ⟨a, rfl, ?_⟩
      cases a with
      | int i =>
        refine ⟨rfl, ?_⟩
        refine ⟨b, rfl, ?_⟩
        cases b with
        | int j =>
          refine ⟨rfl, ?_⟩
          refine ⟨_, rfl, ?_⟩
          refine ite2 (fun hc => ?_) fun hc => ?_
          · have hc : j < 1 := of_decide_eq_true hc
            have e : fe (.tuple [.int i, .int j]) = txt "below" := if_pos hc
            rw [e] at q
            exact q
          · have hc : ¬ j < 1 := fun z => hc (decide_eq_true z)
            refine ⟨_, rfl, ?_⟩
            refine ⟨_, rfl, ?_⟩
            refine ⟨fun m env => ∃ a b : Nat, env = [some (.d (.tuple [.int i, .int j])), some (.d (.int a)), some (.d (.int b))] ∧ b = m ∧ Nat.gcd a b = Nat.gcd i.natAbs j.natAbs, ⟨j.natAbs, i.natAbs, j.natAbs, ?_, rfl, rfl⟩, ?_⟩
            · have e1 : (if i < 0 then -i else i) = (i.natAbs : Int) := by split <;> omega
              have e2 : j = (j.natAbs : Int) := by omega
              show [some (RV.d (.tuple [.int i, .int j])), some (RV.d (.int (if i < 0 then -i else i))), some (RV.d (.int j))] = _
              rw [e1, ← e2]
            · rintro m env ⟨a, b, rfl, rfl, hg⟩
              refine ⟨.inr ⟨rfl, rfl⟩, ?_⟩
              show if (!PyData.eqv (.int (b : Int)) (.int 0)) = true then _ else _
              rw [ne_int]
              by_cases hb : b = 0
              · subst hb
                rw [show (!decide (((0 : Nat) : Int) = 0)) = false from rfl]
                refine ⟨.inr ⟨rfl, rfl⟩, ?_⟩
                show if (PyData.eqv (.int (a : Int)) (.int 1)) = true then _ else _
                rw [Nat.gcd_zero_right] at hg
                have pos : 0 < Nat.gcd i.natAbs j.natAbs := Nat.gcd_pos_of_pos_right _ (by omega)
                by_cases ha : a = 1
                · subst ha
                  have e : fe (.tuple [.int i, .int j]) = .none := by
                    show (if j < 1 then _ else _) = _
                    rw [if_neg hc, if_neg (by omega)]
                  rw [e] at q
                  exact q
                · have e : fe (.tuple [.int i, .int j]) = txt "terms" := by
                    show (if j < 1 then _ else _) = _
                    rw [if_neg hc, if_pos (by omega)]
                  rw [e] at q
                  rw [show PyData.eqv (.int (a : Int)) (.int 1) = false from beq_eq_false_iff_ne.mpr (by omega)]
                  exact q
              · rw [decide_eq_false (by omega : ¬ ((b : Int) = 0))]
                refine ⟨by omega, ?_⟩
                refine ⟨a % b, Nat.mod_lt _ (by omega), b, a % b, ?_, rfl, ?_⟩
                · show [some (RV.d (.tuple [.int i, .int j])), some (RV.d (.int (b : Int))), some (RV.d (.int ((a : Int).fmod b)))] = _
                  rw [Int.fmod_eq_emod_of_nonneg _ (by omega)]
                  rfl
                · rw [← hg, Nat.gcd_comm a b, Nat.gcd_comm b (a % b), ← Nat.gcd_rec]
        | _ => exact ⟨rfl, q⟩
      | _ => exact ⟨rfl, q⟩
  | _ => exact q
theorem abs1 (a : Int) : (!PyData.eqv (.int (if a < 0 then -a else a)) (.int 1)) = !is1 (.int a) := by
  rw [ne_int]
  show _ = !decide (a = 1 ∨ a = -1)
  congr 1
  refine decide_eq_decide.mpr ?_
  split <;> omega
theorem h__law_move_error : ∀ rs Q Ex, rs.length = 1 → sp__law_move_error rs Q Ex → d__law_move_error (fnEnds Q Ex) (startD N__law_move_error.length rs) := by
  intro rs Q Ex _ h
  obtain ⟨x, rfl, q⟩ := one1_inv h
  clear h
  cases x with
  | tuple xs =>
    have big : xs.length ≠ 4 → Q (.d (txt "form")) → d__law_move_error (fnEnds Q Ex) (startD N__law_move_error.length [.d (.tuple xs)]) := fun hn q => by
      refine ⟨.inr ⟨rfl, rfl⟩, ?_⟩
      refine ite2 (fun _ => q) fun hc => ?_
      exact absurd (notT hc) (lenNe hn)
    match xs, big, q with
    | [], big, q => exact big (by decide) q
    | [a], big, q => exact big (by simp) q
    | [a, b], big, q => exact big (by simp) q
    | [a, b, c], big, q => exact big (by simp) q
    | a :: b :: c :: d :: f :: r, big, q => exact big (by simp) q
    | [x, y, e, v], _, q =>
      refine ⟨.inr ⟨rfl, rfl⟩, ?_⟩
      refine ⟨x, rfl, ?_⟩
      refine ⟨rfl, ?_⟩
      refine ⟨rfl, ?_⟩
      show if (xor true (isNon (fe x))) = true then _ else _
      by_cases hx : feN x = true
      · rw [show isNon (fe x) = true from hx]
        obtain ⟨a, b, ex, hb, hg⟩ := feN_is hx
        subst ex
        refine ⟨_, rfl, _, rfl, .inr ⟨rfl, rfl⟩, ?_⟩
        show if (PyData.eqv (.int a) (.int 0)) = true then _ else _
        have ez : PyData.eqv (.int a) (.int 0) = isZ (.tuple [.int a, .int b]) := by
          show (a == 0) = decide (a = 0)
          by_cases h : a = 0
          · subst h; rfl
          · rw [beq_eq_false_iff_ne.mpr h, decide_eq_false h]
        rw [ez]
        by_cases hz : isZ (.tuple [.int a, .int b]) = true
        · rw [hz]
          have e1 : me (.tuple [.tuple [.int a, .int b], y, e, v]) = txt "q" := if_pos (.inr hz)
          rw [e1] at q
          exact q
        · have hz : isZ (.tuple [.int a, .int b]) = false := by simpa using hz
          rw [hz]
          refine ⟨y, rfl, ?_⟩
          refine ⟨rfl, rfl, ?_⟩
          have pre : me (.tuple [.tuple [.int a, .int b], y, e, v]) = if feN y = false then txt "t" else if is1 e = false then txt "e" else if isI v = true then .none else txt "v" := by
            show (if _ then _ else _) = _
            rw [if_neg (by rw [hx, hz]; decide)]
          rw [pre] at q
          by_cases hy : feN y = true
          · rw [if_neg (by rw [hy]; decide)] at q
            rw [show (xor true (isNon (fe y))) = false by rw [show isNon (fe y) = true from hy]; rfl]
            refine ⟨e, rfl, ?_⟩
            refine ⟨rfl, ?_⟩
            cases e with
            | int a =>
              refine ⟨_, rfl, .inr ⟨rfl, rfl⟩, ?_⟩
              show if (!PyData.eqv (.int (if a < 0 then -a else a)) (.int 1)) = true then _ else _
              rw [abs1]
              by_cases h1 : is1 (.int a) = true
              · rw [h1]
                rw [if_neg (by rw [h1]; decide)] at q
                refine ⟨v, rfl, rfl, ?_⟩
                cases v <;> exact q
              · have h1 : is1 (.int a) = false := by simpa using h1
                rw [h1]
                rw [if_pos h1] at q
                exact q
            | _ => exact q
          · rw [if_pos (by simpa using hy)] at q
            rw [show (xor true (isNon (fe y))) = true by rw [show isNon (fe y) = false by simpa [feN] using hy]; rfl]
            exact q
      · have hx : isNon (fe x) = false := by simpa [feN] using hx
        rw [hx]
        have e1 : me (.tuple [x, y, e, v]) = txt "q" := if_pos (.inl hx)
        rw [e1] at q
        exact q
  | _ => exact q

/-! ### what is drawn -/
theorem atI_mem {xs : List PyData} {r : Int} (h0 : 0 ≤ r) (h1 : r < xs.length) : ∃ x, atI xs r = some x ∧ x ∈ xs := by
  unfold atI ixN
  rw [if_pos h0, if_pos h1]
  have h2 : r.toNat < xs.length := by omega
  exact ⟨xs[r.toNat], List.getElem?_eq_getElem h2, List.getElem_mem h2⟩
theorem ac {p : PyData → Prop} {x : PyData} {xs : List PyData} (h : p x) (t : ∀ y ∈ xs, p y) : ∀ y ∈ x :: xs, p y := fun y hy => by
  rcases List.mem_cons.mp hy with rfl | hy
  · exact h
  · exact t y hy
theorem an {p : PyData → Prop} : ∀ y ∈ ([] : List PyData), p y := fun y hy => by cases hy
theorem sm_len {n : Nat} (h : n < 1000000) : Sm (n : Int) := Sm.of (by
  have : (2 : Nat) ^ 64 = 18446744073709551616 := by decide
  omega)
theorem sm_lit {i : Int} (h : i.natAbs < 2 ^ 64) : Sm i := Sm.of h
theorem h__law_pick : ∀ rs Q Ex, rs.length = 2 → sp__law_pick rs Q Ex → d__law_pick (fnEnds Q Ex) (startD N__law_pick.length rs) := by
  intro rs Q Ex _ h
  unfold sp__law_pick at h
  split at h
  · rename_i xs
    obtain ⟨h1, h2, h3⟩ := h
    refine ⟨rfl, by omega, sm_len h2, fun r r0 r1 => ?_⟩
    obtain ⟨x, e, m⟩ := atI_mem r0 r1
    exact ⟨x, e, h3 x m⟩
  · exact h.elim
theorem odd_inv {rs : List RV} {Q : RV → Prop} {Ex : Err → Prop} (h : sp__law_odd rs Q Ex) : ∃ x, rs = [.box, .d x] ∧ ∃ n k, Tm n k x ∧ 80 ≤ n ∧ ∀ y, Tm (3 * n + 200) (k + 1) y → Q (.d y) := by
  unfold sp__law_odd at h
  split at h
  · exact ⟨_, rfl, h⟩
  · exact h.elim
theorem h__law_odd : ∀ rs Q Ex, rs.length = 2 → sp__law_odd rs Q Ex → d__law_odd (fnEnds Q Ex) (startD N__law_odd.length rs) := by
  intro rs Q Ex _ h
  obtain ⟨x, rfl, n, k, ht, hn, q⟩ := odd_inv h
  clear h
  have k1 : ∀ y ∈ [x], Tm n k y := ac ht an
  have k2 : ∀ y ∈ [x, x], Tm n k y := ac ht (ac ht an)
  have hx : Tm (3 * n + 200) (k + 1) x := ht.mono (by omega) (by omega)
  have num : ∀ i : Int, NumOk i → Tm (3 * n + 200) (k + 1) (.int i) := fun i h => Tm.int h (by omega)
  repeat (refine ⟨by first | decide | exact Nat.le_of_ble_eq_true rfl, ?_⟩)
  refine ⟨rfl, Nat.le_of_ble_eq_true rfl, Nat.le_of_ble_eq_true rfl, fun y hy => q y ?_⟩
  revert y
  repeat' (refine ac ?_ ?_)
  all_goals
    first
    | exact an
    | exact hx
    | exact Tm.none (by omega)
    | exact Tm.bool (by omega)
    | exact num _ (by unfold NumOk; decide +kernel)
    | exact Tm.lit _ (by show 10 * 4 + 2 ≤ _; omega)
    | exact Tm.lit _ (by show 10 * 1 + 2 ≤ _; omega)
    | exact Tm.lit _ (by show 10 * 0 + 2 ≤ _; omega)
    | exact Tm.tup (n := n) (k := k) (c := 0) an (Nat.le_refl 0) (by omega) (Nat.le_refl _)
    | exact Tm.lst (n := n) (k := k) (c := 0) an (Nat.le_refl 0) (by omega) (Nat.le_refl _)
    | exact Tm.dic0 (by omega) (by omega)
    | exact Tm.tup (c := 1) k1 (Nat.le_refl 1) (by omega) (Nat.le_refl _)
    | exact Tm.lst (c := 1) k1 (Nat.le_refl 1) (by omega) (Nat.le_refl _)
    | exact Tm.tup (c := 2) k2 (Nat.le_refl 2) (by omega) (Nat.le_refl _)
    | exact Tm.lst (c := 2) k2 (Nat.le_refl 2) (by omega) (Nat.le_refl _)
    | exact Tm.dic1 (n := n) (k := k) (Tm.lit "a" (by show 10 * 1 + 2 ≤ _; omega)) ht (by omega) (Nat.le_refl _)
    | skip

theorem ratio_inv {rs : List RV} {Q : RV → Prop} {Ex : Err → Prop} (h : sp__law_ratio rs Q Ex) : rs = [.box] ∧ ∀ y, isRatio y → Q (.d y) := by
  unfold sp__law_ratio at h
  split at h
  · exact ⟨rfl, h⟩
  · exact h.elim
theorem isR (a b : Int) (ha : NumOk a) (hb : NumOk b) : isRatio (.tuple [.int a, .int b]) := ⟨a, b, rfl, ha, hb⟩
theorem numB {a : Int} (h1 : -1000000000000000000000000000000 ≤ a) (h2 : a ≤ 1000000000000000000000000000000) : NumOk a := by
  unfold NumOk
  have : (10 : Nat) ^ 79 = 10000000000000000000000000000000000000000000000000000000000000000000000000000000 := by decide +kernel
  omega
theorem e9 : (10 : Int) ^ Int.toNat 9 = 1000000000 := by decide +kernel
theorem e17 : (10 : Int) ^ Int.toNat 17 = 100000000000000000 := by decide +kernel
theorem e18 : (10 : Int) ^ Int.toNat 18 = 1000000000000000000 := by decide +kernel
theorem numLt {a : Int} (h : a.natAbs < 10 ^ 60) : NumOk a := Nat.lt_trans h (by decide +kernel)
theorem h__law_ratio : ∀ rs Q Ex, rs.length = 1 → sp__law_ratio rs Q Ex → d__law_ratio (fnEnds Q Ex) (startD N__law_ratio.length rs) := by
  intro rs Q Ex _ h
  obtain ⟨rfl, q⟩ := ratio_inv h
  clear h
  refine ⟨rfl, by decide, sm_lit (by decide), fun r1 a0 a1 => ?_⟩
  refine ⟨rfl, by decide, sm_lit (by decide), fun r2 b0 b1 => ?_⟩
  refine ⟨Nat.le_of_ble_eq_true rfl, ?_⟩
  refine ⟨by decide, by decide, by decide, ?_⟩
  refine ⟨rfl, by decide +kernel, sm_lit (by decide +kernel), fun r3 c0 c1 => ?_⟩
  refine ⟨by decide, by decide, by decide, .inl (by decide), ?_⟩
  refine ⟨by decide, by decide, by decide, ?_⟩
  refine ⟨rfl, by decide +kernel, sm_lit (by decide +kernel), fun r4 d0 d1 => ?_⟩
  refine ⟨Nat.le_of_ble_eq_true rfl, ?_⟩
  refine ⟨by decide, by decide, by decide, ?_⟩
  repeat (first
    | refine ⟨by first | decide | exact Nat.le_of_ble_eq_true rfl, ?_⟩
    | refine ⟨_, rfl, ?_⟩
    | refine ⟨.inl (by decide +kernel), ?_⟩)
  refine ⟨rfl, Nat.le_of_ble_eq_true rfl, Nat.le_of_ble_eq_true rfl, fun y hy => q y ?_⟩
  rw [e18] at c1
  rw [e9] at d1
  revert y
  repeat' (refine ac ?_ ?_)
  all_goals
    first
    | exact an
    | exact isR _ _ (by unfold NumOk; decide +kernel) (by unfold NumOk; decide +kernel)
    | exact isR _ _ (numB (by omega) (by omega)) (numB (by omega) (by omega))
    | exact isR _ _ (by rw [e17]; exact numB (by omega) (by omega)) (numB (by omega) (by omega))
    | exact isR _ _ (by rw [e9]; exact numB (by omega) (by omega)) (by rw [e9]; exact numB (by omega) (by omega))
    | skip
theorem odd_ratio_inv {rs : List RV} {Q : RV → Prop} {Ex : Err → Prop} (h : sp__law_odd_ratio rs Q Ex) : ∃ a b, rs = [.box, .d (.tuple [.int a, .int b])] ∧ NumOk a ∧ NumOk b ∧ ∀ y, Tm 2000 3 y → Q (.d y) := by
  unfold sp__law_odd_ratio at h
  split at h
  · obtain ⟨⟨a, b, rfl, ha, hb⟩, h⟩ := h
    exact ⟨a, b, rfl, ha, hb, h⟩
  · exact h.elim
theorem NumOk.neg {a : Int} (h : NumOk a) : NumOk (-a) := by unfold NumOk at *; rw [Int.natAbs_neg]; exact h
theorem h__law_odd_ratio : ∀ rs Q Ex, rs.length = 2 → sp__law_odd_ratio rs Q Ex → d__law_odd_ratio (fnEnds Q Ex) (startD N__law_odd_ratio.length rs) := by
  intro rs Q Ex _ h
  obtain ⟨a, b, rfl, ha, hb, q⟩ := odd_ratio_inv h
  clear h
  have ta : Tm 80 0 (.int a) := Tm.int ha
  have tb : Tm 80 0 (.int b) := Tm.int hb
  have up : ∀ {i : Int}, NumOk i → Tm 500 2 (.int i) := fun h => Tm.int h
  refine ⟨rfl, ?_⟩
  repeat (refine ⟨by first | decide | rfl | exact Nat.le_of_ble_eq_true rfl, ?_⟩)
  refine ⟨80, 0, ta, Nat.le_refl _, fun y1 t1 => ?_⟩
  repeat (refine ⟨by first | decide | rfl | exact Nat.le_of_ble_eq_true rfl, ?_⟩)
  refine ⟨80, 0, tb, Nat.le_refl _, fun y2 t2 => ?_⟩
  repeat (refine ⟨by first | decide | rfl | exact Nat.le_of_ble_eq_true rfl, ?_⟩)
  intro y hy
  refine q y ?_
  have s1 : Tm 500 2 y1 := t1.mono (by decide) (by decide)
  have s2 : Tm 500 2 y2 := t2.mono (by decide) (by decide)
  have ab : ∀ y ∈ [PyData.int a, .int b], Tm 500 2 y := ac (up ha) (ac (up hb) an)
  revert y
  repeat' (refine ac ?_ ?_)
  all_goals
    first
    | exact an
    | exact Tm.none
    | exact Tm.int ha
    | exact Tm.dic0
    | exact Tm.lit _
    | exact Tm.tup (n := 500) (k := 2) (c := 3) (ac (Tm.tup (n := 80) (k := 0) (c := 2) (ac ta (ac tb an)) (Nat.le_of_ble_eq_true rfl)) an) (Nat.le_of_ble_eq_true rfl)
    | exact Tm.lst (n := 500) (k := 2) (c := 3) (ac (up ha) (ac (up hb) an)) (Nat.le_of_ble_eq_true rfl)
    | exact Tm.tup (n := 500) (k := 2) (c := 3) (ac (up ha) an) (Nat.le_of_ble_eq_true rfl)
    | exact Tm.tup (n := 500) (k := 2) (c := 3) (ac (up ha) (ac (up hb) an)) (Nat.le_of_ble_eq_true rfl)
    | exact Tm.tup (n := 500) (k := 2) (c := 3) (ac (up hb) (ac (up ha) an)) (Nat.le_of_ble_eq_true rfl)
    | exact Tm.tup (n := 500) (k := 2) (c := 3) (ac (up ha) (ac (up (NumOk.neg hb)) an)) (Nat.le_of_ble_eq_true rfl)
    | exact Tm.tup (n := 500) (k := 2) (c := 3) (ac (up ha) (ac (up hb) (ac (up (by unfold NumOk; decide +kernel)) an))) (Nat.le_of_ble_eq_true rfl)
    | exact Tm.tup (n := 500) (k := 2) (c := 3) (ac s1 (ac (up hb) an)) (Nat.le_of_ble_eq_true rfl)
    | exact Tm.tup (n := 500) (k := 2) (c := 3) (ac (up ha) (ac s2 an)) (Nat.le_of_ble_eq_true rfl)
    | exact Tm.tup (n := 500) (k := 2) (c := 3) (ac Tm.bool (ac (up (by unfold NumOk; decide +kernel)) an)) (Nat.le_of_ble_eq_true rfl)
    | exact Tm.tup (n := 500) (k := 2) (c := 3) (ac (up (by unfold NumOk; decide +kernel)) (ac Tm.bool an)) (Nat.le_of_ble_eq_true rfl)
    | exact Tm.tup (n := 500) (k := 2) (c := 3) (ac (Tm.lit _) (ac (Tm.lit _) an)) (Nat.le_of_ble_eq_true rfl)
    | skip
theorem moved_inv {rs : List RV} {Q : RV → Prop} {Ex : Err → Prop} (h : sp__law_moved rs Q Ex) : rs = [.box] ∧ ∀ y, isMove y → Q (.d y) := by
  unfold sp__law_moved at h
  split at h
  · exact ⟨rfl, h⟩
  · exact h.elim
theorem h__law_moved : ∀ rs Q Ex, rs.length = 1 → sp__law_moved rs Q Ex → d__law_moved (fnEnds Q Ex) (startD N__law_moved.length rs) := by
  intro rs Q Ex _ h
  obtain ⟨rfl, q⟩ := moved_inv h
  clear h
  refine ⟨rfl, by decide, sm_lit (by decide), fun r1 a0 a1 => ?_⟩
  repeat (refine ⟨by first | decide | rfl | exact Nat.le_of_ble_eq_true rfl, ?_⟩)
  intro y1 h1
  have t1 : Tm 200 1 y1 := by
    revert h1
    revert y1
    repeat' (refine ac ?_ ?_)
    all_goals
      first
      | exact an
      | exact Tm.none
      | exact Tm.bool
      | exact Tm.int (by unfold NumOk; decide +kernel)
      | exact Tm.tup (n := 80) (k := 0) (c := 2) (ac (Tm.int (by unfold NumOk; decide +kernel)) (ac (Tm.int (by unfold NumOk; decide +kernel)) an)) (Nat.le_of_ble_eq_true rfl)
  repeat (refine ⟨by first | decide | rfl | exact Nat.le_of_ble_eq_true rfl, ?_⟩)
  intro y2 h2
  repeat (refine ⟨by first | decide | rfl | exact Nat.le_of_ble_eq_true rfl, ?_⟩)
  intro y3 h3
  have t3 : isRatio y3 := by
    revert h3
    revert y3
    repeat' (refine ac ?_ ?_)
    all_goals
      first
      | exact an
      | exact h2
      | exact isR _ _ (by unfold NumOk; decide +kernel) (by unfold NumOk; decide +kernel)
  repeat (refine ⟨by first | decide | rfl | exact Nat.le_of_ble_eq_true rfl, ?_⟩)
  intro y4 h4
  repeat (refine ⟨by first | decide | rfl | exact Nat.le_of_ble_eq_true rfl, ?_⟩)
  intro y5 h5
  have t5 : isRatio y5 := by
    revert h5
    revert y5
    repeat' (refine ac ?_ ?_)
    all_goals
      first
      | exact an
      | exact h4
      | exact isR _ _ (by unfold NumOk; decide +kernel) (by unfold NumOk; decide +kernel)
      | exact isR _ _ (numB (by omega) (by omega)) (numB (by omega) (by omega))
  repeat (refine ⟨by first | decide | rfl | exact Nat.le_of_ble_eq_true rfl, ?_⟩)
  intro y6 h6
  have t6 : Tm 200 1 y6 := by
    revert h6
    revert y6
    repeat' (refine ac ?_ ?_)
    all_goals
      first
      | exact an
      | exact t1
      | exact Tm.int (by unfold NumOk; decide +kernel)
  repeat (refine ⟨by first | decide | rfl | exact Nat.le_of_ble_eq_true rfl, ?_⟩)
  intro y7 h7
  have t7 : Tm 200 1 y7 := by
    revert h7
    revert y7
    repeat' (refine ac ?_ ?_)
    all_goals
      first
      | exact an
      | exact Tm.int (by unfold NumOk; decide +kernel)
      | exact Tm.int (numB (by omega) (by omega))
  exact ⟨Nat.le_of_ble_eq_true rfl, q _ ⟨_, _, _, _, rfl, t3, t5, t6, t7⟩⟩

theorem odd_move_inv {rs : List RV} {Q : RV → Prop} {Ex : Err → Prop} (h : sp__law_odd_move rs Q Ex) : ∃ q t e v, rs = [.box, .d (.tuple [q, t, e, v])] ∧ isRatio q ∧ isRatio t ∧ Tm 200 1 e ∧ Tm 200 1 v ∧ ∀ y, Tm 12000 5 y → Q (.d y) := by
  unfold sp__law_odd_move at h
  split at h
  · obtain ⟨⟨q, t, e, v, rfl, h1, h2, h3, h4⟩, h⟩ := h
    exact ⟨q, t, e, v, rfl, h1, h2, h3, h4, h⟩
  · exact h.elim
theorem isRatio.tm {y : PyData} (h : isRatio y) : Tm 200 1 y := by
  obtain ⟨a, b, rfl, ha, hb⟩ := h
  exact Tm.tup (n := 80) (k := 0) (c := 2) (ac (Tm.int ha) (ac (Tm.int hb) an)) (Nat.le_of_ble_eq_true rfl)
theorem four {r : Int} (h0 : 0 ≤ r) (h1 : r < 4) : r = 0 ∨ r = 1 ∨ r = 2 ∨ r = 3 := by omega
theorem h__law_odd_move : ∀ rs Q Ex, rs.length = 2 → sp__law_odd_move rs Q Ex → d__law_odd_move (fnEnds Q Ex) (startD N__law_odd_move.length rs) := by
  intro rs Q Ex _ h
  obtain ⟨x, y, e, v, rfl, hx, hy, he, hv, q⟩ := odd_move_inv h
  clear h
  have tx := isRatio.tm hx
  have ty := isRatio.tm hy
  have lo : ∀ {z : PyData}, Tm 200 1 z → Tm 2000 3 z := fun h => h.mono (by decide) (by decide)
  have z0 : Tm 200 1 (.int 0) := Tm.int (by unfold NumOk; decide +kernel)
  have tv : Tm 2000 3 (.tuple [x, y, e, v]) := Tm.tup (n := 200) (k := 1) (c := 4) (ac tx (ac ty (ac he (ac hv an)))) (Nat.le_of_ble_eq_true rfl)
  have t5 : ∀ {xs : List PyData}, (∀ z ∈ xs, Tm 2000 3 z) → xs.length ≤ 5 → Tm 12000 5 (.tuple xs) := fun h hl => Tm.tup (n := 2000) (k := 3) (c := 5) h hl
  refine ⟨rfl, by decide, sm_lit (by decide), fun r1 a0 a1 => ?_⟩
  refine ⟨rfl, by decide, sm_lit (by decide), fun r2 b0 b1 => ?_⟩
  have last : ∀ r1 : Int, 0 ≤ r1 → r1 < 4 → tSeqD (tRetD (tBinD gAdd (tBinD gAdd (tSlD (tVarD 1) (tNoO) (tSomeO (tVarD 2))) (tTupD (tConsD (tFn 2 sp__law_odd (tConsD (tVarD 0) (tConsD (tBinD gIx (tVarD 1) (tVarD 2)) (tNilD)))) (tNilD)))) (tSlD (tVarD 1) (tSomeO (tBinD gAdd (tVarD 2) (tConD (.int 1)))) (tNoO)))) tNxD (fnEnds Q Ex) [some .box, some (.d (.tuple [x, y, e, v])), some (.d (.int r1)), some (.d (.int r2))] := by
    intro r1 a0 a1
    rcases four a0 a1 with rfl | rfl | rfl | rfl
    · refine ⟨x, rfl, rfl, 200, 1, tx, by decide, fun z hz => ?_⟩
      repeat (refine ⟨by first | decide | rfl | exact Nat.le_of_ble_eq_true rfl, ?_⟩)
      exact q _ (t5 (ac (hz.mono (by decide) (by decide)) (ac (lo ty) (ac (lo he) (ac (lo hv) an)))) (Nat.le_of_ble_eq_true rfl))
    · refine ⟨y, rfl, rfl, 200, 1, ty, by decide, fun z hz => ?_⟩
      repeat (refine ⟨by first | decide | rfl | exact Nat.le_of_ble_eq_true rfl, ?_⟩)
      exact q _ (t5 (ac (lo tx) (ac (hz.mono (by decide) (by decide)) (ac (lo he) (ac (lo hv) an)))) (Nat.le_of_ble_eq_true rfl))
    · refine ⟨e, rfl, rfl, 200, 1, he, by decide, fun z hz => ?_⟩
      repeat (refine ⟨by first | decide | rfl | exact Nat.le_of_ble_eq_true rfl, ?_⟩)
      exact q _ (t5 (ac (lo tx) (ac (lo ty) (ac (hz.mono (by decide) (by decide)) (ac (lo hv) an)))) (Nat.le_of_ble_eq_true rfl))
    · refine ⟨v, rfl, rfl, 200, 1, hv, by decide, fun z hz => ?_⟩
      repeat (refine ⟨by first | decide | rfl | exact Nat.le_of_ble_eq_true rfl, ?_⟩)
      exact q _ (t5 (ac (lo tx) (ac (lo ty) (ac (lo he) (ac (hz.mono (by decide) (by decide)) an)))) (Nat.le_of_ble_eq_true rfl))
  rcases four b0 b1 with rfl | rfl | rfl | rfl
  · refine ⟨.inr ⟨rfl, rfl⟩, ?_⟩
    repeat (refine ⟨by first | decide | rfl | exact Nat.le_of_ble_eq_true rfl, ?_⟩)
    refine ⟨x, rfl, ?_⟩
    repeat (refine ⟨by first | decide | rfl | exact Nat.le_of_ble_eq_true rfl, ?_⟩)
    intro z hz
    refine q z ?_
    revert z
    repeat' (refine ac ?_ ?_)
    all_goals
      first
      | exact an
      | exact Tm.none
      | exact Tm.dic0
      | exact Tm.lit _
      | exact (lo tx).mono (by decide) (by decide)
      | exact t5 (ac tv an) (Nat.le_of_ble_eq_true rfl)
      | exact t5 an (Nat.le_of_ble_eq_true rfl)
      | exact t5 (ac (lo tx) (ac (lo ty) (ac (lo he) (ac (lo hv) (ac (lo z0) an))))) (Nat.le_of_ble_eq_true rfl)
      | exact t5 (ac (lo hv) (ac (lo he) (ac (lo ty) (ac (lo tx) an)))) (Nat.le_of_ble_eq_true rfl)
      | exact t5 (ac (lo tx) (ac (lo ty) (ac (lo he) an))) (Nat.le_of_ble_eq_true rfl)
      | exact t5 (ac (lo ty) (ac (lo he) (ac (lo hv) an))) (Nat.le_of_ble_eq_true rfl)
      | exact Tm.lst (n := 2000) (k := 3) (c := 5) (ac (lo tx) (ac (lo ty) (ac (lo he) (ac (lo hv) an)))) (Nat.le_of_ble_eq_true rfl)
  · rcases four a0 a1 with rfl | rfl | rfl | rfl
    · refine ⟨.inr ⟨rfl, rfl⟩, .inr ⟨rfl, rfl⟩, x, rfl, rfl, hx, fun z hz => ?_⟩
      repeat (refine ⟨by first | decide | rfl | exact Nat.le_of_ble_eq_true rfl, ?_⟩)
      exact q _ (t5 (ac hz (ac (lo ty) (ac (lo he) (ac (lo hv) an)))) (Nat.le_of_ble_eq_true rfl))
    · refine ⟨.inr ⟨rfl, rfl⟩, .inr ⟨rfl, rfl⟩, y, rfl, rfl, hy, fun z hz => ?_⟩
      repeat (refine ⟨by first | decide | rfl | exact Nat.le_of_ble_eq_true rfl, ?_⟩)
      exact q _ (t5 (ac (lo tx) (ac hz (ac (lo he) (ac (lo hv) an)))) (Nat.le_of_ble_eq_true rfl))
    · exact ⟨.inr ⟨rfl, rfl⟩, .inr ⟨rfl, rfl⟩, last 2 a0 a1⟩
    · exact ⟨.inr ⟨rfl, rfl⟩, .inr ⟨rfl, rfl⟩, last 3 a0 a1⟩
  · exact ⟨.inr ⟨rfl, rfl⟩, .inr ⟨rfl, rfl⟩, last r1 a0 a1⟩
  · exact ⟨.inr ⟨rfl, rfl⟩, .inr ⟨rfl, rfl⟩, last r1 a0 a1⟩
theorem told_inv {rs : List RV} {Q : RV → Prop} {Ex : Err → Prop} (h : sp__law_is_told rs Q Ex) : ∃ x y b, rs = [.d x, .d y, .d (.bool b)] ∧ Tm 150000 8 x ∧ Tm 150000 8 y ∧ Q (.d (.bool true)) := by
  unfold sp__law_is_told at h
  split at h
  · exact ⟨_, _, _, rfl, h⟩
  · exact h.elim
theorem tm_fe (x : PyData) : Tm 100 0 (fe x) := by
  unfold fe
  split
  · split
    · unfold fe2
      split
      · split
        · exact Tm.lit _
        · split
          · exact Tm.lit _
          · exact Tm.none
      · exact Tm.lit _
    · exact Tm.lit _
  · exact Tm.lit _
theorem tm_me (x : PyData) : Tm 100 0 (me x) := by
  unfold me
  split
  · split
    · split
      · exact Tm.lit _
      · split
        · exact Tm.lit _
        · split
          · exact Tm.lit _
          · split
            · exact Tm.none
            · exact Tm.lit _
    · exact Tm.lit _
  · exact Tm.lit _
theorem h__law_is_told : ∀ rs Q Ex, rs.length = 3 → sp__law_is_told rs Q Ex → d__law_is_told (fnEnds Q Ex) (startD N__law_is_told.length rs) := by
  intro rs Q Ex _ h
  obtain ⟨x, y, b, rfl, hx, hy, q⟩ := told_inv h
  clear h
  have k1 : Tm 300007 9 (.list [x, y]) := Tm.lst (n := 150000) (k := 8) (c := 2) (ac hx (ac hy an)) (Nat.le_of_ble_eq_true rfl)
  have k2 : showOk (.list [x, y]) := k1.ok (by decide) (by decide)
  have k3 : Tm 3000072 9 (.str (PyData.shown (.list [x, y]))) := k1.text (by decide)
  have e1 : Tm 300 1 (.list [fe x, me y]) := Tm.lst (n := 100) (k := 0) (c := 2) (ac (tm_fe x) (ac (tm_me y) an)) (Nat.le_of_ble_eq_true rfl)
  have k4 : showOk (.list [.list [fe x, me y], .str (PyData.shown (.list [x, y]))]) :=
    (Tm.lst (n := 3000072) (k := 9) (c := 2) (n' := 6000151) (k' := 10) (ac (e1.mono (by decide) (by decide)) (ac k3 an)) (Nat.le_of_ble_eq_true rfl)).ok (by decide) (by decide)
  have fin : Q (.d (.bool (PyData.eqv (.str (PyData.shown (.list [.list [fe x, me y], .str (PyData.shown (.list [x, y]))]))) (.str (PyData.shown (.list [.list [fe x, me y], .str (PyData.shown (.list [x, y]))])))))) := by
    rw [show PyData.eqv (.str (PyData.shown (.list [.list [fe x, me y], .str (PyData.shown (.list [x, y]))]))) (.str (PyData.shown (.list [.list [fe x, me y], .str (PyData.shown (.list [x, y]))]))) = true from beq_self_eq_true _]
    exact q
  repeat (refine ⟨by first | decide | rfl | exact Nat.le_of_ble_eq_true rfl, ?_⟩)
  refine ⟨k2, ?_⟩
  repeat (refine ⟨by first | decide | rfl | exact Nat.le_of_ble_eq_true rfl, ?_⟩)
  cases b with
  | true =>
    repeat (refine ⟨by first | decide | rfl | exact Nat.le_of_ble_eq_true rfl, ?_⟩)
    refine ⟨k2, ?_⟩
    repeat (refine ⟨by first | decide | rfl | exact Nat.le_of_ble_eq_true rfl, ?_⟩)
    refine ⟨k4, ?_⟩
    repeat (refine ⟨by first | decide | rfl | exact Nat.le_of_ble_eq_true rfl, ?_⟩)
    refine ⟨k4, ?_⟩
    exact ⟨.inl ⟨rfl, rfl⟩, fin⟩
  | false =>
    repeat (refine ⟨by first | decide | rfl | exact Nat.le_of_ble_eq_true rfl, ?_⟩)
    refine ⟨k2, ?_⟩
    repeat (refine ⟨by first | decide | rfl | exact Nat.le_of_ble_eq_true rfl, ?_⟩)
    refine ⟨k4, ?_⟩
    repeat (refine ⟨by first | decide | rfl | exact Nat.le_of_ble_eq_true rfl, ?_⟩)
    refine ⟨k4, ?_⟩
    exact ⟨.inl ⟨rfl, rfl⟩, fin⟩

/-! ### the box is made -/
theorem cut63 (ns : List Int) (h : ns.length ≤ 63) : HA.cutD (ns.map PyData.int) none (some 63) = ns.map PyData.int := by
  unfold HA.cutD
  have e1 : HT.sIx (ns.map PyData.int).length 0 none = 0 := rfl
  have e2 : HT.sIx (ns.map PyData.int).length (ns.map PyData.int).length (some 63) = ns.length := by
    rw [List.length_map]
    have e3 : HT.sIx ns.length ns.length (some 63) = min 63 ns.length := HT.sIx_nat ns.length ns.length 63
    rw [e3]
    omega
  rw [e1, e2, List.drop_zero, Nat.sub_zero]
  exact List.take_of_length_le (by rw [List.length_map]; exact Nat.le_refl _)
/-- the numbers of the script, folded over to naturals -/
theorem lc_marks {env : En} {Q : RV → Prop} : ∀ (ns : List Int) (zs : List Int), (∀ z ∈ zs, 0 ≤ z) → zs.length + ns.length ≤ 63 → (∀ zs : List Int, (∀ z ∈ zs, 0 ≤ z) → zs.length ≤ 63 → Q (.own (.lst (zs.map PyData.int)))) →
    lcD (gNmD 3) tYesD (tBinD gAdd (tBinD gMul (tConD (.int 2)) (tCallB gAbs (tConsU (tVarD 3) tNilU))) (tCallB gInt (tConsU (tBinD gLt (tVarD 3) (tConD (.int 0))) tNilU))) [3] ([env[0]?.getD none, env[1]?.getD none, env[2]?.getD none, env[3]?.getD none, env[4]?.getD none]) Q (ns.map PyData.int) (zs.map PyData.int)
  | [], zs, h0, hl, q => q zs h0 (by simpa using hl)
  | n :: ns, zs, h0, hl, q => by
    refine ⟨.inl (by decide), ?_⟩
    rw [List.length_cons] at hl
    refine ⟨by rw [List.length_map, sizeLine_eq]; omega, ?_⟩
    have e : zs.map PyData.int ++ [PyData.int (2 * (if n < 0 then -n else n) + (if decide (n < 0) = true then 1 else 0))] = (zs ++ [2 * (if n < 0 then -n else n) + (if decide (n < 0) = true then 1 else 0)]).map PyData.int := by rw [List.map_append]; rfl
    show lcD _ _ _ _ _ _ _ (zs.map PyData.int ++ [PyData.int (2 * (if n < 0 then -n else n) + (if decide (n < 0) = true then 1 else 0))])
    rw [e]
    refine lc_marks ns _ (fun z hz => ?_) (by rw [List.length_append, List.length_singleton]; omega) q
    rcases List.mem_append.mp hz with hz | hz
    · exact h0 z hz
    · simp only [List.mem_cons, List.not_mem_nil, or_false] at hz
      subst hz
      split <;> split <;> omega
theorem for_stir {ns : List Int} {D : SE} {x3 : Option RV} {ms : List PyData} (q : ∀ (st : Int) (x4 : Option RV), D.nx [some (.scr ns), some (.d (.list ms)), some (.d (.int st)), x3, x4]) : ∀ (zs : List Int) (st : Int) (x4 : Option RV),
    forD (gNmD 4) (tSeqD (tSetD 2 (tBinD gMod (tCallB gInt (tConsU (tBinD gAdd (tBinD gMul (tVarD 2) (tConD (.int 69069))) (tVarD 4)) tNilU)) (tConD (.int 4294967291)))) tNxD) D (zs.map PyData.int) [some (.scr ns), some (.d (.list ms)), some (.d (.int st)), x3, x4]
  | [], st, x4 => q st x4
  | z :: zs, st, x4 => by
    refine ⟨.inr (.inl (by decide)), by decide, ?_⟩
    exact for_stir q zs _ _
theorem lc_great {env : En} {Q : RV → Prop} : ∀ (ns : List Int) (zs : List Int), (∀ z ∈ ns, 0 ≤ z) → (∀ z ∈ zs, 0 ≤ z) → zs.length + ns.length ≤ 63 → (∀ zs : List Int, (∀ z ∈ zs, 0 ≤ z) → zs.length ≤ 63 → Q (.own (.lst (zs.map PyData.int)))) →
    lcD (gNmD 4) (tTst (tBinD gGt (tVarD 4) (tBinD gPow (tConD (.int 10)) (tConD (.int 15))))) (tVarD 4) [4] ([env[0]?.getD none, env[1]?.getD none, env[2]?.getD none, env[3]?.getD none, env[4]?.getD none]) Q (ns.map PyData.int) (zs.map PyData.int)
  | [], zs, _, h0, hl, q => q zs h0 (by simpa using hl)
  | n :: ns, zs, hn, h0, hl, q => by
    rw [List.length_cons] at hl
    refine ⟨by decide, by decide, by decide, ?_⟩
    refine ite2 (fun _ => ?_) fun _ => ?_
    · refine ⟨by rw [List.length_map, sizeLine_eq]; omega, ?_⟩
      have e : zs.map PyData.int ++ [PyData.int n] = (zs ++ [n]).map PyData.int := by rw [List.map_append]; rfl
      rw [e]
      refine lc_great ns _ (fun z hz => hn z (List.mem_cons_of_mem _ hz)) (fun z hz => ?_) (by rw [List.length_append, List.length_singleton]; omega) q
      rcases List.mem_append.mp hz with hz | hz
      · exact h0 z hz
      · simp only [List.mem_cons, List.not_mem_nil, or_false] at hz
        subst hz
        exact hn _ List.mem_cons_self
    · exact lc_great ns zs (fun z hz => hn z (List.mem_cons_of_mem _ hz)) h0 (by omega) q
theorem box_inv {rs : List RV} {Q : RV → Prop} {Ex : Err → Prop} (h : sp__law_box rs Q Ex) : ∃ ns, rs = [.scr ns] ∧ ns.length ≤ 63 ∧ ∀ o, boxOk1 o → Q (.own o) := by
  unfold sp__law_box at h
  split at h
  · exact ⟨_, rfl, h⟩
  · exact h.elim
theorem h__law_box : ∀ rs Q Ex, rs.length = 1 → sp__law_box rs Q Ex → d__law_box (fnEnds Q Ex) (startD N__law_box.length rs) := by
  intro rs Q Ex _ h
  obtain ⟨ns, rfl, hl, q⟩ := box_inv h
  clear h
  unfold d__law_box
  show lcD _ _ _ _ _ _ (HA.cutD (ns.map PyData.int) none (some 63)) []
  rw [cut63 ns hl]
  refine lc_marks (env := [some (.scr ns), none, none, none, none]) ns [] (fun z hz => by cases hz) (by simpa using hl) fun zs hz hzl => ?_
  refine for_stir (ns := ns) (ms := zs.map PyData.int) (fun st x4 => ?_) zs _ none
  refine ⟨rfl, ?_⟩
  refine lc_great (env := [some (.scr ns), some (.d (.list (zs.map PyData.int))), some (.d (.int st)), none, x4]) zs [] hz (fun z hz => by cases hz) (by simpa using hzl) fun gs hg hgl => ?_
  exact ⟨rfl, rfl, q _ ⟨gs, st, 0, hg, rfl⟩⟩

/-! ### the law -/
theorem ints_rng (lo : Int) (n : Nat) : ∃ ns : List Int, rngL lo n = ns.map PyData.int := ⟨(List.range n).map fun i => lo + (i : Nat), by unfold rngL; rw [List.map_map]; rfl⟩
theorem l52 {D : SE} {x2 x3 x4 : Option RV} {a b c d : PyData} {r : Int} (hr : r = 0 ∨ r = 1) (t3 : Tm 12000 5 (.tuple [a, b, c, d])) (q : D.nx [none, some .box, x2, x3, x4, some (.d (.tuple [a, b, c, d])), some (.d (.int (2 + r)))]) :
    d_law_I5_2 D [none, some .box, x2, x3, x4, some (.d (.tuple [a, b, c, d])), some (.d (.int (2 + r)))] := by
  have ta := t3.mem (x := a) (by simp)
  have tb := t3.mem (x := b) (by simp)
  have tc := t3.mem (x := c) (by simp)
  have td := t3.mem (x := d) (by simp)
  have lo : ∀ {z : PyData}, Tm 12000 5 z → Tm 36200 6 z := fun h => h.mono (by decide) (by decide)
  rcases hr with rfl | rfl
  · refine ⟨c, rfl, rfl, 12000, 5, tc, by decide, fun z hz => ?_⟩
    refine ⟨Nat.le_of_ble_eq_true rfl, Nat.le_of_ble_eq_true rfl, Nat.le_of_ble_eq_true rfl, rfl, ?_⟩
    exact ⟨t3.mono (by decide) (by decide), Tm.tup (n := 36200) (k := 6) (c := 4) (ac (lo ta) (ac (lo tb) (ac hz (ac (lo td) an)))) (Nat.le_of_ble_eq_true rfl), q⟩
  · refine ⟨d, rfl, rfl, 12000, 5, td, by decide, fun z hz => ?_⟩
    refine ⟨Nat.le_of_ble_eq_true rfl, Nat.le_of_ble_eq_true rfl, Nat.le_of_ble_eq_true rfl, rfl, ?_⟩
    exact ⟨t3.mono (by decide) (by decide), Tm.tup (n := 36200) (k := 6) (c := 4) (ac (lo ta) (ac (lo tb) (ac (lo tc) (ac hz an)))) (Nat.le_of_ble_eq_true rfl), q⟩
theorem l5 {D : SE} {x2 x3 x4 x6 : Option RV} {y3 : PyData} (t3 : Tm 12000 5 y3) (q : ∀ x6, D.nx [none, some .box, x2, x3, x4, some (.d y3), x6]) : d_law_L1_5 D [none, some .box, x2, x3, x4, some (.d y3), x6] := by
  cases y3 with
  | tuple xs =>
    refine ⟨.inr ⟨rfl, rfl⟩, ?_⟩
    by_cases hl : xs.length = 4
    · obtain ⟨a, b, c, d, rfl⟩ : ∃ a b c d, xs = [a, b, c, d] := by
        match xs, hl with
        | [a, b, c, d], _ => exact ⟨a, b, c, d, rfl⟩
      refine ⟨rfl, by decide, sm_lit (by decide), fun r r0 r1 => ?_⟩
      exact l52 (by omega) t3 (q _)
    · refine ite2 (fun hc => ?_) fun _ => q _
      exact absurd hc (lenNe hl)
  | _ => exact q _
theorem l4 {D : SE} {n : Int} {x4 x6 : Option RV} {y1 y3 : PyData} (h1 : isRatio y1) (t3 : Tm 12000 5 y3) (q : ∀ x6, D.nx [none, some .box, some (.d (.int n)), some (.d y1), x4, some (.d y3), x6]) :
    d_law_L1_4 D [none, some .box, some (.d (.int n)), some (.d y1), x4, some (.d y3), x6] := by
  refine ⟨rfl, h1, fun y4 t4 => ?_⟩
  refine ⟨by decide, .inr ⟨rfl, rfl⟩, ?_⟩
  refine ⟨rfl, t4.mono (by decide) (by decide), t3.mono (by decide) (by decide), ?_⟩
  exact l5 t3 q
theorem l2 {D : SE} {n : Int} {x5 x6 : Option RV} {y1 y2 : PyData} (h1 : isRatio y1) (h2 : isMove y2) (q : ∀ x5 x6, D.nx [none, some .box, some (.d (.int n)), some (.d y1), some (.d y2), x5, x6]) :
    d_law_L1_2 D [none, some .box, some (.d (.int n)), some (.d y1), some (.d y2), x5, x6] := by
  have mx : Tm 150000 8 y1 := (isRatio.tm h1).mono (by decide) (by decide)
  have tm : Tm 900 2 y2 := by
    obtain ⟨a, b, c, d, rfl, h3, h4, h5, h6⟩ := h2
    exact Tm.tup (n := 200) (k := 1) (c := 4) (ac (isRatio.tm h3) (ac (isRatio.tm h4) (ac h5 (ac h6 an)))) (Nat.le_of_ble_eq_true rfl)
  have my : Tm 150000 8 y2 := tm.mono (by decide) (by decide)
  refine ⟨by decide, .inr ⟨rfl, rfl⟩, ?_⟩
  refine ⟨rfl, mx, my, ?_⟩
  show d_law_L1_3 _ [none, some .box, some (.d (.int n)), some (.d y1), some (.d y2), x5, x6]
  refine ⟨rfl, h2, fun y3 t3 => ?_⟩
  exact l4 h1 t3 fun x6 => q _ x6
theorem law_loop {D : SE} (q : ∀ x2 x3 x4 x5 x6, D.nx [none, some .box, x2, x3, x4, x5, x6]) : ∀ (ns : List Int) (x2 x3 x4 x5 x6 : Option RV), forD (gNmD 2) d_law_L1 D (ns.map PyData.int) [none, some .box, x2, x3, x4, x5, x6]
  | [], x2, x3, x4, x5, x6 => q x2 x3 x4 x5 x6
  | n :: ns, x2, x3, x4, x5, x6 => by
    refine ⟨rfl, fun y1 h1 => ?_⟩
    refine ⟨rfl, fun y2 h2 => ?_⟩
    exact l2 h1 h2 fun x5 x6 => law_loop q ns _ _ _ _ _
theorem h_law : d_law lawEnds (lawEnv N_law.length) := by
  refine ⟨⟨by decide, by decide⟩, ?_⟩
  obtain ⟨ns, e⟩ := ints_rng 0 16
  show forD _ _ _ (rngL 0 16) _
  rw [e]
  exact law_loop (fun x2 x3 x4 x5 x6 => rfl) ns _ _ _ _ _
theorem hbox_law : ∀ ns Q Ex, ns.length ≤ 63 → (∀ o, boxOk1 o → Q (.own o)) → sp__law_box [.scr ns] Q Ex := fun ns Q Ex h q => ⟨h, q⟩
theorem hk_law {K : PySem.W.Frag} : ∀ (F H : Hp) (b : Addr) (o : Ow), boxOk1 o → OwR K F H b o → F b = none → Same F H → ∃ l, l ≠ [] ∧ bx1.ok H b l := fun F H b o h w hf e => box1_is F H b o h w hf e

section
variable {P : Program} {w : World} {K : PySem.W.Frag} {mg : Str → Option Value} {base : Heap}
theorem ok_is_integer {fa : Addr} {fd : FuncData} (T : Tx K mg) (kin : K.In base) (F : Fun K "is_integer" "is_integer" s_is_integer fa fd) : FnG P w K mg base 1 fa fd p_is_integer (liftSp bx1 K mg 1 sp_is_integer) :=
  FnG.data F sc_is_integer rfl (fun cdv A outer s H E hr hg => b_is_integer T kin hr hg) h_is_integer
theorem ok__law_box {fa : Addr} {fd : FuncData} (T : Tx K mg) (kin : K.In base) (F : Fun K "_law_box" "_law_box" s__law_box fa fd) : FnG P w K mg base 1 fa fd p__law_box (liftSp bx1 K mg 1 sp__law_box) :=
  FnG.data F sc__law_box rfl (fun cdv A outer s H E hr hg => b__law_box T kin hr hg) h__law_box
theorem ok__law_is_whole {fa : Addr} {fd : FuncData} (T : Tx K mg) (kin : K.In base) (F : Fun K "_law_is_whole" "_law_is_whole" s__law_is_whole fa fd) : FnG P w K mg base 1 fa fd p__law_is_whole (liftSp bx1 K mg 1 sp__law_is_whole) :=
  FnG.data F sc__law_is_whole rfl (fun cdv A outer s H E hr hg => b__law_is_whole T kin hr hg) h__law_is_whole
theorem ok_fraction_error {fa : Addr} {fd : FuncData} (T : Tx K mg) (kin : K.In base) (F_is_integer : FnAt P w K mg base bx1 1 "is_integer" 1 p_is_integer sp_is_integer) (F : Fun K "fraction_error" "fraction_error" s_fraction_error fa fd) : FnG P w K mg base 2 fa fd p_fraction_error (liftSp bx1 K mg 1 sp_fraction_error) :=
  FnG.data F sc_fraction_error rfl (fun cdv A outer s H E hr hg => b_fraction_error T kin F_is_integer hr hg) h_fraction_error
theorem ok__law_pick {fa : Addr} {fd : FuncData} (T : Tx K mg) (kin : K.In base) (F__law_draw : FnAt P w K mg base bx1 1 "_law_draw" 2 p__law_draw sp__law_draw) (F : Fun K "_law_pick" "_law_pick" s__law_pick fa fd) : FnG P w K mg base 2 fa fd p__law_pick (liftSp bx1 K mg 2 sp__law_pick) :=
  FnG.data F sc__law_pick rfl (fun cdv A outer s H E hr hg => b__law_pick T kin F__law_draw hr hg) h__law_pick
theorem ok__law_fraction_error {fa : Addr} {fd : FuncData} (T : Tx K mg) (kin : K.In base) (F__law_is_whole : FnAt P w K mg base bx1 1 "_law_is_whole" 1 p__law_is_whole sp__law_is_whole) (F : Fun K "_law_fraction_error" "_law_fraction_error" s__law_fraction_error fa fd) : FnG P w K mg base 2 fa fd p__law_fraction_error (liftSp bx1 K mg 1 sp__law_fraction_error) :=
  FnG.data F sc__law_fraction_error rfl (fun cdv A outer s H E hr hg => b__law_fraction_error T kin F__law_is_whole hr hg) h__law_fraction_error
theorem ok_move_error {fa : Addr} {fd : FuncData} (T : Tx K mg) (kin : K.In base) (F_is_integer : FnAt P w K mg base bx1 1 "is_integer" 1 p_is_integer sp_is_integer) (F_fraction_error : FnAt P w K mg base bx1 2 "fraction_error" 1 p_fraction_error sp_fraction_error) (F : Fun K "move_error" "move_error" s_move_error fa fd) : FnG P w K mg base 3 fa fd p_move_error (liftSp bx1 K mg 1 sp_move_error) :=
  FnG.data F sc_move_error rfl (fun cdv A outer s H E hr hg => b_move_error T kin F_is_integer F_fraction_error hr hg) h_move_error
theorem ok__law_odd {fa : Addr} {fd : FuncData} (T : Tx K mg) (kin : K.In base) (F__law_pick : FnAt P w K mg base bx1 2 "_law_pick" 2 p__law_pick sp__law_pick) (F : Fun K "_law_odd" "_law_odd" s__law_odd fa fd) : FnG P w K mg base 3 fa fd p__law_odd (liftSp bx1 K mg 2 sp__law_odd) :=
  FnG.data F sc__law_odd rfl (fun cdv A outer s H E hr hg => b__law_odd T kin F__law_pick hr hg) h__law_odd
theorem ok__law_move_error {fa : Addr} {fd : FuncData} (T : Tx K mg) (kin : K.In base) (F__law_is_whole : FnAt P w K mg base bx1 1 "_law_is_whole" 1 p__law_is_whole sp__law_is_whole) (F__law_fraction_error : FnAt P w K mg base bx1 2 "_law_fraction_error" 1 p__law_fraction_error sp__law_fraction_error) (F : Fun K "_law_move_error" "_law_move_error" s__law_move_error fa fd) : FnG P w K mg base 3 fa fd p__law_move_error (liftSp bx1 K mg 1 sp__law_move_error) :=
  FnG.data F sc__law_move_error rfl (fun cdv A outer s H E hr hg => b__law_move_error T kin F__law_is_whole F__law_fraction_error hr hg) h__law_move_error
theorem ok__law_ratio {fa : Addr} {fd : FuncData} (T : Tx K mg) (kin : K.In base) (F__law_draw : FnAt P w K mg base bx1 1 "_law_draw" 2 p__law_draw sp__law_draw) (F__law_pick : FnAt P w K mg base bx1 2 "_law_pick" 2 p__law_pick sp__law_pick) (F : Fun K "_law_ratio" "_law_ratio" s__law_ratio fa fd) : FnG P w K mg base 3 fa fd p__law_ratio (liftSp bx1 K mg 1 sp__law_ratio) :=
  FnG.data F sc__law_ratio rfl (fun cdv A outer s H E hr hg => b__law_ratio T kin F__law_draw F__law_pick hr hg) h__law_ratio
theorem ok__law_odd_ratio {fa : Addr} {fd : FuncData} (T : Tx K mg) (kin : K.In base) (F__law_pick : FnAt P w K mg base bx1 2 "_law_pick" 2 p__law_pick sp__law_pick) (F__law_odd : FnAt P w K mg base bx1 3 "_law_odd" 2 p__law_odd sp__law_odd) (F : Fun K "_law_odd_ratio" "_law_odd_ratio" s__law_odd_ratio fa fd) : FnG P w K mg base 4 fa fd p__law_odd_ratio (liftSp bx1 K mg 2 sp__law_odd_ratio) :=
  FnG.data F sc__law_odd_ratio rfl (fun cdv A outer s H E hr hg => b__law_odd_ratio T kin F__law_pick F__law_odd hr hg) h__law_odd_ratio
theorem ok__law_moved {fa : Addr} {fd : FuncData} (T : Tx K mg) (kin : K.In base) (F__law_draw : FnAt P w K mg base bx1 1 "_law_draw" 2 p__law_draw sp__law_draw) (F__law_pick : FnAt P w K mg base bx1 2 "_law_pick" 2 p__law_pick sp__law_pick) (F__law_ratio : FnAt P w K mg base bx1 3 "_law_ratio" 1 p__law_ratio sp__law_ratio) (F : Fun K "_law_moved" "_law_moved" s__law_moved fa fd) : FnG P w K mg base 4 fa fd p__law_moved (liftSp bx1 K mg 1 sp__law_moved) :=
  FnG.data F sc__law_moved rfl (fun cdv A outer s H E hr hg => b__law_moved T kin F__law_draw F__law_pick F__law_ratio hr hg) h__law_moved
theorem ok__law_is_told {fa : Addr} {fd : FuncData} (T : Tx K mg) (kin : K.In base) (F_fraction_error : FnAt P w K mg base bx1 2 "fraction_error" 1 p_fraction_error sp_fraction_error) (F_move_error : FnAt P w K mg base bx1 3 "move_error" 1 p_move_error sp_move_error) (F__law_fraction_error : FnAt P w K mg base bx1 2 "_law_fraction_error" 1 p__law_fraction_error sp__law_fraction_error) (F__law_move_error : FnAt P w K mg base bx1 3 "_law_move_error" 1 p__law_move_error sp__law_move_error) (K_fraction_error_0 : FnKw P w K mg base bx1 2 "fraction_error" 1 p_fraction_error ["value"] gKw_0 sp_fraction_error) (K_move_error_0 : FnKw P w K mg base bx1 3 "move_error" 1 p_move_error ["value"] gKw_0 sp_move_error) (F : Fun K "_law_is_told" "_law_is_told" s__law_is_told fa fd) : FnG P w K mg base 4 fa fd p__law_is_told (liftSp bx1 K mg 3 sp__law_is_told) :=
  FnG.data F sc__law_is_told rfl (fun cdv A outer s H E hr hg => b__law_is_told T kin F_fraction_error F_move_error F__law_fraction_error F__law_move_error K_fraction_error_0 K_move_error_0 hr hg) h__law_is_told
theorem ok__law_odd_move {fa : Addr} {fd : FuncData} (T : Tx K mg) (kin : K.In base) (F__law_draw : FnAt P w K mg base bx1 1 "_law_draw" 2 p__law_draw sp__law_draw) (F__law_pick : FnAt P w K mg base bx1 2 "_law_pick" 2 p__law_pick sp__law_pick) (F__law_odd : FnAt P w K mg base bx1 3 "_law_odd" 2 p__law_odd sp__law_odd) (F__law_odd_ratio : FnAt P w K mg base bx1 4 "_law_odd_ratio" 2 p__law_odd_ratio sp__law_odd_ratio) (F : Fun K "_law_odd_move" "_law_odd_move" s__law_odd_move fa fd) : FnG P w K mg base 5 fa fd p__law_odd_move (liftSp bx1 K mg 2 sp__law_odd_move) :=
  FnG.data F sc__law_odd_move rfl (fun cdv A outer s H E hr hg => b__law_odd_move T kin F__law_draw F__law_pick F__law_odd F__law_odd_ratio hr hg) h__law_odd_move
theorem ok__law_draw {fa : Addr} {fd : FuncData} (T : Tx K mg) (kin : K.In base) (F : Fun K "_law_draw" "_law_draw" s__law_draw fa fd) : FnG P w K mg base 1 fa fd p__law_draw (liftSp bx1 K mg 2 sp__law_draw) :=
  FnG.draw1 F sc__law_draw rfl rfl fun cdv A outer s H E hr hg => b__law_draw T kin hr hg
theorem ok_law {fa : Addr} {fd : FuncData} (T : Tx K mg) (kin : K.In base) (F__law_box : FnAt P w K mg base bx1 1 "_law_box" 1 p__law_box sp__law_box) (F__law_draw : FnAt P w K mg base bx1 1 "_law_draw" 2 p__law_draw sp__law_draw) (F__law_odd : FnAt P w K mg base bx1 3 "_law_odd" 2 p__law_odd sp__law_odd) (F__law_ratio : FnAt P w K mg base bx1 3 "_law_ratio" 1 p__law_ratio sp__law_ratio) (F__law_odd_ratio : FnAt P w K mg base bx1 4 "_law_odd_ratio" 2 p__law_odd_ratio sp__law_odd_ratio) (F__law_moved : FnAt P w K mg base bx1 4 "_law_moved" 1 p__law_moved sp__law_moved) (F__law_odd_move : FnAt P w K mg base bx1 5 "_law_odd_move" 2 p__law_odd_move sp__law_odd_move) (F__law_is_told : FnAt P w K mg base bx1 4 "_law_is_told" 3 p__law_is_told sp__law_is_told) (F : Fun K "law" "law" s_law fa fd) : FnG P w K mg base 6 fa fd p_law (spLaw K) := by
  obtain ⟨s0, rest, hbody⟩ : ∃ s0 rest, defBody s_law = s0 :: rest := ⟨_, _, rfl⟩
  refine FnG.law (D := d_law) F sc_law (by decide) hbody (fun cdv A outer s H E hr hg => ?_) hbox_law hk_law h_law
  obtain ⟨s1, r1, e, h0, h1⟩ := b_law T kin F__law_box F__law_draw F__law_odd F__law_ratio F__law_odd_ratio F__law_moved F__law_odd_move F__law_is_told hr hg
  rw [hbody] at e
  cases e
  exact ⟨h0, h1⟩
end

theorem all_mk {l : PySem.W.OpenLaw} {w : World} {K : PySem.W.Frag} {h : Heap} {mg : Str → Option Value} {fa : Addr} (X : K.In h) (G : h.Ns mainGlobals mg) (hfa : mg "law" = some (.ref fa)) {f_is_integer : Addr} {f__law_box : Addr} {f__law_draw : Addr} {f__law_is_whole : Addr} {f_fraction_error : Addr} {f__law_pick : Addr} {f__law_fraction_error : Addr} {f_move_error : Addr} {f__law_odd : Addr} {f__law_move_error : Addr} {f__law_ratio : Addr} {f__law_odd_ratio : Addr} {f__law_moved : Addr} {f__law_is_told : Addr} {f__law_odd_move : Addr} {f_law : Addr}
    {od_is_integer an_is_integer : Option Addr} {sl_is_integer : Array (Option Value)} {oc_is_integer kV_is_integer dc_is_integer pm_is_integer cd_is_integer ct_is_integer : Value}
    {od__law_box an__law_box : Option Addr} {sl__law_box : Array (Option Value)} {oc__law_box kV__law_box dc__law_box pm__law_box cd__law_box ct__law_box : Value}
    {od__law_draw an__law_draw : Option Addr} {sl__law_draw : Array (Option Value)} {oc__law_draw kV__law_draw dc__law_draw pm__law_draw cd__law_draw ct__law_draw : Value}
    {od__law_is_whole an__law_is_whole : Option Addr} {sl__law_is_whole : Array (Option Value)} {oc__law_is_whole kV__law_is_whole dc__law_is_whole pm__law_is_whole cd__law_is_whole ct__law_is_whole : Value}
    {od_fraction_error an_fraction_error : Option Addr} {sl_fraction_error : Array (Option Value)} {oc_fraction_error kV_fraction_error dc_fraction_error pm_fraction_error cd_fraction_error ct_fraction_error : Value}
    {od__law_pick an__law_pick : Option Addr} {sl__law_pick : Array (Option Value)} {oc__law_pick kV__law_pick dc__law_pick pm__law_pick cd__law_pick ct__law_pick : Value}
    {od__law_fraction_error an__law_fraction_error : Option Addr} {sl__law_fraction_error : Array (Option Value)} {oc__law_fraction_error kV__law_fraction_error dc__law_fraction_error pm__law_fraction_error cd__law_fraction_error ct__law_fraction_error : Value}
    {od_move_error an_move_error : Option Addr} {sl_move_error : Array (Option Value)} {oc_move_error kV_move_error dc_move_error pm_move_error cd_move_error ct_move_error : Value}
    {od__law_odd an__law_odd : Option Addr} {sl__law_odd : Array (Option Value)} {oc__law_odd kV__law_odd dc__law_odd pm__law_odd cd__law_odd ct__law_odd : Value}
    {od__law_move_error an__law_move_error : Option Addr} {sl__law_move_error : Array (Option Value)} {oc__law_move_error kV__law_move_error dc__law_move_error pm__law_move_error cd__law_move_error ct__law_move_error : Value}
    {od__law_ratio an__law_ratio : Option Addr} {sl__law_ratio : Array (Option Value)} {oc__law_ratio kV__law_ratio dc__law_ratio pm__law_ratio cd__law_ratio ct__law_ratio : Value}
    {od__law_odd_ratio an__law_odd_ratio : Option Addr} {sl__law_odd_ratio : Array (Option Value)} {oc__law_odd_ratio kV__law_odd_ratio dc__law_odd_ratio pm__law_odd_ratio cd__law_odd_ratio ct__law_odd_ratio : Value}
    {od__law_moved an__law_moved : Option Addr} {sl__law_moved : Array (Option Value)} {oc__law_moved kV__law_moved dc__law_moved pm__law_moved cd__law_moved ct__law_moved : Value}
    {od__law_is_told an__law_is_told : Option Addr} {sl__law_is_told : Array (Option Value)} {oc__law_is_told kV__law_is_told dc__law_is_told pm__law_is_told cd__law_is_told ct__law_is_told : Value}
    {od__law_odd_move an__law_odd_move : Option Addr} {sl__law_odd_move : Array (Option Value)} {oc__law_odd_move kV__law_odd_move dc__law_odd_move pm__law_odd_move cd__law_odd_move ct__law_odd_move : Value}
    {od_law an_law : Option Addr} {sl_law : Array (Option Value)} {oc_law kV_law dc_law pm_law cd_law ct_law : Value}
    (a_is_integer : PySem.W.nsIn K mainGlobals "is_integer" = some (some (.ref f_is_integer))) (l_is_integer : K.lookup f_is_integer = some ⟨oc_is_integer, od_is_integer, .func (PySem.W.fnOf "is_integer" "is_integer" (defArgs s_is_integer) (defBody s_is_integer) (defScope s_is_integer) .none kV_is_integer dc_is_integer pm_is_integer an_is_integer cd_is_integer ct_is_integer), sl_is_integer⟩) (c_is_integer : PySem.W.codeIn K cd_is_integer "is_integer" = true) (k_is_integer : PySem.W.keepIn K (.ref f_is_integer) = true)
    (a__law_box : PySem.W.nsIn K mainGlobals "_law_box" = some (some (.ref f__law_box))) (l__law_box : K.lookup f__law_box = some ⟨oc__law_box, od__law_box, .func (PySem.W.fnOf "_law_box" "_law_box" (defArgs s__law_box) (defBody s__law_box) (defScope s__law_box) .none kV__law_box dc__law_box pm__law_box an__law_box cd__law_box ct__law_box), sl__law_box⟩) (c__law_box : PySem.W.codeIn K cd__law_box "_law_box" = true) (k__law_box : PySem.W.keepIn K (.ref f__law_box) = true)
    (a__law_draw : PySem.W.nsIn K mainGlobals "_law_draw" = some (some (.ref f__law_draw))) (l__law_draw : K.lookup f__law_draw = some ⟨oc__law_draw, od__law_draw, .func (PySem.W.fnOf "_law_draw" "_law_draw" (defArgs s__law_draw) (defBody s__law_draw) (defScope s__law_draw) .none kV__law_draw dc__law_draw pm__law_draw an__law_draw cd__law_draw ct__law_draw), sl__law_draw⟩) (c__law_draw : PySem.W.codeIn K cd__law_draw "_law_draw" = true) (k__law_draw : PySem.W.keepIn K (.ref f__law_draw) = true)
    (a__law_is_whole : PySem.W.nsIn K mainGlobals "_law_is_whole" = some (some (.ref f__law_is_whole))) (l__law_is_whole : K.lookup f__law_is_whole = some ⟨oc__law_is_whole, od__law_is_whole, .func (PySem.W.fnOf "_law_is_whole" "_law_is_whole" (defArgs s__law_is_whole) (defBody s__law_is_whole) (defScope s__law_is_whole) .none kV__law_is_whole dc__law_is_whole pm__law_is_whole an__law_is_whole cd__law_is_whole ct__law_is_whole), sl__law_is_whole⟩) (c__law_is_whole : PySem.W.codeIn K cd__law_is_whole "_law_is_whole" = true) (k__law_is_whole : PySem.W.keepIn K (.ref f__law_is_whole) = true)
    (a_fraction_error : PySem.W.nsIn K mainGlobals "fraction_error" = some (some (.ref f_fraction_error))) (l_fraction_error : K.lookup f_fraction_error = some ⟨oc_fraction_error, od_fraction_error, .func (PySem.W.fnOf "fraction_error" "fraction_error" (defArgs s_fraction_error) (defBody s_fraction_error) (defScope s_fraction_error) .none kV_fraction_error dc_fraction_error pm_fraction_error an_fraction_error cd_fraction_error ct_fraction_error), sl_fraction_error⟩) (c_fraction_error : PySem.W.codeIn K cd_fraction_error "fraction_error" = true) (k_fraction_error : PySem.W.keepIn K (.ref f_fraction_error) = true)
    (a__law_pick : PySem.W.nsIn K mainGlobals "_law_pick" = some (some (.ref f__law_pick))) (l__law_pick : K.lookup f__law_pick = some ⟨oc__law_pick, od__law_pick, .func (PySem.W.fnOf "_law_pick" "_law_pick" (defArgs s__law_pick) (defBody s__law_pick) (defScope s__law_pick) .none kV__law_pick dc__law_pick pm__law_pick an__law_pick cd__law_pick ct__law_pick), sl__law_pick⟩) (c__law_pick : PySem.W.codeIn K cd__law_pick "_law_pick" = true) (k__law_pick : PySem.W.keepIn K (.ref f__law_pick) = true)
    (a__law_fraction_error : PySem.W.nsIn K mainGlobals "_law_fraction_error" = some (some (.ref f__law_fraction_error))) (l__law_fraction_error : K.lookup f__law_fraction_error = some ⟨oc__law_fraction_error, od__law_fraction_error, .func (PySem.W.fnOf "_law_fraction_error" "_law_fraction_error" (defArgs s__law_fraction_error) (defBody s__law_fraction_error) (defScope s__law_fraction_error) .none kV__law_fraction_error dc__law_fraction_error pm__law_fraction_error an__law_fraction_error cd__law_fraction_error ct__law_fraction_error), sl__law_fraction_error⟩) (c__law_fraction_error : PySem.W.codeIn K cd__law_fraction_error "_law_fraction_error" = true) (k__law_fraction_error : PySem.W.keepIn K (.ref f__law_fraction_error) = true)
    (a_move_error : PySem.W.nsIn K mainGlobals "move_error" = some (some (.ref f_move_error))) (l_move_error : K.lookup f_move_error = some ⟨oc_move_error, od_move_error, .func (PySem.W.fnOf "move_error" "move_error" (defArgs s_move_error) (defBody s_move_error) (defScope s_move_error) .none kV_move_error dc_move_error pm_move_error an_move_error cd_move_error ct_move_error), sl_move_error⟩) (c_move_error : PySem.W.codeIn K cd_move_error "move_error" = true) (k_move_error : PySem.W.keepIn K (.ref f_move_error) = true)
    (a__law_odd : PySem.W.nsIn K mainGlobals "_law_odd" = some (some (.ref f__law_odd))) (l__law_odd : K.lookup f__law_odd = some ⟨oc__law_odd, od__law_odd, .func (PySem.W.fnOf "_law_odd" "_law_odd" (defArgs s__law_odd) (defBody s__law_odd) (defScope s__law_odd) .none kV__law_odd dc__law_odd pm__law_odd an__law_odd cd__law_odd ct__law_odd), sl__law_odd⟩) (c__law_odd : PySem.W.codeIn K cd__law_odd "_law_odd" = true) (k__law_odd : PySem.W.keepIn K (.ref f__law_odd) = true)
    (a__law_move_error : PySem.W.nsIn K mainGlobals "_law_move_error" = some (some (.ref f__law_move_error))) (l__law_move_error : K.lookup f__law_move_error = some ⟨oc__law_move_error, od__law_move_error, .func (PySem.W.fnOf "_law_move_error" "_law_move_error" (defArgs s__law_move_error) (defBody s__law_move_error) (defScope s__law_move_error) .none kV__law_move_error dc__law_move_error pm__law_move_error an__law_move_error cd__law_move_error ct__law_move_error), sl__law_move_error⟩) (c__law_move_error : PySem.W.codeIn K cd__law_move_error "_law_move_error" = true) (k__law_move_error : PySem.W.keepIn K (.ref f__law_move_error) = true)
    (a__law_ratio : PySem.W.nsIn K mainGlobals "_law_ratio" = some (some (.ref f__law_ratio))) (l__law_ratio : K.lookup f__law_ratio = some ⟨oc__law_ratio, od__law_ratio, .func (PySem.W.fnOf "_law_ratio" "_law_ratio" (defArgs s__law_ratio) (defBody s__law_ratio) (defScope s__law_ratio) .none kV__law_ratio dc__law_ratio pm__law_ratio an__law_ratio cd__law_ratio ct__law_ratio), sl__law_ratio⟩) (c__law_ratio : PySem.W.codeIn K cd__law_ratio "_law_ratio" = true) (k__law_ratio : PySem.W.keepIn K (.ref f__law_ratio) = true)
    (a__law_odd_ratio : PySem.W.nsIn K mainGlobals "_law_odd_ratio" = some (some (.ref f__law_odd_ratio))) (l__law_odd_ratio : K.lookup f__law_odd_ratio = some ⟨oc__law_odd_ratio, od__law_odd_ratio, .func (PySem.W.fnOf "_law_odd_ratio" "_law_odd_ratio" (defArgs s__law_odd_ratio) (defBody s__law_odd_ratio) (defScope s__law_odd_ratio) .none kV__law_odd_ratio dc__law_odd_ratio pm__law_odd_ratio an__law_odd_ratio cd__law_odd_ratio ct__law_odd_ratio), sl__law_odd_ratio⟩) (c__law_odd_ratio : PySem.W.codeIn K cd__law_odd_ratio "_law_odd_ratio" = true) (k__law_odd_ratio : PySem.W.keepIn K (.ref f__law_odd_ratio) = true)
    (a__law_moved : PySem.W.nsIn K mainGlobals "_law_moved" = some (some (.ref f__law_moved))) (l__law_moved : K.lookup f__law_moved = some ⟨oc__law_moved, od__law_moved, .func (PySem.W.fnOf "_law_moved" "_law_moved" (defArgs s__law_moved) (defBody s__law_moved) (defScope s__law_moved) .none kV__law_moved dc__law_moved pm__law_moved an__law_moved cd__law_moved ct__law_moved), sl__law_moved⟩) (c__law_moved : PySem.W.codeIn K cd__law_moved "_law_moved" = true) (k__law_moved : PySem.W.keepIn K (.ref f__law_moved) = true)
    (a__law_is_told : PySem.W.nsIn K mainGlobals "_law_is_told" = some (some (.ref f__law_is_told))) (l__law_is_told : K.lookup f__law_is_told = some ⟨oc__law_is_told, od__law_is_told, .func (PySem.W.fnOf "_law_is_told" "_law_is_told" (defArgs s__law_is_told) (defBody s__law_is_told) (defScope s__law_is_told) .none kV__law_is_told dc__law_is_told pm__law_is_told an__law_is_told cd__law_is_told ct__law_is_told), sl__law_is_told⟩) (c__law_is_told : PySem.W.codeIn K cd__law_is_told "_law_is_told" = true) (k__law_is_told : PySem.W.keepIn K (.ref f__law_is_told) = true)
    (a__law_odd_move : PySem.W.nsIn K mainGlobals "_law_odd_move" = some (some (.ref f__law_odd_move))) (l__law_odd_move : K.lookup f__law_odd_move = some ⟨oc__law_odd_move, od__law_odd_move, .func (PySem.W.fnOf "_law_odd_move" "_law_odd_move" (defArgs s__law_odd_move) (defBody s__law_odd_move) (defScope s__law_odd_move) .none kV__law_odd_move dc__law_odd_move pm__law_odd_move an__law_odd_move cd__law_odd_move ct__law_odd_move), sl__law_odd_move⟩) (c__law_odd_move : PySem.W.codeIn K cd__law_odd_move "_law_odd_move" = true) (k__law_odd_move : PySem.W.keepIn K (.ref f__law_odd_move) = true)
    (a_law : PySem.W.nsIn K mainGlobals "law" = some (some (.ref f_law))) (l_law : K.lookup f_law = some ⟨oc_law, od_law, .func (PySem.W.fnOf "law" "law" (defArgs s_law) (defBody s_law) (defScope s_law) .none kV_law dc_law pm_law an_law cd_law ct_law), sl_law⟩) (c_law : PySem.W.codeIn K cd_law "law" = true) (k_law : PySem.W.keepIn K (.ref f_law) = true)
    (z_abs : PySem.W.nsIn K mainGlobals "abs" = some none)
    (z_bool : PySem.W.nsIn K mainGlobals "bool" = some none)
    (z_int : PySem.W.nsIn K mainGlobals "int" = some none)
    (z_isinstance : PySem.W.nsIn K mainGlobals "isinstance" = some none)
    (z_len : PySem.W.nsIn K mainGlobals "len" = some none)
    (z_list : PySem.W.nsIn K mainGlobals "list" = some none)
    (z_range : PySem.W.nsIn K mainGlobals "range" = some none)
    (z_repr : PySem.W.nsIn K mainGlobals "repr" = some none)
    (z_tuple : PySem.W.nsIn K mainGlobals "tuple" = some none)
    (i_gcd : PySem.W.nsIn K mainGlobals "gcd" = some (some (.builtin "math.gcd"))) :
    ∃ fd : FuncData, (∀ (s : Shared) (v : Value), BindsTo s fd ⟨[v], []⟩ [("script", v)]) ∧ ∀ base : Heap, K.In base → base.Ns mainGlobals mg → FnG l.prog w K mg base 6 fa fd ["script"] (spLaw K) := by
  have e := hfa.symm.trans (PySem.W.mg_of X G a_law)
  cases e
  have T : Tx K mg := { sys := trivial, z_abs := PySem.W.mg_none_of X G z_abs, z_bool := PySem.W.mg_none_of X G z_bool, z_int := PySem.W.mg_none_of X G z_int, z_isinstance := PySem.W.mg_none_of X G z_isinstance, z_len := PySem.W.mg_none_of X G z_len, z_list := PySem.W.mg_none_of X G z_list, z_range := PySem.W.mg_none_of X G z_range, z_repr := PySem.W.mg_none_of X G z_repr, z_tuple := PySem.W.mg_none_of X G z_tuple, i_gcd := PySem.W.mg_of X G i_gcd }
  have E_is_integer := fun_mk (st := s_is_integer) l_is_integer c_is_integer k_is_integer
  have B_is_integer := E_is_integer.binds (ps := p_is_integer) fun _ _ _ _ _ _ us hl => match us, hl with | [_], _ => rfl
  have E__law_box := fun_mk (st := s__law_box) l__law_box c__law_box k__law_box
  have B__law_box := E__law_box.binds (ps := p__law_box) fun _ _ _ _ _ _ us hl => match us, hl with | [_], _ => rfl
  have E__law_draw := fun_mk (st := s__law_draw) l__law_draw c__law_draw k__law_draw
  have B__law_draw := E__law_draw.binds (ps := p__law_draw) fun _ _ _ _ _ _ us hl => match us, hl with | [_, _], _ => rfl
  have E__law_is_whole := fun_mk (st := s__law_is_whole) l__law_is_whole c__law_is_whole k__law_is_whole
  have B__law_is_whole := E__law_is_whole.binds (ps := p__law_is_whole) fun _ _ _ _ _ _ us hl => match us, hl with | [_], _ => rfl
  have E_fraction_error := fun_mk (st := s_fraction_error) l_fraction_error c_fraction_error k_fraction_error
  have B_fraction_error := E_fraction_error.binds (ps := p_fraction_error) fun _ _ _ _ _ _ us hl => match us, hl with | [_], _ => rfl
  have E__law_pick := fun_mk (st := s__law_pick) l__law_pick c__law_pick k__law_pick
  have B__law_pick := E__law_pick.binds (ps := p__law_pick) fun _ _ _ _ _ _ us hl => match us, hl with | [_, _], _ => rfl
  have E__law_fraction_error := fun_mk (st := s__law_fraction_error) l__law_fraction_error c__law_fraction_error k__law_fraction_error
  have B__law_fraction_error := E__law_fraction_error.binds (ps := p__law_fraction_error) fun _ _ _ _ _ _ us hl => match us, hl with | [_], _ => rfl
  have E_move_error := fun_mk (st := s_move_error) l_move_error c_move_error k_move_error
  have B_move_error := E_move_error.binds (ps := p_move_error) fun _ _ _ _ _ _ us hl => match us, hl with | [_], _ => rfl
  have E__law_odd := fun_mk (st := s__law_odd) l__law_odd c__law_odd k__law_odd
  have B__law_odd := E__law_odd.binds (ps := p__law_odd) fun _ _ _ _ _ _ us hl => match us, hl with | [_, _], _ => rfl
  have E__law_move_error := fun_mk (st := s__law_move_error) l__law_move_error c__law_move_error k__law_move_error
  have B__law_move_error := E__law_move_error.binds (ps := p__law_move_error) fun _ _ _ _ _ _ us hl => match us, hl with | [_], _ => rfl
  have E__law_ratio := fun_mk (st := s__law_ratio) l__law_ratio c__law_ratio k__law_ratio
  have B__law_ratio := E__law_ratio.binds (ps := p__law_ratio) fun _ _ _ _ _ _ us hl => match us, hl with | [_], _ => rfl
  have E__law_odd_ratio := fun_mk (st := s__law_odd_ratio) l__law_odd_ratio c__law_odd_ratio k__law_odd_ratio
  have B__law_odd_ratio := E__law_odd_ratio.binds (ps := p__law_odd_ratio) fun _ _ _ _ _ _ us hl => match us, hl with | [_, _], _ => rfl
  have E__law_moved := fun_mk (st := s__law_moved) l__law_moved c__law_moved k__law_moved
  have B__law_moved := E__law_moved.binds (ps := p__law_moved) fun _ _ _ _ _ _ us hl => match us, hl with | [_], _ => rfl
  have E__law_is_told := fun_mk (st := s__law_is_told) l__law_is_told c__law_is_told k__law_is_told
  have B__law_is_told := E__law_is_told.binds (ps := p__law_is_told) fun _ _ _ _ _ _ us hl => match us, hl with | [_, _, _], _ => rfl
  have E__law_odd_move := fun_mk (st := s__law_odd_move) l__law_odd_move c__law_odd_move k__law_odd_move
  have B__law_odd_move := E__law_odd_move.binds (ps := p__law_odd_move) fun _ _ _ _ _ _ us hl => match us, hl with | [_, _], _ => rfl
  have E_law := fun_mk (st := s_law) l_law c_law k_law
  have B_law := E_law.binds (ps := p_law) fun _ _ _ _ _ _ us hl => match us, hl with | [_], _ => rfl
  refine ⟨PySem.W.fnOf "law" "law" (defArgs s_law) (defBody s_law) (defScope s_law) .none kV_law dc_law pm_law an_law cd_law ct_law, fun s v => .of_eq rfl, fun base kin _ => ?_⟩
  have G_is_integer := ok_is_integer (P := l.prog) (w := w) (mg := mg) (base := base) T kin E_is_integer
  have F_is_integer : FnAt l.prog w K mg base bx1 1 "is_integer" 1 p_is_integer sp_is_integer := ⟨_, _, G_is_integer, PySem.W.mg_of X G a_is_integer, k_is_integer, B_is_integer⟩
  have G__law_box := ok__law_box (P := l.prog) (w := w) (mg := mg) (base := base) T kin E__law_box
  have F__law_box : FnAt l.prog w K mg base bx1 1 "_law_box" 1 p__law_box sp__law_box := ⟨_, _, G__law_box, PySem.W.mg_of X G a__law_box, k__law_box, B__law_box⟩
  have G__law_draw := ok__law_draw (P := l.prog) (w := w) (mg := mg) (base := base) T kin E__law_draw
  have F__law_draw : FnAt l.prog w K mg base bx1 1 "_law_draw" 2 p__law_draw sp__law_draw := ⟨_, _, G__law_draw, PySem.W.mg_of X G a__law_draw, k__law_draw, B__law_draw⟩
  have G__law_is_whole := ok__law_is_whole (P := l.prog) (w := w) (mg := mg) (base := base) T kin E__law_is_whole
  have F__law_is_whole : FnAt l.prog w K mg base bx1 1 "_law_is_whole" 1 p__law_is_whole sp__law_is_whole := ⟨_, _, G__law_is_whole, PySem.W.mg_of X G a__law_is_whole, k__law_is_whole, B__law_is_whole⟩
  have G_fraction_error := ok_fraction_error (P := l.prog) (w := w) (mg := mg) (base := base) T kin F_is_integer E_fraction_error
  have F_fraction_error : FnAt l.prog w K mg base bx1 2 "fraction_error" 1 p_fraction_error sp_fraction_error := ⟨_, _, G_fraction_error, PySem.W.mg_of X G a_fraction_error, k_fraction_error, B_fraction_error⟩
  have K_fraction_error_0 : FnKw l.prog w K mg base bx1 2 "fraction_error" 1 p_fraction_error ["value"] gKw_0 sp_fraction_error := ⟨_, _, G_fraction_error, PySem.W.mg_of X G a_fraction_error, k_fraction_error, HA.Fun.kwb (g := fun xs => gKw_0 xs) E_fraction_error (fun _ _ _ _ _ _ ws hl => match ws, hl with | [_], _ => rfl) (fun h => gKw_0_rel _ _ _ h)⟩
  have G__law_pick := ok__law_pick (P := l.prog) (w := w) (mg := mg) (base := base) T kin F__law_draw E__law_pick
  have F__law_pick : FnAt l.prog w K mg base bx1 2 "_law_pick" 2 p__law_pick sp__law_pick := ⟨_, _, G__law_pick, PySem.W.mg_of X G a__law_pick, k__law_pick, B__law_pick⟩
  have G__law_fraction_error := ok__law_fraction_error (P := l.prog) (w := w) (mg := mg) (base := base) T kin F__law_is_whole E__law_fraction_error
  have F__law_fraction_error : FnAt l.prog w K mg base bx1 2 "_law_fraction_error" 1 p__law_fraction_error sp__law_fraction_error := ⟨_, _, G__law_fraction_error, PySem.W.mg_of X G a__law_fraction_error, k__law_fraction_error, B__law_fraction_error⟩
  have G_move_error := ok_move_error (P := l.prog) (w := w) (mg := mg) (base := base) T kin F_is_integer F_fraction_error E_move_error
  have F_move_error : FnAt l.prog w K mg base bx1 3 "move_error" 1 p_move_error sp_move_error := ⟨_, _, G_move_error, PySem.W.mg_of X G a_move_error, k_move_error, B_move_error⟩
  have K_move_error_0 : FnKw l.prog w K mg base bx1 3 "move_error" 1 p_move_error ["value"] gKw_0 sp_move_error := ⟨_, _, G_move_error, PySem.W.mg_of X G a_move_error, k_move_error, HA.Fun.kwb (g := fun xs => gKw_0 xs) E_move_error (fun _ _ _ _ _ _ ws hl => match ws, hl with | [_], _ => rfl) (fun h => gKw_0_rel _ _ _ h)⟩
  have G__law_odd := ok__law_odd (P := l.prog) (w := w) (mg := mg) (base := base) T kin F__law_pick E__law_odd
  have F__law_odd : FnAt l.prog w K mg base bx1 3 "_law_odd" 2 p__law_odd sp__law_odd := ⟨_, _, G__law_odd, PySem.W.mg_of X G a__law_odd, k__law_odd, B__law_odd⟩
  have G__law_move_error := ok__law_move_error (P := l.prog) (w := w) (mg := mg) (base := base) T kin F__law_is_whole F__law_fraction_error E__law_move_error
  have F__law_move_error : FnAt l.prog w K mg base bx1 3 "_law_move_error" 1 p__law_move_error sp__law_move_error := ⟨_, _, G__law_move_error, PySem.W.mg_of X G a__law_move_error, k__law_move_error, B__law_move_error⟩
  have G__law_ratio := ok__law_ratio (P := l.prog) (w := w) (mg := mg) (base := base) T kin F__law_draw F__law_pick E__law_ratio
  have F__law_ratio : FnAt l.prog w K mg base bx1 3 "_law_ratio" 1 p__law_ratio sp__law_ratio := ⟨_, _, G__law_ratio, PySem.W.mg_of X G a__law_ratio, k__law_ratio, B__law_ratio⟩
  have G__law_odd_ratio := ok__law_odd_ratio (P := l.prog) (w := w) (mg := mg) (base := base) T kin F__law_pick F__law_odd E__law_odd_ratio
  have F__law_odd_ratio : FnAt l.prog w K mg base bx1 4 "_law_odd_ratio" 2 p__law_odd_ratio sp__law_odd_ratio := ⟨_, _, G__law_odd_ratio, PySem.W.mg_of X G a__law_odd_ratio, k__law_odd_ratio, B__law_odd_ratio⟩
  have G__law_moved := ok__law_moved (P := l.prog) (w := w) (mg := mg) (base := base) T kin F__law_draw F__law_pick F__law_ratio E__law_moved
  have F__law_moved : FnAt l.prog w K mg base bx1 4 "_law_moved" 1 p__law_moved sp__law_moved := ⟨_, _, G__law_moved, PySem.W.mg_of X G a__law_moved, k__law_moved, B__law_moved⟩
  have G__law_is_told := ok__law_is_told (P := l.prog) (w := w) (mg := mg) (base := base) T kin F_fraction_error F_move_error F__law_fraction_error F__law_move_error K_fraction_error_0 K_move_error_0 E__law_is_told
  have F__law_is_told : FnAt l.prog w K mg base bx1 4 "_law_is_told" 3 p__law_is_told sp__law_is_told := ⟨_, _, G__law_is_told, PySem.W.mg_of X G a__law_is_told, k__law_is_told, B__law_is_told⟩
  have G__law_odd_move := ok__law_odd_move (P := l.prog) (w := w) (mg := mg) (base := base) T kin F__law_draw F__law_pick F__law_odd F__law_odd_ratio E__law_odd_move
  have F__law_odd_move : FnAt l.prog w K mg base bx1 5 "_law_odd_move" 2 p__law_odd_move sp__law_odd_move := ⟨_, _, G__law_odd_move, PySem.W.mg_of X G a__law_odd_move, k__law_odd_move, B__law_odd_move⟩
  exact ok_law T kin F__law_box F__law_draw F__law_odd F__law_ratio F__law_odd_ratio F__law_moved F__law_odd_move F__law_is_told E_law

end K08
open PySem PySem.W PyProof.Rows
set_option Elab.async false
set_option maxRecDepth 100000 in
set_option maxHeartbeats 0 in
theorem PySem.Challenge.cw_heardagain_k08_what_are_fractions_and_mo_holds : PySem.Challenge.rw_heardagain_k08_what_are_fractions_and_mo.Holds := by
  w_on; o_law; k_head; (case hw => w_witness2)
  k_fill
  refine HA.walk_ofG (l := PySem.Challenge.rw_heardagain_k08_what_are_fractions_and_mo) (k := 6) (x := "script") rfl rfl ⟨rfl, by decide, by decide⟩ (fun w h Y => PySem.W.kIn_of Y) ?F
  case F =>
    intro w mg fa h KX G hmg
    refine' K08.all_mk KX G hmg ?a_is_integer ?l_is_integer ?c_is_integer ?k_is_integer ?a__law_box ?l__law_box ?c__law_box ?k__law_box ?a__law_draw ?l__law_draw ?c__law_draw ?k__law_draw ?a__law_is_whole ?l__law_is_whole ?c__law_is_whole ?k__law_is_whole ?a_fraction_error ?l_fraction_error ?c_fraction_error ?k_fraction_error ?a__law_pick ?l__law_pick ?c__law_pick ?k__law_pick ?a__law_fraction_error ?l__law_fraction_error ?c__law_fraction_error ?k__law_fraction_error ?a_move_error ?l_move_error ?c_move_error ?k_move_error ?a__law_odd ?l__law_odd ?c__law_odd ?k__law_odd ?a__law_move_error ?l__law_move_error ?c__law_move_error ?k__law_move_error ?a__law_ratio ?l__law_ratio ?c__law_ratio ?k__law_ratio ?a__law_odd_ratio ?l__law_odd_ratio ?c__law_odd_ratio ?k__law_odd_ratio ?a__law_moved ?l__law_moved ?c__law_moved ?k__law_moved ?a__law_is_told ?l__law_is_told ?c__law_is_told ?k__law_is_told ?a__law_odd_move ?l__law_odd_move ?c__law_odd_move ?k__law_odd_move ?a_law ?l_law ?c_law ?k_law ?z_abs ?z_bool ?z_int ?z_isinstance ?z_len ?z_list ?z_range ?z_repr ?z_tuple ?i_gcd
    (case a_is_integer => first | k_is | rfl); (case l_is_integer => first | k_is | rfl); (case c_is_integer => first | k_is | rfl); (case k_is_integer => first | k_is | rfl); (case a__law_box => first | k_is | rfl); (case l__law_box => first | k_is | rfl); (case c__law_box => first | k_is | rfl); (case k__law_box => first | k_is | rfl); (case a__law_draw => first | k_is | rfl); (case l__law_draw => first | k_is | rfl); (case c__law_draw => first | k_is | rfl); (case k__law_draw => first | k_is | rfl); (case a__law_is_whole => first | k_is | rfl); (case l__law_is_whole => first | k_is | rfl); (case c__law_is_whole => first | k_is | rfl); (case k__law_is_whole => first | k_is | rfl); (case a_fraction_error => first | k_is | rfl); (case l_fraction_error => first | k_is | rfl); (case c_fraction_error => first | k_is | rfl); (case k_fraction_error => first | k_is | rfl); (case a__law_pick => first | k_is | rfl); (case l__law_pick => first | k_is | rfl); (case c__law_pick => first | k_is | rfl); (case k__law_pick => first | k_is | rfl); (case a__law_fraction_error => first | k_is | rfl); (case l__law_fraction_error => first | k_is | rfl); (case c__law_fraction_error => first | k_is | rfl); (case k__law_fraction_error => first | k_is | rfl); (case a_move_error => first | k_is | rfl); (case l_move_error => first | k_is | rfl); (case c_move_error => first | k_is | rfl); (case k_move_error => first | k_is | rfl); (case a__law_odd => first | k_is | rfl); (case l__law_odd => first | k_is | rfl); (case c__law_odd => first | k_is | rfl); (case k__law_odd => first | k_is | rfl); (case a__law_move_error => first | k_is | rfl); (case l__law_move_error => first | k_is | rfl); (case c__law_move_error => first | k_is | rfl); (case k__law_move_error => first | k_is | rfl); (case a__law_ratio => first | k_is | rfl); (case l__law_ratio => first | k_is | rfl); (case c__law_ratio => first | k_is | rfl); (case k__law_ratio => first | k_is | rfl); (case a__law_odd_ratio => first | k_is | rfl); (case l__law_odd_ratio => first | k_is | rfl); (case c__law_odd_ratio => first | k_is | rfl); (case k__law_odd_ratio => first | k_is | rfl); (case a__law_moved => first | k_is | rfl); (case l__law_moved => first | k_is | rfl); (case c__law_moved => first | k_is | rfl); (case k__law_moved => first | k_is | rfl); (case a__law_is_told => first | k_is | rfl); (case l__law_is_told => first | k_is | rfl); (case c__law_is_told => first | k_is | rfl); (case k__law_is_told => first | k_is | rfl); (case a__law_odd_move => first | k_is | rfl); (case l__law_odd_move => first | k_is | rfl); (case c__law_odd_move => first | k_is | rfl); (case k__law_odd_move => first | k_is | rfl); (case a_law => first | k_is | rfl); (case l_law => first | k_is | rfl); (case c_law => first | k_is | rfl); (case k_law => first | k_is | rfl); (case z_abs => first | k_is | rfl); (case z_bool => first | k_is | rfl); (case z_int => first | k_is | rfl); (case z_isinstance => first | k_is | rfl); (case z_len => first | k_is | rfl); (case z_list => first | k_is | rfl); (case z_range => first | k_is | rfl); (case z_repr => first | k_is | rfl); (case z_tuple => first | k_is | rfl); (case i_gcd => first | k_is | rfl)
