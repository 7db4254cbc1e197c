import PyProof.Rows.All
import Wide.All
import OpenK.AllK
import Wide.FinOn
import HandS.ForMost
import HandS.Deep
import PyProof.StrOps2
import KE.SortData
import KE.DataMinMax
import PyProof.Rows.SeqMore
import PyProof.InstNe
import OpenK.KOps
import HandS.IsInst
import HandS.OwnEq
import HandS.SortKw
import PyProof.DictMoreH
import HandS.SetKeys
import HandS.Walk
import HandS.Zip
import KE.Datum
import KE.DatumOrd
import PyProof.ReprRoads
import PyProof.ReprLen
import HandS.Words
import HandS.Ends
import PySem.Challenge.RW_whistleboard_k65_whole_radio_in_any_orde
set_option Elab.async false
set_option linter.all false
set_option maxRecDepth 100000
set_option maxHeartbeats 4000000
/-! Wb: the heap as data (L: values that read as data, never changed) and cells (cs: what may change), with everything else kept. -/
namespace Wb
open PySem L2

def Ex (H H' : Hp) : Prop := ∀ a o, H a = some o → H' a = some o
theorem Ex.rf {H : Hp} : Ex H H := fun _ _ h => h
theorem Ex.tr {H H1 H2 : Hp} (a : Ex H H1) (b : Ex H1 H2) : Ex H H2 := fun x o h => b x o (a x o h)
theorem Ex.new {H : Hp} {p : Addr} {o : HO} (h : H p = none) : Ex H (upd H p o) := fun a u e => by rw [upd_ne (ne_of_none e h)]; exact e
theorem Ex.mut {H H' : Hp} {p : Addr} {o : HO} (e : Ex H H') (h : H p = none) : Ex H (upd H' p o) := fun a u ha => by rw [upd_ne (ne_of_none ha h)]; exact e a u ha
theorem Ex.back {H H' : Hp} {p : Addr} (e : Ex H H') (h : H' p = none) : H p = none := by
  cases h1 : H p with
  | none => rfl
  | some o => rw [e p o h1] at h; cases h
theorem Ex.rd {H H' : Hp} {a : Addr} {u : HO} (e : Ex H H') (h : Rd H a u) : Rd H' a u := h.elim (fun h => .inl (e a _ h)) fun ⟨o, h⟩ => .inr ⟨o, e a _ h⟩
theorem Ex.l {K : PySem.W.Frag} {H H' : Hp} {a : Addr} {xs : List V} (e : Ex H H') (h : SqL K H a xs) : SqL K H' a xs := h.elim (fun h => .inl (e.rd h)) .inr
theorem Ex.t {K : PySem.W.Frag} {H H' : Hp} {a : Addr} {xs : List V} (e : Ex H H') (h : SqT K H a xs) : SqT K H' a xs := h.elim (fun h => .inl (e.rd h)) .inr
mutual
theorem dp_ex {K : PySem.W.Frag} {H H' : Hp} (e : Ex H H') : ∀ (d : PyData) (v : V), Dp K H v d → Dp K H' v d
  | .none, _, h => by cases h; exact .non
  | .bool b, _, h => by cases h; exact .bl b
  | .int i, _, h => by cases h; exact .int i
  | .str x, _, h => by cases h; exact .str x
  | .list ds, _, h => by
    cases h with
    | lst hs ha => exact .lst (e.l hs) (dpAll_ex e ds _ ha)
  | .tuple ds, _, h => by
    cases h with
    | tup hs ha => exact .tup (e.t hs) (dpAll_ex e ds _ ha)
  | .dict _, _, h => by cases h
theorem dpAll_ex {K : PySem.W.Frag} {H H' : Hp} (e : Ex H H') : ∀ (ds : List PyData) (vs : List V), DpAll K H vs ds → DpAll K H' vs ds
  | [], _, h => by cases h; exact .nil
  | d :: ds, _, h => by
    cases h with
    | cons h1 h2 => exact .cons (dp_ex e d _ h1) (dpAll_ex e ds _ h2)
end

/-! ### lists of data -/
section
variable {K : PySem.W.Frag} {H : Hp}
theorem da_len : ∀ {vs : List V} {ds : List PyData}, DpAll K H vs ds → vs.length = ds.length
  | _, _, .nil => rfl
  | _, _, .cons _ t => by simp [da_len t]
theorem da_get : ∀ {vs : List V} {ds : List PyData} {i : Nat} {d : PyData}, DpAll K H vs ds → ds[i]? = some d → ∃ v, vs[i]? = some v ∧ Dp K H v d
  | _, _, _, _, .nil, e => by simp at e
  | _, _, 0, _, .cons (v := v) r _, e => by simp at e; subst e; exact ⟨v, rfl, r⟩
  | _, _, i + 1, d, .cons _ t, e => by
    obtain ⟨v, h1, h2⟩ := da_get (i := i) (d := d) t (by simpa using e)
    exact ⟨v, by simpa using h1, h2⟩
theorem da_at : ∀ {vs : List V} {ds : List PyData} {i : Nat} {v : V}, DpAll K H vs ds → vs[i]? = some v → ∃ d, ds[i]? = some d ∧ Dp K H v d
  | _, _, _, _, .nil, e => by simp at e
  | _, _, 0, _, .cons (d := d) r _, e => by simp at e; subst e; exact ⟨d, rfl, r⟩
  | _, _, i + 1, v, .cons _ t, e => by
    obtain ⟨d, h1, h2⟩ := da_at (i := i) (v := v) t (by simpa using e)
    exact ⟨d, by simpa using h1, h2⟩
theorem da_app : ∀ {vs ws : List V} {ds es : List PyData}, DpAll K H vs ds → DpAll K H ws es → DpAll K H (vs ++ ws) (ds ++ es)
  | _, _, _, _, .nil, s => s
  | _, _, _, _, .cons r t, s => .cons r (da_app t s)
theorem da_one {v : V} {d : PyData} (h : Dp K H v d) : DpAll K H [v] [d] := .cons h .nil
theorem da_take : ∀ {vs : List V} {ds : List PyData} (n : Nat), DpAll K H vs ds → DpAll K H (vs.take n) (ds.take n)
  | _, _, 0, _ => by simpa using DpAll.nil
  | _, _, _ + 1, .nil => by simpa using DpAll.nil
  | _, _, n + 1, .cons r t => .cons r (da_take n t)
theorem da_drop : ∀ {vs : List V} {ds : List PyData} (n : Nat), DpAll K H vs ds → DpAll K H (vs.drop n) (ds.drop n)
  | _, _, 0, r => r
  | _, _, _ + 1, .nil => by simpa using DpAll.nil
  | _, _, n + 1, .cons _ t => da_drop n t
theorem da_set : ∀ {vs : List V} {ds : List PyData} {v : V} {d : PyData} (i : Nat), DpAll K H vs ds → Dp K H v d → DpAll K H (vs.set i v) (ds.set i d)
  | _, _, _, _, _, .nil, _ => by simpa using DpAll.nil
  | _, _, _, _, 0, .cons _ t, h => .cons h t
  | _, _, _, _, i + 1, .cons r t, h => .cons r (da_set i t h)
theorem da_erase : ∀ {vs : List V} {ds : List PyData} (i : Nat), DpAll K H vs ds → DpAll K H (vs.eraseIdx i) (ds.eraseIdx i)
  | _, _, _, .nil => by simpa using DpAll.nil
  | _, _, 0, .cons _ t => t
  | _, _, i + 1, .cons r t => .cons r (da_erase i t)
theorem da_rev : ∀ {vs : List V} {ds : List PyData}, DpAll K H vs ds → DpAll K H vs.reverse ds.reverse
  | _, _, .nil => .nil
  | _, _, .cons r t => by rw [List.reverse_cons, List.reverse_cons]; exact da_app (da_rev t) (da_one r)
theorem da_ints : ∀ {ns : List Int}, DpAll K H (ns.map V.int) (ns.map PyData.int)
  | [] => .nil
  | n :: r => .cons (.int n) da_ints
theorem da_strs : ∀ {ns : List Str}, DpAll K H (ns.map V.str) (ns.map PyData.str)
  | [] => .nil
  | n :: r => .cons (.str n) da_strs
theorem of_ints : ∀ {ns : List Int} {vs : List V}, DpAll K H vs (ns.map PyData.int) → vs = ns.map V.int
  | [], _, h => by cases h; rfl
  | n :: r, _, h => by
    cases h with
    | cons h1 h2 => cases h1; rw [of_ints h2]; rfl
theorem of_strs : ∀ {ns : List Str} {vs : List V}, DpAll K H vs (ns.map PyData.str) → vs = ns.map V.str
  | [], _, h => by cases h; rfl
  | n :: r, _, h => by
    cases h with
    | cons h1 h2 => cases h1; rw [of_strs h2]; rfl
theorem of_bls : ∀ {ns : List Bool} {vs : List V}, DpAll K H vs (ns.map PyData.bool) → vs = ns.map V.bl
  | [], _, h => by cases h; rfl
  | n :: r, _, h => by
    cases h with
    | cons h1 h2 => cases h1; rw [of_bls h2]; rfl
theorem atI_da {vs : List V} {ds : List PyData} {i : Int} {d : PyData} (h : DpAll K H vs ds) (e : atI ds i = some d) : ∃ v, atI vs i = some v ∧ Dp K H v d := by
  unfold atI at e ⊢
  rw [da_len h]
  cases q : ixN ds.length i with
  | none => rw [q] at e; cases e
  | some j =>
    rw [q] at e
    exact da_get (i := j) h e
theorem dp_tup {v : V} {ds : List PyData} (h : Dp K H v (.tuple ds)) : ∃ a xs, v = .ref a ∧ SqT K H a xs ∧ DpAll K H xs ds := by
  cases h with
  | tup h1 h2 => exact ⟨_, _, rfl, h1, h2⟩
theorem dp_lst {v : V} {ds : List PyData} (h : Dp K H v (.list ds)) : ∃ a xs, v = .ref a ∧ SqL K H a xs ∧ DpAll K H xs ds := by
  cases h with
  | lst h1 h2 => exact ⟨_, _, rfl, h1, h2⟩
end

/-- a value without a place -/
def scV : PyData → Option V
  | .none => some .non
  | .bool b => some (.bl b)
  | .int i => some (.int i)
  | .str x => some (.str x)
  | _ => none
theorem dp_sc {K : PySem.W.Frag} {H : Hp} {v : V} : ∀ {d : PyData}, scV d = some v → Dp K H v d
  | .none, h => by cases h; exact .non
  | .bool b, h => by cases h; exact .bl b
  | .int i, h => by cases h; exact .int i
  | .str x, h => by cases h; exact .str x
  | .list _, h => by cases h
  | .tuple _, h => by cases h
  | .dict _, h => by cases h
theorem sc_dp {K : PySem.W.Frag} {H : Hp} {v w : V} : ∀ {d : PyData}, scV d = some w → Dp K H v d → v = w
  | .none, h, q => by cases h; cases q; rfl
  | .bool b, h, q => by cases h; cases q; rfl
  | .int i, h, q => by cases h; cases q; rfl
  | .str x, h, q => by cases h; cases q; rfl
  | .list _, h, _ => by cases h
  | .tuple _, h, _ => by cases h
  | .dict _, h, _ => by cases h

/-! ### the state -/
inductive CO where
  /-- a list of data -/
  | dl (ds : List PyData)
  /-- any object -/
  | raw (o : HO)
abbrev Lk := List (V × PyData)
abbrev Cs := List (Addr × CO)
def COk (K : PySem.W.Frag) (H0 H : Hp) (a : Addr) : CO → Prop
  | .dl ds => ∃ xs, H a = some (.lst xs) ∧ DpAll K H0 xs ds
  | .raw o => H a = some o
structure Wd (K : PySem.W.Frag) (H : Hp) (L : Lk) (cs : Cs) : Prop where
  ok : ∃ H0, Ex H0 H ∧ (∀ p ∈ L, Dp K H0 p.1 p.2) ∧ ∀ c ∈ cs, H0 c.1 = none ∧ COk K H0 H c.1 c.2
  nd : (cs.map (·.1)).Nodup
/-- a value that is known as data, or has no place -/
def Has (L : Lk) (v : V) (d : PyData) : Prop := (v, d) ∈ L ∨ scV d = some v
/-- .. or is a list that may change -/
def Rdb (L : Lk) (cs : Cs) (v : V) (d : PyData) : Prop := Has L v d ∨ ∃ a ds, v = .ref a ∧ d = .list ds ∧ (a, CO.dl ds) ∈ cs
inductive HasA (L : Lk) : List V → List PyData → Prop
  | nil : HasA L [] []
  | cons {v d vs ds} : Has L v d → HasA L vs ds → HasA L (v :: vs) (d :: ds)

section
variable {K : PySem.W.Frag} {H H' : Hp} {L L' : Lk} {cs cs' : Cs} {a p : Addr} {v x : V} {d : PyData} {ds es : List PyData} {o : HO} {c : CO} {Q : VK}
theorem COk.mono {H0 H1 : Hp} (e : Ex H0 H1) (e' : ∀ o, H a = some o → H' a = some o) (h : COk K H0 H a c) : COk K H1 H' a c := by
  cases c with
  | dl ds =>
    obtain ⟨xs, h1, h2⟩ := h
    exact ⟨xs, e' _ h1, dpAll_ex e _ _ h2⟩
  | raw o => exact e' _ h
theorem COk.some {H0 : Hp} (h : COk K H0 H a c) : ∃ o, H a = some o := by
  cases c with
  | dl ds =>
    obtain ⟨xs, h1, _⟩ := h
    exact ⟨_, h1⟩
  | raw o => exact ⟨_, h⟩
theorem Wd.start (h : ∀ p ∈ L, Dp K H p.1 p.2) : Wd K H L [] := ⟨⟨H, Ex.rf, h, fun _ h => by cases h⟩, List.nodup_nil⟩
theorem Wd.now (W : Wd K H L cs) (h : Has L v d) : Dp K H v d := by
  obtain ⟨H0, e, hl, _⟩ := W.ok
  rcases h with h | h
  · exact dp_ex e _ _ (hl _ h)
  · exact dp_sc h
theorem Wd.rd (W : Wd K H L cs) (h : Rdb L cs v d) : Dp K H v d := by
  rcases h with h | ⟨a, ds, rfl, rfl, h⟩
  · exact W.now h
  · obtain ⟨H0, e, hl, hc⟩ := W.ok
    obtain ⟨_, xs, h1, h2⟩ := hc _ h
    exact .lst (.inl (.inl h1)) (dpAll_ex e _ _ h2)
/-- a readable list's items are data -/
theorem Wd.items (W : Wd K H L cs) (h : Rdb L cs v (.list ds)) : ∃ a xs, v = .ref a ∧ SqL K H a xs ∧ xs.length = ds.length ∧ Wd K H (xs.zip ds ++ L) cs := by
  have key : ∀ {H0 : Hp} {xs : List V}, DpAll K H0 xs ds → (∀ p ∈ L, Dp K H0 p.1 p.2) → ∀ p ∈ xs.zip ds ++ L, Dp K H0 p.1 p.2 := fun {H0 xs} ha hl p hp => by
    rcases List.mem_append.mp hp with hp | hp
    · obtain ⟨i, hi, e⟩ := List.mem_iff_getElem.mp hp
      have e2 : (xs.zip ds)[i]? = some p := by rw [List.getElem?_eq_getElem hi, e]
      rw [List.getElem?_zip_eq_some] at e2
      obtain ⟨w, h1, h2⟩ := da_get ha e2.2
      rw [e2.1] at h1
      cases h1
      exact h2
    · exact hl p hp
  rcases h with h | ⟨a, es, rfl, e, h⟩
  · obtain ⟨H0, e, hl, hc⟩ := W.ok
    rcases h with h | h
    · obtain ⟨a, xs, rfl, h1, h2⟩ := dp_lst (hl _ h)
      exact ⟨a, xs, rfl, e.l h1, da_len h2, ⟨H0, e, key h2 hl, hc⟩, W.nd⟩
    · cases h
  · cases e
    obtain ⟨H0, e, hl, hc⟩ := W.ok
    obtain ⟨_, xs, h1, h2⟩ := hc _ h
    exact ⟨a, xs, rfl, .inl (.inl h1), da_len h2, ⟨H0, e, key h2 hl, hc⟩, W.nd⟩
theorem Wd.itemsT (W : Wd K H L cs) (h : Has L v (.tuple ds)) : ∃ a xs, v = .ref a ∧ SqT K H a xs ∧ xs.length = ds.length ∧ Wd K H (xs.zip ds ++ L) cs := by
  obtain ⟨H0, e, hl, hc⟩ := W.ok
  rcases h with h | h
  · obtain ⟨a, xs, rfl, h1, h2⟩ := dp_tup (hl _ h)
    refine ⟨a, xs, rfl, e.t h1, da_len h2, ⟨H0, e, fun p hp => ?_, hc⟩, W.nd⟩
    rcases List.mem_append.mp hp with hp | hp
    · obtain ⟨i, hi, e⟩ := List.mem_iff_getElem.mp hp
      have e2 : (xs.zip ds)[i]? = some p := by rw [List.getElem?_eq_getElem hi, e]
      rw [List.getElem?_zip_eq_some] at e2
      obtain ⟨w, h3, h4⟩ := da_get h2 e2.2
      rw [e2.1] at h3
      cases h3
      exact h4
    · exact hl p hp
  · cases h
theorem Wd.sub (W : Wd K H L cs) (h : ∀ p ∈ L', p ∈ L) : Wd K H L' cs := by
  obtain ⟨H0, e, hl, hc⟩ := W.ok
  exact ⟨⟨H0, e, fun p hp => hl p (h p hp), hc⟩, W.nd⟩
theorem Wd.drop (W : Wd K H L cs) (h : cs'.Sublist cs) : Wd K H L cs' := by
  obtain ⟨H0, e, hl, hc⟩ := W.ok
  exact ⟨⟨H0, e, hl, fun c m => hc c (h.subset m)⟩, W.nd.sublist (h.map _)⟩
theorem Wd.drop1 (W : Wd K H L ((a, c) :: cs)) : Wd K H L cs := W.drop (List.sublist_cons_self _ _)
theorem Wd.perm (W : Wd K H L cs) (h : cs.Perm cs') : Wd K H L cs' := by
  obtain ⟨H0, e, hl, hc⟩ := W.ok
  exact ⟨⟨H0, e, hl, fun c m => hc c (h.mem_iff.mpr m)⟩, (h.map (·.1)).nodup_iff.mp W.nd⟩
theorem Wd.swap {b : Addr} {c' : CO} (W : Wd K H L ((a, c) :: (b, c') :: cs)) : Wd K H L ((b, c') :: (a, c) :: cs) := W.perm (List.Perm.swap _ _ _)
theorem Wd.ex (W : Wd K H L cs) (e : Ex H H') : Wd K H' L cs := by
  obtain ⟨H0, e0, hl, hc⟩ := W.ok
  exact ⟨⟨H0, e0.tr e, hl, fun c m => ⟨(hc c m).1, (hc c m).2.mono Ex.rf fun o q => e _ o q⟩⟩, W.nd⟩
theorem Wd.at (W : Wd K H L cs) (m : (a, CO.raw o) ∈ cs) : H a = some o := by
  obtain ⟨H0, e0, hl, hc⟩ := W.ok
  exact (hc _ m).2
theorem Wd.c0 (W : Wd K H L ((a, .raw o) :: cs)) : H a = some o := W.at List.mem_cons_self
/-- a data list's values -/
theorem Wd.vals (W : Wd K H L ((a, .dl ds) :: cs)) : ∃ xs, H a = some (.lst xs) ∧ xs.length = ds.length ∧ Wd K H (xs.zip ds ++ L) ((a, .dl ds) :: cs) := by
  obtain ⟨H0, e0, hl, hc⟩ := W.ok
  obtain ⟨_, xs, h1, h2⟩ := hc _ List.mem_cons_self
  refine ⟨xs, h1, da_len h2, ⟨H0, e0, fun p hp => ?_, hc⟩, W.nd⟩
  rcases List.mem_append.mp hp with hp | hp
  · obtain ⟨i, hi, e⟩ := List.mem_iff_getElem.mp hp
    have e2 : (xs.zip ds)[i]? = some p := by rw [List.getElem?_eq_getElem hi, e]
    rw [List.getElem?_zip_eq_some] at e2
    obtain ⟨w, h3, h4⟩ := da_get h2 e2.2
    rw [e2.1] at h3
    cases h3
    exact h4
  · exact hl p hp
theorem nd_out (W : Wd K H L ((a, c) :: cs)) : ∀ c' ∈ cs, c'.1 ≠ a := fun c' m e => by
  have h := (List.nodup_cons.mp W.nd).1
  exact h (List.mem_map.mpr ⟨c', m, e⟩)
/-- the first cell changes: the object by its new values -/
theorem Wd.put {o' : HO} {c' : CO} (W : Wd K H L ((a, c) :: cs)) (h : ∀ H0, Ex H0 H → (∀ p ∈ L, Dp K H0 p.1 p.2) → COk K H0 H a c → COk K H0 (upd H a o') a c') : Wd K (upd H a o') L ((a, c') :: cs) := by
  obtain ⟨H0, e0, hl, hc⟩ := W.ok
  have n0 := (hc _ List.mem_cons_self).1
  refine ⟨⟨H0, e0.mut n0, hl, fun c2 m => ?_⟩, W.nd⟩
  rcases List.mem_cons.mp m with rfl | m'
  · exact ⟨n0, h H0 e0 hl (hc _ List.mem_cons_self).2⟩
  · refine ⟨(hc c2 (List.mem_cons_of_mem _ m')).1, (hc c2 (List.mem_cons_of_mem _ m')).2.mono Ex.rf fun o q => ?_⟩
    rw [upd_ne (nd_out W c2 m')]
    exact q
theorem Wd.putR {o' : HO} (W : Wd K H L ((a, c) :: cs)) : Wd K (upd H a o') L ((a, .raw o') :: cs) := W.put fun _ _ _ _ => upd_same
/-- a new object -/
theorem Wd.newR (W : Wd K H L cs) (h : H p = none) : Wd K (upd H p o) L ((p, .raw o) :: cs) := by
  obtain ⟨H0, e0, hl, hc⟩ := W.ok
  refine ⟨⟨H0, e0.tr (Ex.new h), hl, fun c2 m => ?_⟩, ?_⟩
  · rcases List.mem_cons.mp m with rfl | m'
    · exact ⟨e0.back h, upd_same⟩
    · exact ⟨(hc c2 m').1, (hc c2 m').2.mono Ex.rf fun o q => Ex.new h _ _ q⟩
  · refine List.nodup_cons.mpr ⟨fun m => ?_, W.nd⟩
    obtain ⟨c2, m', e⟩ := List.mem_map.mp m
    obtain ⟨o2, q⟩ := (hc c2 m').2.some
    have e : c2.1 = p := e
    rw [e, h] at q
    cases q
theorem has_dp {H0 : Hp} (hl : ∀ p ∈ L, Dp K H0 p.1 p.2) (h : Has L v d) : Dp K H0 v d := h.elim (fun h => hl _ h) fun h => dp_sc h
theorem hasA_dp {H0 : Hp} (hl : ∀ p ∈ L, Dp K H0 p.1 p.2) : ∀ {vs : List V} {ds : List PyData}, HasA L vs ds → DpAll K H0 vs ds
  | _, _, .nil => .nil
  | _, _, .cons h t => .cons (has_dp hl h) (hasA_dp hl t)
/-- a new list of data -/
theorem Wd.newL {xs : List V} (W : Wd K H L cs) (h : H p = none) (ha : HasA L xs ds) : Wd K (upd H p (.lst xs)) L ((p, .dl ds) :: cs) := by
  obtain ⟨H0, e0, hl, hc⟩ := W.ok
  refine ⟨⟨H0, e0.tr (Ex.new h), hl, fun c2 m => ?_⟩, ?_⟩
  · rcases List.mem_cons.mp m with rfl | m'
    · exact ⟨e0.back h, xs, upd_same, hasA_dp hl ha⟩
    · exact ⟨(hc c2 m').1, (hc c2 m').2.mono Ex.rf fun o q => Ex.new h _ _ q⟩
  · refine List.nodup_cons.mpr ⟨fun m => ?_, W.nd⟩
    obtain ⟨c2, m', e⟩ := List.mem_map.mp m
    obtain ⟨o2, q⟩ := (hc c2 m').2.some
    have e : c2.1 = p := e
    rw [e, h] at q
    cases q
/-- a new tuple of data -/
theorem Wd.newT {xs : List V} (W : Wd K H L cs) (h : H p = none) (ha : HasA L xs ds) : Wd K (upd H p (.tup xs)) ((.ref p, .tuple ds) :: L) cs := by
  obtain ⟨H0, e0, hl, hc⟩ := W.ok
  have h0 := e0.back h
  refine ⟨⟨upd H0 p (.tup xs), fun b u q => ?_, fun q m => ?_, fun c2 m => ?_⟩, W.nd⟩
  · by_cases hb : b = p
    · subst hb
      rw [upd_same] at q ⊢
      exact q
    · rw [upd_ne hb] at q ⊢
      exact e0 _ _ q
  · rcases List.mem_cons.mp m with rfl | m'
    · exact .tup (.inl (.inl upd_same)) (dpAll_ex (Ex.new h0) _ _ (hasA_dp hl ha))
    · exact dp_ex (Ex.new h0) _ _ (hl _ m')
  · obtain ⟨o2, q⟩ := (hc c2 m).2.some
    have hne : c2.1 ≠ p := fun e => by rw [e, h] at q; cases q
    exact ⟨by rw [upd_ne hne]; exact (hc c2 m).1, (hc c2 m).2.mono (Ex.new h0) fun o q => Ex.new h _ _ q⟩
/-- a list that changes no more -/
theorem Wd.frz (W : Wd K H L ((a, .dl ds) :: cs)) : Wd K H ((.ref a, .list ds) :: L) cs := by
  obtain ⟨H0, e0, hl, hc⟩ := W.ok
  obtain ⟨n0, xs, h1, h2⟩ := hc _ List.mem_cons_self
  refine ⟨⟨upd H0 a (.lst xs), fun b u q => ?_, fun q m => ?_, fun c2 m => ?_⟩, (List.nodup_cons.mp W.nd).2⟩
  · by_cases hb : b = a
    · subst hb
      rw [upd_same] at q
      rw [h1]
      exact q
    · rw [upd_ne hb] at q
      exact e0 _ _ q
  · rcases List.mem_cons.mp m with rfl | m'
    · exact .lst (.inl (.inl upd_same)) (dpAll_ex (Ex.new n0) _ _ h2)
    · exact dp_ex (Ex.new n0) _ _ (hl _ m')
  · have m2 := List.mem_cons_of_mem (a, CO.dl ds) m
    exact ⟨by rw [upd_ne (nd_out W c2 m)]; exact (hc c2 m2).1, (hc c2 m2).2.mono (Ex.new n0) fun o q => q⟩
/-- a tuple object that stands as a cell becomes data -/
theorem Wd.frzT {xs : List V} (W : Wd K H L ((a, .raw (.tup xs)) :: cs)) (ha : HasA L xs ds) : Wd K H ((.ref a, .tuple ds) :: L) cs := by
  obtain ⟨H0, e0, hl, hc⟩ := W.ok
  obtain ⟨n0, h1⟩ := hc _ List.mem_cons_self
  have h1 : H a = some (.tup xs) := h1
  refine ⟨⟨upd H0 a (.tup xs), fun b u q => ?_, fun q m => ?_, fun c2 m => ?_⟩, (List.nodup_cons.mp W.nd).2⟩
  · by_cases hb : b = a
    · subst hb
      rw [upd_same] at q
      rw [h1]
      exact q
    · rw [upd_ne hb] at q
      exact e0 _ _ q
  · rcases List.mem_cons.mp m with rfl | m'
    · exact .tup (.inl (.inl upd_same)) (dpAll_ex (Ex.new n0) _ _ (hasA_dp hl ha))
    · exact dp_ex (Ex.new n0) _ _ (hl _ m')
  · have m2 := List.mem_cons_of_mem (a, CO.raw (.tup xs)) m
    exact ⟨by rw [upd_ne (nd_out W c2 m)]; exact (hc c2 m2).1, (hc c2 m2).2.mono (Ex.new n0) fun o q => q⟩
/-- known things put into L -/
theorem Wd.add (W : Wd K H L cs) (h : Has L v d) : Wd K H ((v, d) :: L) cs := by
  obtain ⟨H0, e, hl, hc⟩ := W.ok
  refine ⟨⟨H0, e, fun p hp => ?_, hc⟩, W.nd⟩
  rcases List.mem_cons.mp hp with rfl | hp
  · exact has_dp hl h
  · exact hl _ hp
theorem Wd.i (W : Wd K H ((v, .int n) :: L) cs) : v = .int n := sc_dp rfl (W.now (.inl List.mem_cons_self))
theorem Wd.s {z : Str} (W : Wd K H ((v, .str z) :: L) cs) : v = .str z := sc_dp rfl (W.now (.inl List.mem_cons_self))
theorem Wd.b {z : Bool} (W : Wd K H ((v, .bool z) :: L) cs) : v = .bl z := sc_dp rfl (W.now (.inl List.mem_cons_self))
theorem Wd.n (W : Wd K H ((v, .none) :: L) cs) : v = .non := sc_dp rfl (W.now (.inl List.mem_cons_self))
theorem Wd.tl {q : V × PyData} (W : Wd K H (q :: L) cs) : Wd K H L cs := W.sub fun p hp => List.mem_cons_of_mem _ hp
end
end Wb

/-! Wb2: readings of single operations by data. -/
namespace Wb
open PySem L2
theorem Has.int {L : Lk} {n : Int} : Has L (.int n) (.int n) := .inr rfl
theorem Has.str {L : Lk} {n : Str} : Has L (.str n) (.str n) := .inr rfl
theorem Has.bl {L : Lk} {n : Bool} : Has L (.bl n) (.bool n) := .inr rfl
theorem Has.non {L : Lk} : Has L .non .none := .inr rfl
theorem Has.hd {L : Lk} {v : V} {d : PyData} : Has ((v, d) :: L) v d := .inl List.mem_cons_self
theorem Has.tl {L : Lk} {q : V × PyData} {v : V} {d : PyData} (h : Has L v d) : Has (q :: L) v d := h.elim (fun h => .inl (List.mem_cons_of_mem _ h)) .inr
theorem Has.mono {L L' : Lk} {v : V} {d : PyData} (s : ∀ p ∈ L, p ∈ L') (h : Has L v d) : Has L' v d := h.elim (fun h => .inl (s _ h)) .inr
theorem HasA.mono {L L' : Lk} (s : ∀ p ∈ L, p ∈ L') : ∀ {vs : List V} {ds : List PyData}, HasA L vs ds → HasA L' vs ds
  | _, _, .nil => .nil
  | _, _, .cons h t => .cons (h.mono s) (HasA.mono s t)
theorem HasA.len {L : Lk} : ∀ {vs : List V} {ds : List PyData}, HasA L vs ds → vs.length = ds.length
  | _, _, .nil => rfl
  | _, _, .cons _ t => by simp [HasA.len t]
theorem HasA.app {L : Lk} : ∀ {vs ws : List V} {ds es : List PyData}, HasA L vs ds → HasA L ws es → HasA L (vs ++ ws) (ds ++ es)
  | _, _, _, _, .nil, s => s
  | _, _, _, _, .cons r t, s => .cons r (HasA.app t s)
theorem hasA_zip {L : Lk} : ∀ {vs : List V} {ds : List PyData}, vs.length = ds.length → (∀ p ∈ vs.zip ds, p ∈ L) → HasA L vs ds
  | [], [], _, _ => .nil
  | [], _ :: _, h, _ => by simp at h
  | _ :: _, [], h, _ => by simp at h
  | v :: vs, d :: ds, h, m => .cons (.inl (m _ (by simp))) (hasA_zip (by simpa using h) fun p hp => m p (by simp [hp]))
theorem Rdb.of {L : Lk} {cs : Cs} {v : V} {d : PyData} (h : Has L v d) : Rdb L cs v d := .inl h
theorem Rdb.cell {L : Lk} {cs : Cs} {a : Addr} {ds : List PyData} (h : (a, CO.dl ds) ∈ cs) : Rdb L cs (.ref a) (.list ds) := .inr ⟨a, ds, rfl, rfl, h⟩
theorem Rdb.c0 {L : Lk} {cs : Cs} {a : Addr} {ds : List PyData} : Rdb L ((a, CO.dl ds) :: cs) (.ref a) (.list ds) := .cell List.mem_cons_self
theorem Rdb.mono {L L' : Lk} {cs cs' : Cs} {v : V} {d : PyData} (s : ∀ p ∈ L, p ∈ L') (t : ∀ p ∈ cs, p ∈ cs') (h : Rdb L cs v d) : Rdb L' cs' v d :=
  h.elim (fun h => .inl (h.mono s)) fun ⟨a, ds, e1, e2, h⟩ => .inr ⟨a, ds, e1, e2, t _ h⟩
theorem Rdb.tl {L : Lk} {cs : Cs} {v : V} {d : PyData} {q : V × PyData} (h : Rdb L cs v d) : Rdb (q :: L) cs v d := h.mono (fun _ m => List.mem_cons_of_mem _ m) fun _ m => m
theorem Rdb.ct {L : Lk} {cs : Cs} {v : V} {d : PyData} {q : Addr × CO} (h : Rdb L cs v d) : Rdb L (q :: cs) v d := h.mono (fun _ m => m) fun _ m => List.mem_cons_of_mem _ m
theorem Rdb.ref {L : Lk} {cs : Cs} {v : V} {ds : List PyData} {K : PySem.W.Frag} {H : Hp} (W : Wd K H L cs) (h : Rdb L cs v (.list ds)) : ∃ a, v = .ref a := by
  obtain ⟨a, _, e, _⟩ := dp_lst (W.rd h)
  exact ⟨a, e⟩

theorem atI_nat' {α : Type} {xs : List α} {i : Int} {v : α} (h0 : 0 ≤ i) (h : xs[i.toNat]? = some v) : atI xs i = some v := by
  have e : i = (i.toNat : Int) := by omega
  rw [e]
  exact atI_nat h
theorem atI_mem {α : Type} {xs : List α} {i : Int} (h0 : 0 ≤ i) (h1 : i < xs.length) : ∃ v, atI xs i = some v ∧ v ∈ xs := by
  have h : i.toNat < xs.length := by omega
  exact ⟨xs[i.toNat], atI_nat' h0 (List.getElem?_eq_getElem h), List.getElem_mem h⟩

section
variable {K : PySem.W.Frag} {H H' : Hp} {L L' : Lk} {cs cs' : Cs} {a p : Addr} {v x : V} {d : PyData} {ds es : List PyData} {vs : List V} {o : HO} {c : CO} {Q : VK} {i : Int}
/-- t[i], l[i] -/
theorem w_ixT (W : Wd K H L cs) (h : Has L x (.tuple ds)) (hi : atI ds i = some d) (k : ∀ v, Wd K H ((v, d) :: L) cs → Q v H) : rIxT K x (.int i) H Q := by
  obtain ⟨H0, e, hl, hc⟩ := W.ok
  obtain ⟨a, xs, rfl, h1, h2⟩ := dp_tup (has_dp hl h)
  obtain ⟨v, h3, h4⟩ := atI_da h2 hi
  refine ⟨a, xs, i, v, rfl, rfl, e.t h1, h3, k v ⟨⟨H0, e, fun p hp => ?_, hc⟩, W.nd⟩⟩
  rcases List.mem_cons.mp hp with rfl | hp
  · exact h4
  · exact hl p hp
theorem w_ixL (W : Wd K H L cs) (h : Rdb L cs x (.list ds)) (hi : atI ds i = some d) (k : ∀ v, Wd K H ((v, d) :: L) cs → Q v H) : rIxL K x (.int i) H Q := by
  obtain ⟨H0, e, hl, hc⟩ := W.ok
  rcases h with h | ⟨a, es, rfl, e1, h⟩
  · obtain ⟨a, xs, rfl, h1, h2⟩ := dp_lst (has_dp hl h)
    obtain ⟨v, h3, h4⟩ := atI_da h2 hi
    refine ⟨a, xs, i, v, rfl, rfl, e.l h1, h3, k v ⟨⟨H0, e, fun p hp => ?_, hc⟩, W.nd⟩⟩
    rcases List.mem_cons.mp hp with rfl | hp
    · exact h4
    · exact hl p hp
  · cases e1
    obtain ⟨_, xs, h1, h2⟩ := hc _ h
    obtain ⟨v, h3, h4⟩ := atI_da h2 hi
    refine ⟨a, xs, i, v, rfl, rfl, .inl (.inl h1), h3, k v ⟨⟨H0, e, fun p hp => ?_, hc⟩, W.nd⟩⟩
    rcases List.mem_cons.mp hp with rfl | hp
    · exact h4
    · exact hl p hp
theorem w_ixTi {n : Int} (W : Wd K H L cs) (h : Has L x (.tuple ds)) (hi : atI ds i = some (.int n)) (k : Q (.int n) H) : rIxT K x (.int i) H Q := w_ixT W h hi fun v W => by rw [W.i]; exact k
theorem w_ixTs {n : Str} (W : Wd K H L cs) (h : Has L x (.tuple ds)) (hi : atI ds i = some (.str n)) (k : Q (.str n) H) : rIxT K x (.int i) H Q := w_ixT W h hi fun v W => by rw [W.s]; exact k
theorem w_ixLi {n : Int} (W : Wd K H L cs) (h : Rdb L cs x (.list ds)) (hi : atI ds i = some (.int n)) (k : Q (.int n) H) : rIxL K x (.int i) H Q := w_ixL W h hi fun v W => by rw [W.i]; exact k
theorem w_ixLs {n : Str} (W : Wd K H L cs) (h : Rdb L cs x (.list ds)) (hi : atI ds i = some (.str n)) (k : Q (.str n) H) : rIxL K x (.int i) H Q := w_ixL W h hi fun v W => by rw [W.s]; exact k
/-- a written tuple, a written list -/
theorem w_tup (W : Wd K H L cs) (ha : HasA L vs ds) (hz : vs.length ≤ 1000) (k : ∀ p H', Wd K H' ((.ref p, .tuple ds) :: L) cs → Q (.ref p) H') : vs.length ≤ sizeLine ∧ ∀ p, H p = none → Q (.ref p) (upd H p (.tup vs)) :=
  ⟨Nat.le_trans hz (by decide), fun p hp => k p _ (W.newT hp ha)⟩
theorem w_lst (W : Wd K H L cs) (ha : HasA L vs ds) (hz : vs.length ≤ 1000) (k : ∀ p H', Wd K H' L ((p, .dl ds) :: cs) → Q (.ref p) H') : vs.length ≤ sizeLine ∧ ∀ p, H p = none → Q (.ref p) (upd H p (.lst vs)) :=
  ⟨Nat.le_trans hz (by decide), fun p hp => k p _ (W.newL hp ha)⟩
/-- l[i] = v -/
theorem w_setL {j : Nat} {R : Hp → Prop} (W : Wd K H L ((a, .dl ds) :: cs)) (h : Has L v d) (hj : ixN ds.length i = some j) (k : ∀ H', Wd K H' L ((a, .dl (ds.set j d)) :: cs) → R H') : rSetL (.ref a) (.int i) v H R := by
  obtain ⟨H0, e0, hl, hc⟩ := id W.ok
  obtain ⟨_, xs, h1, h2⟩ := hc _ List.mem_cons_self
  refine ⟨a, xs, i, j, rfl, rfl, h1, by rw [da_len h2]; exact hj, k _ (W.put fun H1 e1 hl1 hk => ?_)⟩
  obtain ⟨ys, h3, h4⟩ := hk
  rw [h1] at h3
  cases h3
  exact ⟨_, upd_same, da_set j h4 (has_dp hl1 h)⟩
/-- l.append(v) -/
theorem w_app (W : Wd K H L ((a, .dl ds) :: cs)) (h : Has L v d) (hz : ds.length < 100000) (k : ∀ H', Wd K H' L ((a, .dl (ds ++ [d])) :: cs) → Q .non H') : rAppend (.ref a) [v] H Q := by
  obtain ⟨H0, e0, hl, hc⟩ := id W.ok
  obtain ⟨_, xs, h1, h2⟩ := hc _ List.mem_cons_self
  refine ⟨a, xs, v, rfl, rfl, h1, Nat.lt_of_lt_of_le (by rw [da_len h2]; exact hz) (by decide), k _ (W.put fun H1 e1 hl1 hk => ?_)⟩
  obtain ⟨ys, h3, h4⟩ := hk
  rw [h1] at h3
  cases h3
  exact ⟨_, upd_same, da_app h4 (da_one (has_dp hl1 h))⟩
theorem tyv_cell (W : Wd K H L cs) (m : (a, CO.dl ds) ∈ cs) : tyV K "list" (.ref a) H := by
  obtain ⟨H0, e0, hl, hc⟩ := W.ok
  obtain ⟨_, xs, h1, _⟩ := hc _ m
  exact .inl ⟨rfl, xs, SqL.of h1⟩
theorem tyv_c0 (W : Wd K H L ((a, CO.dl ds) :: cs)) : tyV K "list" (.ref a) H := tyv_cell W List.mem_cons_self
/-- l.pop(i) -/
theorem w_popAt (W : Wd K H L ((a, .dl ds) :: cs)) (h0 : 0 ≤ i) (hj : ds[i.toNat]? = some d) (hb : i < 2 ^ 62) (k : ∀ v H', Wd K H' ((v, d) :: L) ((a, .dl (ds.eraseIdx i.toNat)) :: cs) → Q v H') : rPopAt (.ref a) [.int i] H Q := by
  obtain ⟨H0, e0, hl, hc⟩ := id W.ok
  obtain ⟨n0, xs, h1, h2⟩ := hc _ List.mem_cons_self
  obtain ⟨v, h3, h4⟩ := da_get h2 hj
  have hlt : i.toNat < xs.length := (List.getElem?_eq_some_iff.mp h3).1
  refine ⟨a, xs, i, i.toNat, v, rfl, rfl, h1, by omega, by omega, ?_, h3, ?_⟩
  · unfold seqIndex?
    simp only []
    rw [if_neg (by omega : ¬ i < 0), if_pos (by simp only [Bool.and_eq_true, decide_eq_true_eq]; omega)]
  · have W2 : Wd K H ((v, d) :: L) ((a, .dl ds) :: cs) := ⟨⟨H0, e0, fun p hp => by
      rcases List.mem_cons.mp hp with rfl | hp
      · exact h4
      · exact hl p hp, hc⟩, W.nd⟩
    refine k v _ (W2.put fun H1 e1 hl1 hk => ?_)
    obtain ⟨ys, h5, h6⟩ := hk
    rw [h1] at h5
    cases h5
    exact ⟨_, upd_same, da_erase _ h6⟩
/-- len -/
theorem w_lenL (W : Wd K H L cs) (h : Rdb L cs x (.list ds)) (k : Q (.int (ds.length : Nat)) H) : ∃ p ys, [x] = [V.ref p] ∧ (SqL K H p ys ∨ SqT K H p ys) ∧ Q (.int ys.length) H := by
  obtain ⟨a, xs, rfl, h1, h2⟩ := dp_lst (W.rd h)
  exact ⟨a, xs, rfl, .inl h1, by rw [da_len h2]; exact k⟩
theorem w_lenT (W : Wd K H L cs) (h : Has L x (.tuple ds)) (k : Q (.int (ds.length : Nat)) H) : ∃ p ys, [x] = [V.ref p] ∧ (SqL K H p ys ∨ SqT K H p ys) ∧ Q (.int ys.length) H := by
  obtain ⟨a, xs, rfl, h1, h2⟩ := dp_tup (W.now h)
  exact ⟨a, xs, rfl, .inr h1, by rw [da_len h2]; exact k⟩
end

end Wb

/-! Wr: rules that the layer lacks. -/
namespace Wb
open PySem L2 PySem.Spec PyProof.Rows

theorem hu64 {A : Around} {k : Nat} (hr : Room k A) : A.units + 64 < cLine := by have := hr.un; omega
theorem hu65 {A : Around} {k : Nat} (hr : Room k A) : A.units + 65 < cLine := by have := hr.un; omega
theorem hu70 {A : Around} {k : Nat} (hr : Room k A) : A.units + 70 < cLine := by have := hr.un; omega

section
variable {X : Cx}
/-- list + list -/
def rCatD (K : PySem.W.Frag) : R2 := fun x y H Q => ∃ l b xs zs, x = .ref l ∧ y = .ref b ∧ SqL K H l xs ∧ SqL K H b zs ∧ xs.length + zs.length ≤ sizeLine ∧ ∀ p, H p = none → Q (.ref p) (upd H p (.lst (xs ++ zs)))
theorem op_catD : OpR X (binaryOp .Add) (rCatD X.K) := by
  intro pins s σ H x y v u Q I rx ry h
  obtain ⟨l, b, xs, zs, rfl, rfl, hH, hB, hz, q⟩ := h
  cases rx
  cases ry
  obtain ⟨its, r, p1, _⟩ := I.list hH
  obtain ⟨its2, r2, p2, _⟩ := I.list hB
  obtain ⟨⟨cls, dd, data, sl⟩, ho, hc, n, hd⟩ := p1.isList
  obtain ⟨⟨cls2, dd2, data2, sl2⟩, ho2, hc2, n2, hd2⟩ := p2.isList
  simp only at hc hd hc2 hd2
  subst hc hd hc2 hd2
  have e : its.toArray ++ its2.toArray = (its ++ its2).toArray := by simp
  have l1 := r.length
  have l2 := r2.length
  refine concat_meets ⟨_, ho, rfl⟩ ⟨_, ho2, rfl⟩ noFill_list_add seq_list_add PySem.F.slot_list_add PySem.F.entry_list_add (PySem.F.args_list_add_2 _ _) (list_addW l b its.toArray its2.toArray n n2 dd dd2 sl sl2 (by simp; omega)) ⟨ho, ho2, ?_⟩
  rw [e]
  exact ⟨.ref _, _, I.lnew (t' := s.toks) (r.append r2) (by rw [List.length_append]; omega), rfl, q _ I.fresh⟩
/-- text * int, 0 or 1 times -/
def strRep (x : Str) (n : Int) : Str := if n < 1 then Str.empty else x
def rMulS : R2 := fun x y H Q => ∃ z n, x = .str z ∧ y = .int n ∧ (n = 0 ∨ n = 1) ∧ Q (.str (strRep z n)) H
theorem op_mul_str : OpR X (binaryOp .Mult) rMulS := by
  intro pins s σ H x y v u Q I rx ry h
  obtain ⟨z, n, rfl, rfl, hn, q⟩ := h
  obtain ⟨t, rfl⟩ := rx
  obtain ⟨t2, rfl⟩ := ry
  rcases hn with rfl | rfl
  · refine PySem.P.mul_str (by rfl) (fun h1 _ => absurd (by decide) h1) (fun h1 _ => absurd (by decide) h1) ?_
    exact ⟨by decide, ⟨.str _, H, I.tok _, ⟨_, rfl⟩, q⟩⟩
  · refine PySem.P.mul_str (by rfl) (fun _ h2 => ?_) (fun _ h2 => ?_) ?_
    · have h3 : ((1 : Int) == 1 || z.length == 0) = true := by simp
      rw [h3] at h2
      cases h2
    · have h3 : ((1 : Int) == 1 || z.length == 0) = true := by simp
      rw [h3] at h2
      cases h2
    · rw [if_neg (by decide), if_pos (by simp)]
      exact ⟨.str _, H, I, ⟨_, rfl⟩, q⟩
/-- sorted(list of data), P: what is known of its values and goes with them -/
def rSortedD (K : PySem.W.Frag) : List V → Hp → VK → Prop := fun vs H Q => ∃ (P : V → PyData → Prop) (a : Addr) (xs : List V) (ds : List PyData), vs = [.ref a] ∧ SqL K H a xs ∧ Paired P xs ds ∧ (∀ v d, P v d → Dp K H v d) ∧
  PySem.W.AllAlike ds ∧ PySem.W.Sortable ds ∧ (∀ d ∈ ds, d.depth ≤ 60) ∧ ∀ (ys : List V) (p : Addr), Paired P ys (ds.mergeSort (PySem.W.dataLe false id)) → H p = none → Q (.ref p) (upd H p (.lst ys))
theorem paired_each {α β : Type} {R : α → β → Prop} : ∀ {xs : List α} {ys : List β}, Paired R xs ys → PySem.W.EachIs R xs ys
  | _, _, .nil => .nil
  | _, _, .cons h t => .cons h (paired_each t)
theorem each_split {K : PySem.W.Frag} {P : V → PyData → Prop} : ∀ {us : List Value} {ds : List PyData}, PySem.W.EachIs (fun u d => ∃ v, RelV v u ∧ P v d) us ds → ∃ ys : List V, Vals ys us ∧ Paired P ys ds
  | _, _, .nil => ⟨[], .nil, .nil⟩
  | _, _, .cons ⟨v, r, p⟩ t => by
    obtain ⟨ys, h1, h2⟩ := each_split (K := K) t
    exact ⟨v :: ys, .cons r h1, .cons p h2⟩
theorem pair_vals {P : V → PyData → Prop} : ∀ {xs : List V} {us : List Value} {ds : List PyData}, Vals xs us → Paired P xs ds → PySem.W.EachIs (fun u d => ∃ v, RelV v u ∧ P v d) us ds
  | _, _, _, .nil, .nil => .nil
  | _, _, _, .cons r t, .cons p q => .cons ⟨_, r, p⟩ (pair_vals t q)
theorem each_mono {α β : Type} {R S : α → β → Prop} (h : ∀ a b, R a b → S a b) : ∀ {xs : List α} {ys : List β}, PySem.W.EachIs R xs ys → PySem.W.EachIs S xs ys
  | _, _, .nil => .nil
  | _, _, .cons r t => .cons (h _ _ r) (each_mono h t)
theorem Paired.len {α β : Type} {R : α → β → Prop} : ∀ {xs : List α} {ys : List β}, Paired R xs ys → xs.length = ys.length
  | _, _, .nil => rfl
  | _, _, .cons _ t => by simp [Paired.len t]
theorem cr_sortedD {k : Nat} (hr : Room k X.A) : CallR X (.builtin "sorted") (rSortedD X.K) := by
  intro pins s σ H vs us Q I r h
  obtain ⟨P, a, xs, ds, rfl, hs, hp, hP, hal, hso, hd, q⟩ := h
  obtain ⟨its, rv, hl, hz⟩ := I.list hs
  rw [Vals.ref1 r]
  have e := pair_vals rv hp
  have er : PySem.W.EachIs (fun v b => ∃ as, Reads s.heap v (id b) as) its ds := each_mono (fun u d ⟨v, r1, p1⟩ => Dp.reads I d v u (hP _ _ p1) r1) e
  have hlen : ds.length = xs.length := (Paired.len hp).symm
  refine PySem.W.sorted_data (enc := id) hl.isList e er (by rw [List.map_id]; exact hal) (by rw [List.map_id]; exact hso) (by rw [hlen]; exact hz) (fun b hb => by have := hd b hb; have := hr.un; show X.A.units + 2 + b.depth < cLine; omega) fun out ho eo => ?_
  obtain ⟨ys, h1, h2⟩ := each_split (K := X.K) eo
  obtain ⟨ep, he'⟩ := PyProof.Rows.sortedAll_at s.heap its out.toArray
  have hl2 : ys.length ≤ sizeLine := by rw [h1.length, ho, hlen]; exact hz
  exact ⟨.ref _, upd H (s.heap.objs.size + 1) (.lst ys), I.laid (t' := s.toks) (fun _ _ => PyProof.Rows.sortedAll_old) (Nat.le_succ _) ⟨hl2, out, ep, h1, he'⟩, rfl, q ys _ h2 (I.hok.fresh (Nat.le_succ _))⟩
/-- max(.., default=d), min(.., default=d) of data -/
def rMxD (m : PyData → List PyData → PyData) (K : PySem.W.Frag) : List V → List V → Hp → VK → Prop := fun vs zs H Q => ∃ (a : Addr) (xs : List V) (ds : List PyData) (d : V), vs = [.ref a] ∧ zs = [d] ∧ SqL K H a xs ∧ DpAll K H xs ds ∧ PySem.W.AlikeAll ds ∧ PyData.depthAll ds ≤ 60 ∧
  (ds = [] → Q d H) ∧ ∀ (y : PyData) (ys : List PyData) (i : Nat) (v : V), ds = y :: ys → xs[i]? = some v → ds[i]? = some (m y ys) → Q v H
theorem vals_at : ∀ {xs : List V} {us : List Value} {i : Nat} {u : Value}, Vals xs us → us[i]? = some u → ∃ x, xs[i]? = some x ∧ RelV x u
  | _, _, i, _, .nil, e => by simp at e
  | _, _, 0, _, .cons r _, e => by simp at e; subst e; exact ⟨_, rfl, r⟩
  | _, _, i + 1, u, .cons _ t, e => by
    obtain ⟨x, h1, h2⟩ := vals_at (i := i) (u := u) t (by simpa using e)
    exact ⟨x, by simpa using h1, h2⟩
theorem fold_mem {f : PyData → PyData → Bool} : ∀ (ys : List PyData) (x : PyData), ys.foldl (fun a y => if f a y = true then y else a) x ∈ x :: ys
  | [], x => List.mem_cons_self
  | y :: ys, x => by
    rw [List.foldl_cons]
    have h := fold_mem (f := f) ys (if f x y = true then y else x)
    rcases List.mem_cons.mp h with e | e
    · rw [e]
      split
      · exact List.mem_cons_of_mem _ List.mem_cons_self
      · exact List.mem_cons_self
    · exact List.mem_cons_of_mem _ (List.mem_cons_of_mem _ e)
theorem maxD_mem (x : PyData) (ys : List PyData) : PySem.W.maxD x ys ∈ x :: ys := fold_mem (f := fun a y => PySem.W.dataLt a y) ys x
theorem minD_mem (x : PyData) (ys : List PyData) : PySem.W.minD x ys ∈ x :: ys := fold_mem (f := fun a y => PySem.W.dataLt y a) ys x
theorem mx_at {h h' : Heap} {its : List Value} {ds : List PyData} {as bs : List Addr} {i : Nat} {v : Value} {m : PyData} (hra : ReadsAll h its ds as) (hv : its[i]? = some v) (hk : ∀ b o, h.get? b = some o → h'.get? b = some o) (hr : Reads h' v m bs)
    (hal : PySem.W.AlikeAll ds) (hm : m ∈ ds) : ds[i]? = some m := by
  obtain ⟨cs, r1, h1, h2, _⟩ := PySem.W.readsAll_at hra i v hv
  have e := PySem.W.alike_unique _ _ v cs bs (hal.1 _ h2 _ hm) (PySem.W.reads_keeps hk r1) hr
  rw [List.getElem?_eq_getElem h1]
  rw [show ds.getD i PyData.none = ds[i] from by simp [List.getD, h1]] at e
  rw [e]
theorem max_ok {k : Nat} (hr : Room k X.A) : CallRK X (.builtin "max") [Str.ofString "default"] (rMxD PySem.W.maxD X.K) := by
  intro pins s σ H vs zs us ws Q I r r2 h
  obtain ⟨a, xs, ds, d, rfl, rfl, hs, hp, hal, hdp, q0, q1⟩ := h
  obtain ⟨its, rv, hl, hz⟩ := I.list hs
  rw [Vals.ref1 r]
  obtain ⟨u, rfl, rd⟩ := vals1 r2
  obtain ⟨as, hra⟩ := Dp.readsAll I ds xs its hp rv
  refine PySem.W.max_list_default (xs := ds) (as := as) hr.hd hl.isList hra hal (by have := hr.un; omega) (fun e h' tk hk => ⟨d, H, I.kept (t' := tk) hk, rd, q0 e⟩) fun y ys i v h' tk bs e hv hrd hk => ?_
  have hv' : its[i]? = some v := by simpa using hv
  obtain ⟨x, hx, rx⟩ := vals_at rv hv'
  exact ⟨x, H, I.kept (t' := tk) hk, rx, q1 y ys i x e hx (mx_at hra hv' hk hrd hal (by rw [e]; exact maxD_mem y ys))⟩
theorem min_ok {k : Nat} (hr : Room k X.A) : CallRK X (.builtin "min") [Str.ofString "default"] (rMxD PySem.W.minD X.K) := by
  intro pins s σ H vs zs us ws Q I r r2 h
  obtain ⟨a, xs, ds, d, rfl, rfl, hs, hp, hal, hdp, q0, q1⟩ := h
  obtain ⟨its, rv, hl, hz⟩ := I.list hs
  rw [Vals.ref1 r]
  obtain ⟨u, rfl, rd⟩ := vals1 r2
  obtain ⟨as, hra⟩ := Dp.readsAll I ds xs its hp rv
  refine PySem.W.min_list_default (xs := ds) (as := as) hr.hd hl.isList hra hal (by have := hr.un; omega) (fun e h' tk hk => ⟨d, H, I.kept (t' := tk) hk, rd, q0 e⟩) fun y ys i v h' tk bs e hv hrd hk => ?_
  have hv' : its[i]? = some v := by simpa using hv
  obtain ⟨x, hx, rx⟩ := vals_at rv hv'
  exact ⟨x, H, I.kept (t' := tk) hk, rx, q1 y ys i x e hx (mx_at hra hv' hk hrd hal (by rw [e]; exact minD_mem y ys))⟩
theorem alikeAll_ints (ns : List Int) : PySem.W.AlikeAll (ns.map PyData.int) := by
  refine ⟨fun x hx y hy => ?_, fun x hx => ?_⟩
  · obtain ⟨i, _, rfl⟩ := List.mem_map.mp hx
    obtain ⟨j, _, rfl⟩ := List.mem_map.mp hy
    simp [PySem.W.alike]
  · obtain ⟨i, _, rfl⟩ := List.mem_map.mp hx
    intro z
    cases z

/-! ### an own method behind len, ==, != -/
theorem own_run {n : Nat} {A : Around} {CX : CXT} {f : Addr} {fd : FuncData} {ps : List Str} {sp : Sp} {E : XK} (F : FnOk X.prog X.w X.K X.mg X.base CX n f fd ps sp) (hb : Binds X.K fd ps []) (hx : Passes CX X E) (sb : Sub X n A)
    {pins : List (Addr × Obj)} {s : Shared} {σ : L2.St} {H : Hp} {vs : List V} {us : List Value} {Q : VK} (I : Inv X pins σ H s) (r : Vals vs us) (hsp : sp vs H Q E) : wpAny (model X.prog X.w) A (call (.ref f) us) (EP X pins σ Q) X.xe s := by
  have e0 : Env0 X.prog X.w X.K X.mg X.base A X.stack s H := by
    have e := I.env0
    exact ⟨by rw [sb.fr]; exact e.frames, e.mod, e.bs, e.bsz, e.funs, e.frf, e.hok, e.bare⟩
  have hl := F.len _ _ _ _ hsp
  refine wpAny_call (codeAny_mono (F.run A X.stack s H ⟨us, []⟩ us vs Q E sb.room e0 (by
    have := hb s us I.kIn (by rw [List.append_nil, ← r.length, hl])
    simpa using this) r hsp) fun r s' hq => ?_)
  cases r with
  | error e => exact hx pins σ H s e s' I hq
  | ok fl =>
    cases fl with
    | ret w => exact I.after hq
    | next => exact False.elim hq
    | brk => exact False.elim hq
    | cont => exact False.elim hq
def rOwnLen (C : Addr) (sp : Sp) (E : XK) : List V → Hp → VK → Prop := fun xs H Q => ∃ a dx fs, xs = [.ref a] ∧ H a = some (.ins C dx fs) ∧ sp [.ref a] H (fun v H' => ∃ n : Int, v = .int n ∧ 0 ≤ n ∧ n < 2 ^ 63 ∧ Q (.int n) H') E
theorem call_len_own {n : Nat} {CX : CXT} {C f : Addr} {fd : FuncData} {ps : List Str} {sp : Sp} {E : XK} (F : FnOk X.prog X.w X.K X.mg X.base CX n f fd ps sp) (hr : Room (n + 1) X.A)
    (hs : PySem.W.findIn X.K (.ref C) "__len__" = some (some (.ref f))) (hf : PySem.W.isFn X.K (.ref f) = true) (hb : Binds X.K fd ps []) (hx : Passes CX X E) : CallR X (.builtin "len") (rOwnLen C sp E) := by
  intro pins s σ H xs us Q I r h
  obtain ⟨a, dx, fs, rfl, ha, hsp⟩ := h
  obtain ⟨u, rfl, ru⟩ := vals1 r
  cases ru
  obtain ⟨mA, J, _⟩ := ins_get I.hok ha
  obtain ⟨od, J, _⟩ := J.look
  obtain ⟨m, hF⟩ := I.fr
  refine PySem.W.len_K hF I.ok.mod.kin J hs hf (wpAny_mono (own_run (vs := [.ref a]) F hb hx ⟨hr.in1, rfl⟩ I (.cons rfl .nil) hsp) (fun u s' q => ?_) fun _ _ x => x)
  obtain ⟨v, H', I', rv, k, rfl, h0, h1, q⟩ := q
  obtain ⟨t, rfl⟩ := rv
  exact ⟨⟨h0, h1⟩, .int k, H', I'.tok _, ⟨_, rfl⟩, q⟩
/-- x == y by x's own __eq__ -/
def rOwnCmp (K : PySem.W.Frag) (C : Addr) (sp : Sp) (E : XK) (g : Bool → Bool) : R2 := fun x y H Q => ∃ a dx fs t, x = .ref a ∧ H a = some (.ins C dx fs) ∧ TyX K H y t ∧ PySem.W.notFirst K C t = true ∧ sp [.ref a, y] H (fun v H' => ∃ b, v = .bl b ∧ Q (.bl (g b)) H') E
theorem own_eq {n : Nat} {CX : CXT} {C f : Addr} {fd : FuncData} {ps : List Str} {sp : Sp} {E : XK} (F : FnOk X.prog X.w X.K X.mg X.base CX n f fd ps sp)
    (hs : PySem.W.findIn X.K (.ref C) "__eq__" = some (some (.ref f))) (hf : PySem.W.isFn X.K (.ref f) = true) (hb : Binds X.K fd ps []) (hx : Passes CX X E)
    {A : Around} (sb : Sub X n A) {pins : List (Addr × Obj)} {s : Shared} {σ : L2.St} {H : Hp} {x y : V} {u v : Value} {Q : VK} (I : Inv X pins σ H s) (rx : RelV x u) (ry : RelV y v) (h : rOwnCmp X.K C sp E id x y H Q) :
    wpAny (model X.prog X.w) A (richCompare .Eq u v) (EP X pins σ Q) X.xe s := by
  obtain ⟨a, dx, fs, t, rfl, ha, ty, hn, hsp⟩ := h
  cases rx
  obtain ⟨mA, J, _⟩ := ins_get I.hok ha
  obtain ⟨od, J, _⟩ := J.look
  obtain ⟨m, hF⟩ := I.fr
  obtain ⟨P, Z, p, _⟩ := kit_of I ry ty
  refine PySem.W.cmp_K (op := .Eq) (tb := t) sb.room.units0 hF I.ok.mod.kin J (Z.ty _ _ I.kIn p) hn hs hf (wpAny_mono (own_run (vs := [.ref a, y]) F hb hx sb I (.cons rfl (.cons ry .nil)) hsp) (fun u s' q => ?_) fun _ _ x => x)
  obtain ⟨w, H', I', rw', b, rfl, q⟩ := q
  cases rw'
  exact ⟨.bl b, H', I', rfl, q⟩
theorem op_eq_own {n : Nat} {CX : CXT} {C f : Addr} {fd : FuncData} {ps : List Str} {sp : Sp} {E : XK} (F : FnOk X.prog X.w X.K X.mg X.base CX n f fd ps sp) (hr : Room n X.A)
    (hs : PySem.W.findIn X.K (.ref C) "__eq__" = some (some (.ref f))) (hf : PySem.W.isFn X.K (.ref f) = true) (hb : Binds X.K fd ps []) (hx : Passes CX X E) : OpR X (compareOp .Eq) (rOwnCmp X.K C sp E id) := by
  intro pins s σ H x y v u Q I rx ry h
  show wpAny (model X.prog X.w) X.A (richCompare .Eq v u) (EP X pins σ Q) X.xe s
  exact own_eq F hs hf hb hx ⟨hr, rfl⟩ I rx ry h
end
end Wb

/-! Wr2: != and in by an own __eq__. -/
namespace Wb
open PySem L2 PySem.Spec PyProof.Rows

section
variable {M : Model} {prog : Program} {w : World} {A : Around} {E : Value → Shared → Prop} {s : Shared} {K : PySem.W.Frag} {x C f : Addr} {ox : Obj} {od : Option Obj}
theorem ifBound_objNe {args : List Value} {Q : Option Value → Shared → Prop} (X : K.In s.heap) (I : PySem.W.InstAt s.heap x ox C od) (hs : PySem.W.findIn K (.ref C) "__ne__" = some (some (.builtin "object.__ne__")))
    (h : wpAny M A (call (.builtin "object.__ne__") (.ref x :: args)) (fun v => Q (some v)) E s) : wpAny M A (callSpecialIfBound? (.ref x) "__ne__" args) Q E s := by
  simp only [callSpecialIfBound?, bindSpecialIfBound?]
  refine wpAny_holding (wpAny_bind (wpAny_bind (wpAny_bind (I.type.here ((PySem.W.looks_findIn X hs).here ?_)))))
  refine wpAny_bind (wpAny_askSetting (wpAny_ite ?_))
  have fin : wpAny M A (call (.builtin "object.__ne__") ([.ref x] ++ args) >>= fun v => pure (some v)) Q E s := wpAny_bind (wpAny_mono h (fun v s' h' => wpAny_pure h') fun _ _ h' => h')
  split
  · exact wpAny_bind (wpAny_of_eq (F.cmp_object.ne.bind _) (wpAny_pure (by exact fin)))
  · exact wpAny_tryCatch (wpAny_bind (wpAny_of_eq (F.cmp_object.ne.bind _) (wpAny_pure (by exact fin))))
theorem objNe_body {b : Value} {Q : Fin → Shared → Prop} (hu : A.units < cLine) (X : K.In s.heap) (I : PySem.W.InstAt s.heap x ox C od) (hs : PySem.W.findIn K (.ref C) "__eq__" = some (some (.ref f))) (hf : PySem.W.isFn K (.ref f) = true)
    (h : wpAny M A (call (.ref f) [.ref x, b]) (fun v s' => ∃ k, v = .bool k ∧ Q (.done (.ret (.bool (!k)))) s') E s) : wpAny M A (Builtin.«object.__ne__» ⟨[.ref x, b], []⟩) Q E s := by
  unfold Builtin.«object.__ne__»
  refine wpAny_bind (m := slotArgs "__ne__" 1 _) (wpAny_pure ?_)
  refine wpAny_bind (wpAny_cRoomFor hu ?_)
  refine wpAny_bind (m := callSpecialIfBound? (.ref x) (Str.ofString "__eq__") [b]) (PySem.W.ifBound_K X I hs hf (wpAny_mono h (fun v s' hv => ?_) fun _ _ e => e))
  obtain ⟨k, rfl, q⟩ := hv
  exact wpAny_bind (wpAny_truthy_bool (wpAny_pure q))
theorem call_objNe {b : Value} {Q : Value → Shared → Prop} (hu : A.in1.units < cLine) (X : K.In s.heap) (I : PySem.W.InstAt s.heap x ox C od) (hm : PySem.W.mroIn K C (.type "object") = some true) (hs : PySem.W.findIn K (.ref C) "__eq__" = some (some (.ref f)))
    (hf : PySem.W.isFn K (.ref f) = true) (h : wpAny (model prog w) A.in1 (call (.ref f) [.ref x, b]) (fun v s' => ∃ k, v = .bool k ∧ Q (.bool (!k)) s') E s) : wpAny (model prog w) A (call (.builtin "object.__ne__") [.ref x, b]) Q E s :=
  wpAny_call (codeAny_call_builtin F.cmp_object.ne.plain F.cmpEntry_ne (PySem.W.check_slot F.cmpKind_ne F.cmpSplit_ne (I.type.andThen (PySem.W.looks_mroIn X hm)) (F.cmpArgs_ne _ _) (objNe_body hu X I hs hf (wpAny_mono h (fun v s' ⟨k, e, q⟩ => ⟨k, e, q⟩) fun _ _ e => e))))
end
section
variable {X : Cx}
/-- x != y by x's own __eq__ -/
theorem op_ne_own {n : Nat} {CX : CXT} {C f : Addr} {fd : FuncData} {ps : List Str} {sp : Sp} {E : XK} (F : FnOk X.prog X.w X.K X.mg X.base CX n f fd ps sp) (hr : Room (n + 1) X.A)
    (hs : PySem.W.findIn X.K (.ref C) "__eq__" = some (some (.ref f))) (hn : PySem.W.findIn X.K (.ref C) "__ne__" = some (some (.builtin "object.__ne__"))) (hm : PySem.W.mroIn X.K C (.type "object") = some true)
    (hf : PySem.W.isFn X.K (.ref f) = true) (hb : Binds X.K fd ps []) (hx : Passes CX X E) : OpR X (compareOp .NotEq) (rOwnCmp X.K C sp E not) := by
  intro pins s σ H x y v u Q I rx ry h
  show wpAny (model X.prog X.w) X.A (richCompare .NotEq v u) (EP X pins σ Q) X.xe s
  obtain ⟨a, dx, fs, t, rfl, ha, ty, hnf, hsp⟩ := h
  cases rx
  obtain ⟨mA, J, _⟩ := ins_get I.hok ha
  obtain ⟨od, J, _⟩ := J.look
  obtain ⟨P, Z, p, _⟩ := kit_of I ry ty
  have run := own_run (vs := [.ref a, y]) F hb hx ⟨hr.in1, rfl⟩ I (.cons rfl (.cons ry .nil)) hsp
  have one : wpAny (model X.prog X.w) X.A (tryCompare (.ref a) (cmpInfo .NotEq).2.1 u) (fun r s' => ∃ v, r = some v ∧ EP X pins σ Q v s') X.xe s := by
    unfold tryCompare
    refine wpAny_bind (ifBound_objNe I.kIn J hn (call_objNe hr.in1.units0 I.kIn J hm hs hf (wpAny_mono run (fun w s' q => ?_) fun _ _ e => e)))
    obtain ⟨w', H', I', rw', b, rfl, q⟩ := q
    cases rw'
    exact ⟨b, rfl, wpAny_pure ⟨_, rfl, .bl _, H', I', rfl, q⟩⟩
  have XI := I.kIn
  unfold richCompare
  simp only [oneThing_ref]
  refine wpAny_holding (wpAny_bind (wpAny_cRoomFor hr.units0 ?_))
  refine wpAny_bind (J.type.here (wpAny_bind ((Z.ty _ _ XI p).here ?_)))
  split
  · rename_i q
    have e : PySem.W.subIn X.K t (.ref C) = some false := by
      rcases Bool.or_eq_true_iff.mp hnf with e | e
      · rw [beq_iff_eq.mp e] at q; simp at q
      · exact beq_iff_eq.mp e
    refine wpAny_bind ((PySem.W.looks_subIn XI e).here ?_)
    simp only [Bool.false_eq_true, if_false]
    refine wpAny_bind (wpAny_mono one (fun r s' z => ?_) fun _ _ e => e)
    obtain ⟨v, rfl, hq⟩ := z
    exact wpAny_pure hq
  · refine wpAny_bind (wpAny_pure ?_)
    simp only [Bool.false_eq_true, if_false]
    refine wpAny_bind (wpAny_mono one (fun r s' z => ?_) fun _ _ e => e)
    obtain ⟨v, rfl, hq⟩ := z
    exact wpAny_pure hq
/-- a built-in class comes not ahead of an own one -/
theorem nf_ty {K : PySem.W.Frag} {C : Addr} {n : String} {l : List Value} (h : fastBuiltinMro n = some l) (hl : l.all (fun v => match v with | .type _ => true | _ => false) = true) : PySem.W.notFirst K C (.type n) = true := by
  unfold PySem.W.notFirst
  refine Bool.or_eq_true_iff.mpr (.inr (beq_iff_eq.mpr ?_))
  show (fastBuiltinMro n).map (·.contains (.ref C)) = some false
  rw [h]
  show some (l.contains (.ref C)) = some false
  congr 1
  rw [List.contains_eq_any_beq, List.any_eq_false]
  intro v hv
  have := (List.all_eq_true.mp hl) v hv
  cases v with
  | ref a => simp at this
  | _ => intro q; simp at q
theorem nf_own {K : PySem.W.Frag} {C : Addr} : PySem.W.notFirst K C (.ref C) = true := by
  unfold PySem.W.notFirst
  simp

/-- x in [z], z an instance with its own __eq__ -/
theorem contains_one {prog : Program} {w : World} {A : Around} {R : Result → Shared → Prop} {l : Addr} {items : Array Value} {y x : Value} {n : Nat} {dd : Option Addr} {sl : Array (Option Value)} {s : Shared} (h0 : items[0]? = some y) (h1 : items[1]? = none)
    (hl : s.heap.get? l = some { cls := .type "list", dict := dd, data := .seq items n, slots := sl })
    (h : wpAny (model prog w) A.in1 (eqBool y x) (fun r s' => (∃ n' dd' sl', s'.heap.get? l = some { cls := .type "list", dict := dd', data := .seq items n', slots := sl' }) ∧ R (.ok (.ret (.bool r))) s') (fun e s' => R (.error e) s') s) :
    wpAny (model prog w) A.in1 (Builtin.«list.__contains__» ⟨[.ref l, x], []⟩) (GQ.FinOf prog w A R) (fun e s' => R (.error e) s') s := by
  obtain ⟨hp, g, d, tk, os⟩ := s
  wp_walk using PySem.AutoSeq1.wpAny_loadPart' hl
  refine ⟨plainId_quiet MeetsSeq.plain_contains_loop _, codeAny_builtin MeetsSeq.entry_contains_loop ?_⟩
  rw [Around.under_plainId MeetsSeq.plain_contains_loop _]
  wp_walk using PySem.AutoSeq1.wpAny_loadPart' hl
  have hi : items[((0 : Int)).toNat]? = some y := h0
  rw [hi]
  refine wpAny_bind (wpAny_mono h (fun r s' q => ?_) fun _ _ e => e)
  obtain ⟨⟨n', dd', sl', hl'⟩, q⟩ := q
  obtain ⟨hp2, g2, d2, tk2, os2⟩ := s'
  cases r with
  | true =>
    wp_walk
    exact q
  | false =>
    wp_walk
    refine ⟨plainId_quiet MeetsSeq.plain_contains_loop _, codeAny_builtin MeetsSeq.entry_contains_loop ?_⟩
    rw [Around.under_plainId MeetsSeq.plain_contains_loop _]
    wp_walk using PySem.AutoSeq1.wpAny_loadPart' hl'
    have hi : items[((0 : Int) + 1).toNat]? = none := h1
    rw [hi]
    wp_walk
    exact q
/-- what is asked: the same object, or z's own == (behind which the list stands as before) -/
def rInOwn (K : PySem.W.Frag) (C : Addr) (sp : Sp) (E : XK) (g : Bool → Bool) : R2 := fun x y H Q => ∃ l z, y = .ref l ∧ H l = some (.lst [.ref z]) ∧
  ((x = .ref z ∧ Q (.bl (g true)) H) ∨ ((∃ b, x ≠ .ref z ∧ x = .ref b) ∧ rOwnCmp K C sp E id (.ref z) x H fun v H' => ∃ b, v = .bl b ∧ H' l = some (.lst [.ref z]) ∧ Q (.bl (g b)) H'))
theorem in_own_run {n : Nat} {CX : CXT} {C f : Addr} {fd : FuncData} {ps : List Str} {sp : Sp} {E : XK} (F : FnOk X.prog X.w X.K X.mg X.base CX n f fd ps sp) (hr : Room (n + 1) X.A)
    (hs : PySem.W.findIn X.K (.ref C) "__eq__" = some (some (.ref f))) (hf : PySem.W.isFn X.K (.ref f) = true) (hb : Binds X.K fd ps []) (hx : Passes CX X E) (g : Bool → Bool) {pins : List (Addr × Obj)} {s : Shared} {σ : L2.St} {H : Hp} {x y : V} {v u : Value} {Q : VK}
    (I : Inv X pins σ H s) (rx : RelV x v) (ry : RelV y u) (h : rInOwn X.K C sp E g x y H Q) : wpAny (model X.prog X.w) X.A (contains u v) (fun b s' => EP X pins σ Q (.bool (g b)) s') X.xe s := by
  obtain ⟨l, z, rfl, hl, h⟩ := h
  cases ry
  obtain ⟨hz, its, k, r, e⟩ := I.hok l _ hl
  cases r with
  | cons r1 r2 =>
    cases r2
    cases r1
    refine wpAny_contains_slot (T := "list") ⟨_, e, rfl⟩ PySem.F.slot_list_contains (GQ.call_here PySem.F.slot_list_contains ⟨_, e, rfl⟩ PySem.F.entry_list_contains (PySem.F.args_list_contains_2 _ _)
      (contains_one (items := [Value.ref z].toArray) rfl rfl e ?_))
    rcases h with ⟨rfl, q⟩ | ⟨⟨b, hne, rfl⟩, h⟩
    · cases rx
      refine SeqAt.EqAt.same (A := X.A.in1) (s := s) (.ref z) X.prog X.w _ _ ?_
      exact ⟨⟨k, none, #[], e⟩, wpAny_truthy_bool ⟨.bl (g true), H, I, rfl, q⟩⟩
    · cases rx
      have hab : z ≠ b := fun q => hne (by rw [q])
      refine GQ.eqBool_refG hab (wpAny_mono (own_eq (x := .ref z) (y := .ref b) F hs hf hb hx ⟨hr.in1, rfl⟩ I rfl rfl h) (fun w s' q => ?_) fun _ _ e => e)
      obtain ⟨_, H', I', rw', b', rfl, hl', q⟩ := q
      cases rw'
      obtain ⟨hz', its', k', r', e'⟩ := I'.hok l _ hl'
      cases r' with
      | cons r1 r2 =>
        cases r2
        cases r1
        exact ⟨b', rfl, ⟨k', none, #[], e'⟩, wpAny_truthy_bool ⟨.bl (g b'), H', I', rfl, q⟩⟩
theorem op_in_own {n : Nat} {CX : CXT} {C f : Addr} {fd : FuncData} {ps : List Str} {sp : Sp} {E : XK} (F : FnOk X.prog X.w X.K X.mg X.base CX n f fd ps sp) (hr : Room (n + 1) X.A)
    (hs : PySem.W.findIn X.K (.ref C) "__eq__" = some (some (.ref f))) (hf : PySem.W.isFn X.K (.ref f) = true) (hb : Binds X.K fd ps []) (hx : Passes CX X E) : OpR X (compareOp .In) (rInOwn X.K C sp E id) := by
  intro pins s σ H x y v u Q I rx ry h
  show wpAny _ X.A (do return Value.bool (← contains u v)) _ _ s
  exact wpAny_bind (wpAny_mono (in_own_run F hr hs hf hb hx id I rx ry h) (fun b s' q => wpAny_pure q) fun _ _ e => e)
theorem op_notin_own {n : Nat} {CX : CXT} {C f : Addr} {fd : FuncData} {ps : List Str} {sp : Sp} {E : XK} (F : FnOk X.prog X.w X.K X.mg X.base CX n f fd ps sp) (hr : Room (n + 1) X.A)
    (hs : PySem.W.findIn X.K (.ref C) "__eq__" = some (some (.ref f))) (hf : PySem.W.isFn X.K (.ref f) = true) (hb : Binds X.K fd ps []) (hx : Passes CX X E) : OpR X (compareOp .NotIn) (rInOwn X.K C sp E not) := by
  intro pins s σ H x y v u Q I rx ry h
  show wpAny _ X.A (do return Value.bool (!(← contains u v))) _ _ s
  exact wpAny_bind (wpAny_mono (in_own_run F hr hs hf hb hx not I rx ry h) (fun b s' q => wpAny_pure q) fun _ _ e => e)
end
end Wb

/-! Wr3: setdefault by tuple keys. -/
namespace Wb
open PySem L2 PySem.Spec PyProof.Rows
section
variable {X : Cx} {pins : List (Addr × Obj)} {σ : L2.St} {H : Hp} {s : Shared} {a b : Addr} {r : Value} {d : V} {k : List L2.Key} {A : Around} {E : Value → Shared → Prop}
theorem d_setdT {kvs : List (List L2.Key × V)} {Q : Value → Shared → Prop} (hu : A.units + 1 < cLine) (I : Inv X pins σ H s) (e : H a = some (.dT kvs)) (eb : H b = some (.tup (k.map kV))) (rd : RelV d r) (hl : kvs.length < sizeLine)
    (h1 : ∀ v, valV kvs k = some v → ∀ (w' : Value) (s' : Shared), Inv X pins σ H s' → RelV v w' → Q w' s') (h2 : valV kvs k = none → ∀ (w' : Value) (s' : Shared), Inv X pins σ (upd H a (.dT (putK kvs k d))) s' → RelV d w' → Q w' s') :
    wpAny (model X.prog X.w) A (call (.builtin "dict.setdefault") [.ref a, .ref b, r]) Q E s := by
  obtain ⟨z, hd, xs, rel, dd⟩ := dt_of I.hok e
  have hz : xs.length ≤ sizeLine := by rw [← Paired.length rel]; exact z
  have hl2 : (putK kvs k d).length ≤ sizeLine := by have := length_putK kvs k d; omega
  refine call_setdefault_heap (hsz := hz) (tupleKind_room_in1 hu) (key_of I.hok eb) hd dd (fun p hp => ?_) fun hn h' dd' hs => ?_
  · have q := rel.val k
    rw [hp] at q
    cases q0 : valV kvs k with
    | none => rw [q0] at q; exact (show False from q).elim
    | some v0 => rw [q0] at q; exact h1 v0 q0 _ _ (I.tok _) q
  · have q := rel.val k
    rw [hn] at q
    cases q0 : valV kvs k with
    | some v0 => rw [q0] at q; exact (show False from q).elim
    | none =>
      obtain ⟨q, es, ep, hq, e2, e3, e4, _, e5⟩ := dd'
      refine h2 q0 _ _ (d_write I (by rw [e]; exact True.intro) hs ⟨q, hq⟩ ⟨hl2, hd, _, (rel.put k eb rd).keeps fun c ys ec => ?_, q, es, ep, hq, e2, e3, e4, e5⟩) rd
      rw [upd_ne (ne_of ec e (fun z => nomatch z))]
      exact ec
end
/-- d.setdefault(y, z), y a tuple -/
def tDSetdT (td ty tx : TE) : TE := fun σ H Q => td σ H fun x H1 => ∃ a, x = .ref a ∧ IsD H1 a ∧ ty σ H1 fun y H2 => tx σ H2 fun z H3 => ∃ (kvs : List (List L2.Key × V)) (k : List L2.Key) (b : Addr), H3 a = some (.dT kvs) ∧ y = .ref b ∧ H3 b = some (.tup (k.map kV)) ∧ kvs.length < sizeLine ∧
  (∀ v, valV kvs k = some v → Q v H3) ∧ (valV kvs k = none → Q z (upd H3 a (.dT (putK kvs k z))))
section
variable {X : Cx} {o e f : Expr} {td ty tx : TE} {apos cpos : Pos}
theorem pe_dsetdT (hu : X.A.units + 1 < cLine) (ho : PE X o td) (he : PE X e ty) (hf : PE X f tx) (m : M2 X o "setdefault" apos e f cpos) : PE X (.Call (.Attribute o "setdefault" apos) [e, f] [] cpos) (tDSetdT td ty tx) := by
  refine ⟨fun pins s σ H Q I h => ?_⟩
  refine wpAny_Call_method m.base m.few m.line PySem.F.plainAttrs_dict PySem.F.slot_dict_setdefault PySem.F.type_dict_setdefault (thn (ho.run pins s σ H _ I h) fun u s1 ⟨x, H1, I1, rx, a, ex, d, q1⟩ => ?_)
  subst ex
  obtain rfl : u = Value.ref a := rx
  obtain ⟨t1, t2, _⟩ := isD_at I1 d
  refine ⟨t1, t2, ?_⟩
  rw [m.trees]
  refine Calls.callWith_builtin rfl (Calls.evalArgs_plain (Calls.spliced_cons (thn (he.run pins s1 σ H1 _ I1 q1) fun iv s2 ⟨y, H2, I2, ry, q2⟩ =>
    Calls.spliced_cons (thn (hf.run pins s2 σ H2 _ I2 q2) fun fv s3 ⟨z, H3, I3, rz, kvs, k, b, ea, ey, eb, hl, q3, q4⟩ => Calls.spliced_nil ?_))))
  subst ey
  cases (show iv = Value.ref b from ry)
  exact d_setdT hu I3 ea eb rz hl (fun v hv w' s4 I4 rw' => ⟨v, _, I4, rw', q3 v hv⟩) fun hn w' s4 I4 rw' => ⟨z, _, I4, rw', q4 hn⟩
end
/-! ### a word between two statements -/
def tCut (t u : TS) : TS := fun D σ H => ∃ Mid : L2.St → Hp → Prop, t { D with nx := Mid } σ H ∧ ∀ σ' H', Mid σ' H' → u D σ' H'
theorem pss_cut {X : Cx} {st : Stmt} {rest : List Stmt} {t u : TS} (h1 : PS X st t) (h2 : PSs X rest u) : PSs X (st :: rest) (tCut t u) := by
  refine ⟨fun pins s σ H D I h => ?_⟩
  obtain ⟨Mid, hm, hu⟩ := h
  refine wpAny_execs_cons (thn (h1.run pins s σ H { D with nx := Mid } I hm) fun f s1 q => ?_)
  cases f with
  | next =>
    obtain ⟨σ', H', I', q⟩ := q
    exact h2.run pins s1 σ' H' D I' (hu σ' H' q)
  | ret v => exact q
  | brk => exact q
  | cont => exact q
theorem fm0 (a : Int) {m : Int} (h : 0 < m) : 0 ≤ a.fmod m := Int.fmod_nonneg_of_pos a h
theorem fm1 (a : Int) {m : Int} (h : 0 < m) : a.fmod m < m := Int.fmod_lt_of_pos a h
theorem fd1 (a : Int) {m : Int} (h : 0 < m) : a.fdiv m = a / m := Int.fdiv_eq_ediv_of_nonneg a (Int.le_of_lt h)
theorem szl {vs : List V} (h : Nat.ble vs.length 1000 = true) : vs.length ≤ sizeLine := Nat.le_trans (Nat.le_of_ble_eq_true h) (by decide)
theorem boot_abs : bootBuiltins "abs" = some (.builtin "abs") := by decide +kernel
/-! ### readings with names -/
section
variable {X : Cx}
def rLen (K : PySem.W.Frag) : List V → Hp → VK → Prop := fun xs H Q => ∃ p ys, xs = [.ref p] ∧ (SqL K H p ys ∨ SqT K H p ys) ∧ Q (.int ys.length) H
theorem cr_len : CallR X (.builtin "len") (rLen X.K) := call_len_seq
def rLenS : List V → Hp → VK → Prop := fun xs H Q => ∃ z : Str, xs = [.str z] ∧ z.length ≤ sizeLine ∧ Q (.int z.length) H
def rAbs : List V → Hp → VK → Prop := fun xs H Q => ∃ i, xs = [.int i] ∧ Q (.int (if i < 0 then -i else i)) H
theorem cr_abs : CallR X (.builtin "abs") rAbs := call_abs
def rMax2 : List V → Hp → VK → Prop := fun xs H Q => ∃ i j, xs = [.int i, .int j] ∧ Q (.int (if j > i then j else i)) H
theorem cr_max2 {k : Nat} (hr : Room k X.A) (hc : X.calm = true := by rfl) : CallR X (.builtin "max") rMax2 := call_max2 hc
def rMin2 : List V → Hp → VK → Prop := fun xs H Q => ∃ i j, xs = [.int i, .int j] ∧ Q (.int (if j < i then j else i)) H
def rStrI : List V → Hp → VK → Prop := fun xs H Q => ∃ i, xs = [.int i] ∧ i.natAbs.log2 < 1920 ∧ Q (.str (toString i)) H
theorem cr_str_i : CallR X (.type "str") rStrI := call_str_int
end
section
variable {K : PySem.W.Frag} {H : Hp} {L : Lk} {cs : Cs} {x : V} {ds : List PyData} {Q : VK}
theorem w_len (W : Wd K H L cs) (h : Rdb L cs x (.list ds)) (k : Q (.int (ds.length : Nat)) H) : rLen K [x] H Q := w_lenL W h k
theorem w_lent (W : Wd K H L cs) (h : Has L x (.tuple ds)) (k : Q (.int (ds.length : Nat)) H) : rLen K [x] H Q := w_lenT W h k
end
/-! ### cells put otherwise -/
def mvl : Nat → Cs → Cs
  | 0, cs => cs
  | _ + 1, [] => []
  | n + 1, c :: cs => match mvl n cs with
    | [] => c :: cs
    | x :: r => x :: c :: r
theorem mvl_perm : ∀ (n : Nat) (cs : Cs), cs.Perm (mvl n cs)
  | 0, cs => .refl _
  | _ + 1, [] => .refl _
  | n + 1, c :: cs => by
    have h := mvl_perm n cs
    unfold mvl
    split
    · exact .refl _
    · rename_i x r e
      rw [e] at h
      exact (List.Perm.cons c h).trans (List.Perm.swap _ _ _)
def mbl : Nat → Cs → Cs
  | n + 1, a :: b :: cs => b :: mbl n (a :: cs)
  | _, cs => cs
theorem mbl_perm : ∀ (n : Nat) (cs : Cs), cs.Perm (mbl n cs)
  | 0, cs => by unfold mbl; exact .refl _
  | _ + 1, [] => by unfold mbl; exact .refl _
  | _ + 1, [a] => by unfold mbl; exact .refl _
  | n + 1, a :: b :: cs => by
    have h := mbl_perm n (a :: cs)
    unfold mbl
    exact (List.Perm.swap _ _ _).trans (List.Perm.cons b h)
section
variable {K : PySem.W.Frag} {H : Hp} {L : Lk} {cs : Cs}
/-- the n-th cell to the front; the first one to the n-th place -/
theorem Wd.mv (W : Wd K H L cs) (n : Nat) : Wd K H L (mvl n cs) := W.perm (mvl_perm n cs)
theorem Wd.mb (W : Wd K H L cs) (n : Nat) : Wd K H L (mbl n cs) := W.perm (mbl_perm n cs)
end
/-! ### data of a shape -/
abbrev sok (t : Str) : Prop := PyData.strOk t = true
theorem lay_strs : ∀ {ts : List Str}, (∀ t ∈ ts, sok t) → PyData.canLayAll0 (ts.map PyData.str) = true
  | [], _ => by simp [PyData.canLayAll0]
  | a :: ts, h => by
    have h1 : PyData.strOk a = true := h a List.mem_cons_self
    simp [PyData.canLayAll0, PyData.canLay0, lay_strs fun t m => h t (List.mem_cons_of_mem _ m), h1]
theorem dep_strs : ∀ ts : List Str, PyData.depthAll (ts.map PyData.str) = 0
  | [] => by simp [PyData.depthAll]
  | _ :: ts => by simp [PyData.depthAll, PyData.depth, dep_strs ts]
theorem shaped_str {t : Str} (h : sok t) : SeqAt.shaped (.str t) = true := by
  have h : PyData.strOk t = true := h
  simp [SeqAt.shaped, PyData.canLay0, PyData.depth, h]
theorem shaped_int (t : Int) : SeqAt.shaped (.int t) = true := by simp [SeqAt.shaped, PyData.canLay0, PyData.depth]
theorem shaped_strs {ts : List Str} (h : ∀ t ∈ ts, sok t) : SeqAt.shaped (.list (ts.map .str)) = true := by simp [SeqAt.shaped, PyData.canLay0, PyData.depth, lay_strs h, dep_strs]
/-- x in a list, a tuple of texts; of ints -/
theorem flat_strs (ts : List Str) : (ts.map V.str).all flatV = true := by simp [flatV]
theorem flat_ints (ts : List Int) : (ts.map V.int).all flatV = true := by simp [flatV]
theorem inV_str (t : Str) (ts : List Str) : inV (.str t) (ts.map V.str) = decide (t ∈ ts) := by
  unfold inV
  induction ts with
  | nil => rfl
  | cons a r ih =>
    rw [List.map_cons, List.any_cons, ih]
    by_cases h : t = a
    · subst h; simp [eqV]
    · have h2 : ¬ a = t := fun q => h q.symm
      simp [eqV, h, h2]
theorem inV_int (t : Int) (ts : List Int) : inV (.int t) (ts.map V.int) = decide (t ∈ ts) := by
  unfold inV
  induction ts with
  | nil => rfl
  | cons a r ih =>
    rw [List.map_cons, List.any_cons, ih]
    by_cases h : t = a
    · subst h; simp [eqV]
    · have h2 : ¬ a = t := fun q => h q.symm
      simp [eqV, h, h2]
section
variable {K : PySem.W.Frag} {H : Hp} {L : Lk} {cs : Cs} {x : V} {Q : VK}
theorem w_inLs {t : Str} {ts : List Str} (W : Wd K H L cs) (h : Rdb L cs x (.list (ts.map .str))) {neg : Bool} (k : Q (.bl (if neg then !decide (t ∈ ts) else decide (t ∈ ts))) H) : rIn K neg (.str t) x H Q := by
  obtain ⟨a, xs, rfl, h1, h2⟩ := dp_lst (W.rd h)
  rw [of_strs h2] at h1
  exact ⟨a, _, rfl, .inl h1, rfl, flat_strs ts, by rw [inV_str]; exact k⟩
theorem w_inTs {t : Str} {ts : List Str} (W : Wd K H L cs) (h : Has L x (.tuple (ts.map .str))) {neg : Bool} (k : Q (.bl (if neg then !decide (t ∈ ts) else decide (t ∈ ts))) H) : rIn K neg (.str t) x H Q := by
  obtain ⟨a, xs, rfl, h1, h2⟩ := dp_tup (W.now h)
  rw [of_strs h2] at h1
  exact ⟨a, _, rfl, .inr h1, rfl, flat_strs ts, by rw [inV_str]; exact k⟩
theorem w_inLi {t : Int} {ts : List Int} (W : Wd K H L cs) (h : Rdb L cs x (.list (ts.map .int))) {neg : Bool} (k : Q (.bl (if neg then !decide (t ∈ ts) else decide (t ∈ ts))) H) : rIn K neg (.int t) x H Q := by
  obtain ⟨a, xs, rfl, h1, h2⟩ := dp_lst (W.rd h)
  rw [of_ints h2] at h1
  exact ⟨a, _, rfl, .inl h1, rfl, flat_ints ts, by rw [inV_int]; exact k⟩
theorem w_inTi {t : Int} {ts : List Int} (W : Wd K H L cs) (h : Has L x (.tuple (ts.map .int))) {neg : Bool} (k : Q (.bl (if neg then !decide (t ∈ ts) else decide (t ∈ ts))) H) : rIn K neg (.int t) x H Q := by
  obtain ⟨a, xs, rfl, h1, h2⟩ := dp_tup (W.now h)
  rw [of_ints h2] at h1
  exact ⟨a, _, rfl, .inr h1, rfl, flat_ints ts, by rw [inV_int]; exact k⟩
end
end Wb

/-! Wr4: loops and comprehensions by data. -/
namespace Wb
open PySem L2
def rListIt (K : PySem.W.Frag) (x : V) (H : Hp) (R : It → Hp → Prop) : Prop := ∃ a, x = .ref a ∧ (∃ xs, SqL K H a xs) ∧ R (Itl K a) H
def rTupIt (K : PySem.W.Frag) (x : V) (H : Hp) (R : It → Hp → Prop) : Prop := ∃ a, x = .ref a ∧ (∃ xs, SqT K H a xs) ∧ R (Itt K a) H
def lcBody (J : It) (g : TG) (tt : TT) (te : TE) (vs : List Nat) (σ : L2.St) (H1 : Hp) (Q : VK) : Prop := ∀ D, H1 D = none → ∃ W : Nat → Nat → Hp → Prop, (∃ m, W 0 m (upd H1 D (.lst []))) ∧ ∀ i m H, W i m H →
  (J.stop i H ∧ Q (.ref D) H) ∨ (J.go i H ∧ ∃ Nx : Hp → Prop, (∀ H', Nx H' → ∃ m', m' < m ∧ W (i + 1) m' H') ∧ ∀ x H', J.yld i H x H' → g x (wipe σ vs) H' fun σ2 H2 => wipe σ2 vs = wipe σ vs ∧ tt σ2 H2 fun b H3 =>
    if b = true then te σ2 H3 fun y H4 => ∃ acc, H4 D = some (.lst acc) ∧ acc.length < sizeLine ∧ Nx (upd H4 D (.lst (acc ++ [y]))) else Nx H3)
def forBody (J : It) (g : TG) (tb : TS) (D : Ends) (σ : L2.St) (H1 : Hp) : Prop := ∃ W : Nat → Nat → L2.St → Hp → Prop, (∃ m, W 0 m σ H1) ∧ ∀ i m σ H, W i m σ H →
  (J.stop i H ∧ D.nx σ H) ∨ (J.go i H ∧ ∃ N : L2.St → Hp → Prop, (∀ σ' H', N σ' H' → ∃ m', m' < m ∧ W (i + 1) m' σ' H') ∧ ∀ x H', J.yld i H x H' → g x σ H' fun σ2 H2 => tb { D with nx := N, ct := N, bk := D.nx } σ2 H2)
theorem tLc_e {wi : TI} {g : TG} {tt : TT} {te : TE} {vs : List Nat} {σ : L2.St} {H : Hp} {Q : VK} : tLc wi g tt te vs σ H Q = wi σ H fun J H1 => lcBody J g tt te vs σ H1 Q := rfl
theorem tFor_e {wi : TI} {g : TG} {tb : TS} {D : Ends} {σ : L2.St} {H : Hp} : tFor wi g tb D σ H = wi σ H fun J H1 => forBody J g tb D σ H1 := rfl
theorem iList_e {K : PySem.W.Frag} {tl : TE} {σ : L2.St} {H : Hp} {R : It → Hp → Prop} : iList K tl σ H R = tl σ H fun x H1 => rListIt K x H1 R := rfl
theorem iTup_e {K : PySem.W.Frag} {tl : TE} {σ : L2.St} {H : Hp} {R : It → Hp → Prop} : iTup K tl σ H R = tl σ H fun x H1 => rTupIt K x H1 R := rfl

/-- what a comprehension's element must do; where it is left out -/
def LcNo (K : PySem.W.Frag) (L : Lk) (D : Addr) (S : List PyData → Cs → Prop) (H : Hp) : Prop := ∃ acc cs, S acc cs ∧ Wd K H L ((D, .dl acc) :: cs)
def LcEl (K : PySem.W.Frag) (L : Lk) (D : Addr) (S : List PyData → Cs → Prop) (y : V) (H : Hp) : Prop := ∃ acc, H D = some (.lst acc) ∧ acc.length < sizeLine ∧ LcNo K L D S (upd H D (.lst (acc ++ [y])))
def StN (K : PySem.W.Frag) (S : L2.St → Lk → Cs → Prop) (σ : L2.St) (H : Hp) : Prop := ∃ L cs, S σ L cs ∧ Wd K H L cs
section
variable {K : PySem.W.Frag} {H : Hp} {L L' : Lk} {cs : Cs} {a b D : Addr} {x y v : V} {d : PyData} {ds es acc : List PyData} {g : TG} {tt : TT} {te : TE} {vs : List Nat} {σ : L2.St} {Q : VK}
theorem w_el {S : List PyData → Cs → Prop} (W : Wd K H L' ((D, .dl acc) :: cs)) (hL : ∀ p ∈ L, p ∈ L') (h : Has L' y d) (hz : acc.length < 100000) (hS : S (acc ++ [d]) cs) : LcEl K L D S y H := by
  obtain ⟨H0, e0, hl, hc⟩ := id W.ok
  obtain ⟨_, xs, h1, h2⟩ := hc _ List.mem_cons_self
  refine ⟨xs, h1, Nat.lt_of_lt_of_le (by rw [da_len h2]; exact hz) (by decide), _, _, hS, ?_⟩
  refine Wd.sub (W.put (c' := .dl (acc ++ [d])) fun H1 e1 hl1 hk => ?_) hL
  obtain ⟨ys, h3, h4⟩ := hk
  rw [h1] at h3
  cases h3
  exact ⟨_, upd_same, da_app h4 (da_one (has_dp hl1 h))⟩
theorem w_no {S : List PyData → Cs → Prop} (W : Wd K H L' ((D, .dl acc) :: cs)) (hL : ∀ p ∈ L, p ∈ L') (hS : S acc cs) : LcNo K L D S H := ⟨acc, cs, hS, W.sub hL⟩
/-- what a list's walk gives -/
def YL (K : PySem.W.Frag) (a : Addr) (ds : List PyData) : Nat → Hp → V → Hp → Prop := fun i H x H' => H' = H ∧ ∀ L cs, Wd K H L cs → Rdb L cs (.ref a) (.list ds) → ∃ d, ds[i]? = some d ∧ Wd K H ((x, d) :: L) cs
def GL (K : PySem.W.Frag) (a : Addr) (ds : List PyData) : Hp → Prop := fun H => ∃ L cs, Wd K H L cs ∧ Rdb L cs (.ref a) (.list ds)
theorem mem_zip_at {xs : List V} {ds : List PyData} {i : Nat} {v : V} {d : PyData} (h1 : xs[i]? = some v) (h2 : ds[i]? = some d) : (v, d) ∈ xs.zip ds := by
  have e : (xs.zip ds)[i]? = some (v, d) := by rw [List.getElem?_zip_eq_some]; exact ⟨h1, h2⟩
  exact List.mem_of_getElem? e
theorem Wd.itemAt {i : Nat} (W : Wd K H L cs) (h : Rdb L cs (.ref a) (.list ds)) (hx : ∀ xs, SqL K H a xs → xs[i]? = some v) : ∃ d, ds[i]? = some d ∧ Wd K H ((v, d) :: L) cs := by
  obtain ⟨a', xs, e, h1, h2, W2⟩ := W.items h
  cases e
  have h3 := hx xs h1
  have h4 : i < ds.length := by rw [← h2]; exact (List.getElem?_eq_some_iff.mp h3).1
  refine ⟨ds[i], by simp [h4], W2.sub fun p hp => ?_⟩
  rcases List.mem_cons.mp hp with rfl | hp
  · exact List.mem_append_left _ (mem_zip_at h3 (by simp [h4]))
  · exact List.mem_append_right _ hp
theorem Wd.itemTAt {i : Nat} (W : Wd K H L cs) (h : Has L (.ref a) (.tuple ds)) (hx : ∀ xs, SqT K H a xs → xs[i]? = some v) : ∃ d, ds[i]? = some d ∧ Wd K H ((v, d) :: L) cs := by
  obtain ⟨a', xs, e, h1, h2, W2⟩ := W.itemsT h
  cases e
  have h3 := hx xs h1
  have h4 : i < ds.length := by rw [← h2]; exact (List.getElem?_eq_some_iff.mp h3).1
  refine ⟨ds[i], by simp [h4], W2.sub fun p hp => ?_⟩
  rcases List.mem_cons.mp hp with rfl | hp
  · exact List.mem_append_left _ (mem_zip_at h3 (by simp [h4]))
  · exact List.mem_append_right _ hp
theorem walkL : Walk (Itl K a) ds.length (GL K a ds) (YL K a ds) := by
  refine ⟨fun i H hi ⟨L, cs, W, h⟩ => ?_, fun H ⟨L, cs, W, h⟩ => ?_, fun i H x H' hi _ y => ⟨y.1, fun L cs W h => W.itemAt h y.2⟩⟩
  · obtain ⟨a', xs, e, h1, h2, W2⟩ := W.items h
    cases e
    exact ⟨xs, xs[i]'(by omega), h1, by simp⟩
  · obtain ⟨a', xs, e, h1, h2, W2⟩ := W.items h
    cases e
    exact ⟨xs, h1, by omega⟩
def YT (K : PySem.W.Frag) (a : Addr) (ds : List PyData) : Nat → Hp → V → Hp → Prop := fun i H x H' => H' = H ∧ ∀ L cs, Wd K H L cs → Has L (.ref a) (.tuple ds) → ∃ d, ds[i]? = some d ∧ Wd K H ((x, d) :: L) cs
def GT (K : PySem.W.Frag) (a : Addr) (ds : List PyData) : Hp → Prop := fun H => ∃ L cs, Wd K H L cs ∧ Has L (.ref a) (.tuple ds)
theorem walkT : Walk (Itt K a) ds.length (GT K a ds) (YT K a ds) := by
  refine ⟨fun i H hi ⟨L, cs, W, h⟩ => ?_, fun H ⟨L, cs, W, h⟩ => ?_, fun i H x H' hi _ y => ⟨y.1, fun L cs W h => W.itemTAt h y.2⟩⟩
  · obtain ⟨a', xs, e, h1, h2, W2⟩ := W.itemsT h
    cases e
    exact ⟨xs, xs[i]'(by omega), h1, by simp⟩
  · obtain ⟨a', xs, e, h1, h2, W2⟩ := W.itemsT h
    cases e
    exact ⟨xs, h1, by omega⟩
/-- [.. for .. in list] -/
theorem w_lcL {K' : PySem.W.Frag} (e : K' = K) (S : Nat → List PyData → Cs → Prop) (W : Wd K H L cs) (h0 : S 0 [] cs) (hR : ∀ i acc cs, S i acc cs → Rdb L cs x (.list ds))
    (hs : ∀ D i v d acc cs H, ds[i]? = some d → S i acc cs → Wd K H ((v, d) :: L) ((D, .dl acc) :: cs) → g v (wipe σ vs) H fun σ2 H2 => wipe σ2 vs = wipe σ vs ∧ tt σ2 H2 fun b H3 =>
      if b = true then te σ2 H3 (LcEl K L D (S (i + 1))) else LcNo K L D (S (i + 1)) H3)
    (hd : ∀ D acc cs H, S ds.length acc cs → Wd K H L ((D, .dl acc) :: cs) → Q (.ref D) H) : rListIt K' x H fun J H1 => lcBody J g tt te vs σ H1 Q := by
  subst e
  obtain ⟨a, xs, rfl, h1, h2, _⟩ := W.items (hR _ _ _ h0)
  refine ⟨a, rfl, ⟨xs, h1⟩, fun D hD => ?_⟩
  refine lc_it walkL (fun i H => LcNo K' L D (S i) H) ⟨[], cs, h0, W.newL hD .nil⟩ (fun i H _ ⟨acc, cs, s, W⟩ => ⟨L, _, W, (hR _ _ _ s).ct⟩) (fun i v H H' hi ⟨acc, cs, s, W⟩ y => ?_) fun H ⟨acc, cs, s, W⟩ => hd D acc cs H s W
  obtain ⟨rfl, y⟩ := y
  obtain ⟨d, h3, W⟩ := y _ _ W (hR _ _ _ s).ct
  exact hs D i v d acc cs _ h3 s W
theorem w_lcT {K' : PySem.W.Frag} (e : K' = K) (S : Nat → List PyData → Cs → Prop) (W : Wd K H L cs) (h0 : S 0 [] cs) (hR : Has L x (.tuple ds))
    (hs : ∀ D i v d acc cs H, ds[i]? = some d → S i acc cs → Wd K H ((v, d) :: L) ((D, .dl acc) :: cs) → g v (wipe σ vs) H fun σ2 H2 => wipe σ2 vs = wipe σ vs ∧ tt σ2 H2 fun b H3 =>
      if b = true then te σ2 H3 (LcEl K L D (S (i + 1))) else LcNo K L D (S (i + 1)) H3)
    (hd : ∀ D acc cs H, S ds.length acc cs → Wd K H L ((D, .dl acc) :: cs) → Q (.ref D) H) : rTupIt K' x H fun J H1 => lcBody J g tt te vs σ H1 Q := by
  subst e
  obtain ⟨a, xs, rfl, h1, h2, _⟩ := W.itemsT hR
  refine ⟨a, rfl, ⟨xs, h1⟩, fun D hD => ?_⟩
  refine lc_it walkT (fun i H => LcNo K' L D (S i) H) ⟨[], cs, h0, W.newL hD .nil⟩ (fun i H _ ⟨acc, cs, s, W⟩ => ⟨L, _, W, hR⟩) (fun i v H H' hi ⟨acc, cs, s, W⟩ y => ?_) fun H ⟨acc, cs, s, W⟩ => hd D acc cs H s W
  obtain ⟨rfl, y⟩ := y
  obtain ⟨d, h3, W⟩ := y _ _ W hR
  exact hs D i v d acc cs _ h3 s W
theorem w_lcR {lo : Int} {n : Nat} (S : Nat → List PyData → Cs → Prop) (W : Wd K H L cs) (h0 : S 0 [] cs)
    (hs : ∀ D i acc cs H, i < n → S i acc cs → Wd K H L ((D, .dl acc) :: cs) → g (.int (lo + (i : Nat))) (wipe σ vs) H fun σ2 H2 => wipe σ2 vs = wipe σ vs ∧ tt σ2 H2 fun b H3 =>
      if b = true then te σ2 H3 (LcEl K L D (S (i + 1))) else LcNo K L D (S (i + 1)) H3)
    (hd : ∀ D acc cs H, S n acc cs → Wd K H L ((D, .dl acc) :: cs) → Q (.ref D) H) : lcBody (Itr lo n) g tt te vs σ H Q := by
  intro D hD
  refine lc_it walk_range (fun i H => LcNo K L D (S i) H) ⟨[], cs, h0, W.newL hD .nil⟩ (fun i H _ _ => trivial) (fun i v H H' hi ⟨acc, cs, s, W⟩ y => ?_) fun H ⟨acc, cs, s, W⟩ => hd D acc cs H s W
  obtain ⟨rfl, rfl⟩ := y
  exact hs D i acc cs _ hi s W
def kD : L2.Key → PyData
  | .inl i => .int i
  | .inr s => .str s
theorem hasA_key {k : List L2.Key} : HasA L (k.map kV) (k.map kD) := by
  induction k with
  | nil => exact .nil
  | cons a r ih =>
    refine .cons ?_ ih
    cases a
    · exact .int
    · exact .str
def noTup (cs : Cs) : Prop := ∀ c ∈ cs, ∀ xs, c.2 ≠ .raw (.tup xs)
/-- an object that is known to stand, and is no cell -/
theorem Wd.know {q : Addr} {xs : List V} (W : Wd K H L cs) (hq : H q = some (.tup xs)) (hn : noTup cs) (ha : HasA L xs ds) : Wd K H ((.ref q, .tuple ds) :: L) cs := by
  obtain ⟨H0, e0, hl, hc⟩ := W.ok
  have hne : ∀ c ∈ cs, c.1 ≠ q := fun c m e => by
    have h := (hc c m).2
    have hn := hn c m
    revert h
    cases h2 : c.2 with
    | dl es =>
      rintro ⟨ys, h3, _⟩
      rw [e, hq] at h3
      cases h3
    | raw o =>
      intro h3
      have h3 : H c.1 = some o := h3
      rw [e, hq] at h3
      cases h3
      exact hn xs h2
  have e1 : Ex H0 (upd H0 q (.tup xs)) := fun b u z => by
    by_cases hb : b = q
    · subst hb
      have := e0 _ _ z
      rw [hq] at this
      rw [upd_same]
      exact this
    · rw [upd_ne hb]; exact z
  refine ⟨⟨upd H0 q (.tup xs), fun b u z => ?_, fun p m => ?_, fun c m => ?_⟩, W.nd⟩
  · by_cases hb : b = q
    · subst hb
      rw [upd_same] at z
      rw [hq]; exact z
    · rw [upd_ne hb] at z; exact e0 _ _ z
  · rcases List.mem_cons.mp m with rfl | m
    · exact .tup (.inl (.inl upd_same)) (dpAll_ex e1 _ _ (hasA_dp hl ha))
    · exact dp_ex e1 _ _ (hl _ m)
  · exact ⟨by rw [upd_ne (hne c m)]; exact (hc c m).1, (hc c m).2.mono e1 fun o z => z⟩
/-- [.. for .. in dict with tuple keys], locked -/
theorem w_lcKT {kvs : List (List L2.Key × V)} {o : Obj} (S : Nat → List PyData → Cs → Prop) (W : Wd K H L cs) (h0 : S 0 [] cs) (hR : ∀ i acc cs, S i acc cs → (a, CO.raw (.frz o (.dT kvs))) ∈ cs) (hN : ∀ i acc cs, S i acc cs → noTup cs)
    (hs : ∀ D i q k v acc cs H, kvs[i]? = some (k, v) → S i acc cs → H q = some (.tup (k.map kV)) → Wd K H ((.ref q, .tuple (k.map kD)) :: L) ((D, .dl acc) :: cs) → g (.ref q) (wipe σ vs) H fun σ2 H2 => wipe σ2 vs = wipe σ vs ∧ tt σ2 H2 fun b H3 =>
      if b = true then te σ2 H3 (LcEl K L D (S (i + 1))) else LcNo K L D (S (i + 1)) H3)
    (hd : ∀ D acc cs H, S kvs.length acc cs → Wd K H L ((D, .dl acc) :: cs) → Q (.ref D) H) : lcBody (Itkt a o kvs) g tt te vs σ H Q := by
  intro D hD
  refine lc_it walk_keysT (fun i H => LcNo K L D (S i) H) ⟨[], cs, h0, W.newL hD .nil⟩ (fun i H _ ⟨acc, cs, s, W⟩ => W.at (List.mem_cons_of_mem _ (hR _ _ _ s))) (fun i v H H' hi ⟨acc, cs, s, W⟩ y => ?_) fun H ⟨acc, cs, s, W⟩ => hd D acc cs H s W
  obtain ⟨rfl, k, v, q, h1, rfl, h2⟩ := y
  refine hs D i q k v acc cs _ h1 s h2 (W.know h2 (fun c m xs => ?_) hasA_key)
  rcases List.mem_cons.mp m with rfl | m
  · intro z; cases z
  · exact hN _ _ _ s c m xs
/-- [.. for .. in zip(list, list)] -/
theorem w_lcZ (S : Nat → List PyData → Cs → Prop) (W : Wd K H L cs) (h0 : S 0 [] cs) (hR : ∀ i acc cs, S i acc cs → Rdb L cs (.ref a) (.list ds)) (hR2 : ∀ i acc cs, S i acc cs → Rdb L cs (.ref b) (.list es)) (hl : ds.length = es.length)
    (hs : ∀ D i q d e acc cs H, ds[i]? = some d → es[i]? = some e → S i acc cs → Wd K H ((.ref q, .tuple [d, e]) :: L) ((D, .dl acc) :: cs) → g (.ref q) (wipe σ vs) H fun σ2 H2 => wipe σ2 vs = wipe σ vs ∧ tt σ2 H2 fun b H3 =>
      if b = true then te σ2 H3 (LcEl K L D (S (i + 1))) else LcNo K L D (S (i + 1)) H3)
    (hd : ∀ D acc cs H, S ds.length acc cs → Wd K H L ((D, .dl acc) :: cs) → Q (.ref D) H) : lcBody (Itz K a b) g tt te vs σ H Q := by
  intro D hD
  have w : Walk (Itz K a b) ds.length (fun H => GL K a ds H ∧ GL K b es H) (fun i H v H' => ∃ T x y, v = .ref T ∧ H T = none ∧ H' = upd H T (.tup [x, y]) ∧ (∀ xs, SqL K H a xs → xs[i]? = some x) ∧ ∀ ys, SqL K H b ys → ys[i]? = some y) := by
    refine ⟨fun i H hi ⟨⟨L, cs, W, h⟩, ⟨L2, cs2, W2, h2⟩⟩ => ?_, fun H ⟨⟨L, cs, W, h⟩, ⟨L2, cs2, W2, h2⟩⟩ => ?_, fun i H x H' hi _ y => y⟩
    · obtain ⟨a', xs, e, h1, h3, _⟩ := W.items h
      cases e
      obtain ⟨b', ys, e, h4, h5, _⟩ := W2.items h2
      cases e
      exact ⟨xs, ys, xs[i]'(by omega), ys[i]'(by omega), h1, h4, by simp, by simp⟩
    · obtain ⟨a', xs, e, h1, h3, _⟩ := W.items h
      cases e
      obtain ⟨b', ys, e, h4, h5, _⟩ := W2.items h2
      cases e
      exact ⟨xs, ys, h1, h4, .inl (by omega)⟩
  refine lc_it w (fun i H => LcNo K L D (S i) H) ⟨[], cs, h0, W.newL hD .nil⟩ (fun i H _ ⟨acc, cs, s, W⟩ => ⟨⟨L, _, W, (hR _ _ _ s).ct⟩, ⟨L, _, W, (hR2 _ _ _ s).ct⟩⟩) (fun i v H H' hi ⟨acc, cs, s, W⟩ y => ?_) fun H ⟨acc, cs, s, W⟩ => hd D acc cs H s W
  obtain ⟨T, x, y, rfl, hT, rfl, h1, h2⟩ := y
  obtain ⟨d, h3, W⟩ := W.itemAt (hR _ _ _ s).ct h1
  obtain ⟨e, h4, W⟩ := W.itemAt ((hR2 _ _ _ s).ct.tl) h2
  have W2 := W.newT hT (xs := [x, y]) (ds := [d, e]) (.cons Has.hd.tl (.cons Has.hd .nil))
  refine hs D i T d e acc cs _ h3 h4 s (W2.sub fun p hp => ?_)
  rcases List.mem_cons.mp hp with rfl | hp
  · simp
  · simp [hp]
/-- for .. in list -/
theorem w_forL {K' : PySem.W.Frag} (e : K' = K) {tb : TS} {E : Ends} (S : Nat → L2.St → Lk → Cs → Prop) (W : Wd K H L cs) (h0 : S 0 σ L cs) (hR : ∀ i σ L cs, S i σ L cs → Rdb L cs x (.list ds))
    (hs : ∀ i v d σ L cs H, ds[i]? = some d → S i σ L cs → Wd K H ((v, d) :: L) cs → g v σ H fun σ2 H2 => tb { E with nx := StN K (S (i + 1)), ct := StN K (S (i + 1)), bk := E.nx } σ2 H2)
    (hd : ∀ σ L cs H, S ds.length σ L cs → Wd K H L cs → E.nx σ H) : rListIt K' x H fun J H1 => forBody J g tb E σ H1 := by
  subst e
  obtain ⟨a, xs, rfl, h1, h2, _⟩ := W.items (hR _ _ _ _ h0)
  refine ⟨a, rfl, ⟨xs, h1⟩, ?_⟩
  refine for_it walkL (fun i σ H => StN K' (S i) σ H) ⟨L, cs, h0, W⟩ (fun i σ H _ ⟨L, cs, s, W⟩ => ⟨L, cs, W, hR _ _ _ _ s⟩) (fun i v σ H H' hi ⟨L, cs, s, W⟩ y => ?_) fun σ H ⟨L, cs, s, W⟩ => hd σ L cs H s W
  obtain ⟨rfl, y⟩ := y
  obtain ⟨d, h3, W⟩ := y _ _ W (hR _ _ _ _ s)
  exact hs i v d σ L cs _ h3 s W
theorem w_forT {K' : PySem.W.Frag} (e : K' = K) {tb : TS} {E : Ends} (S : Nat → L2.St → Lk → Cs → Prop) (W : Wd K H L cs) (h0 : S 0 σ L cs) (hR : ∀ i σ L cs, S i σ L cs → Has L x (.tuple ds))
    (hs : ∀ i v d σ L cs H, ds[i]? = some d → S i σ L cs → Wd K H ((v, d) :: L) cs → g v σ H fun σ2 H2 => tb { E with nx := StN K (S (i + 1)), ct := StN K (S (i + 1)), bk := E.nx } σ2 H2)
    (hd : ∀ σ L cs H, S ds.length σ L cs → Wd K H L cs → E.nx σ H) : rTupIt K' x H fun J H1 => forBody J g tb E σ H1 := by
  subst e
  obtain ⟨a, xs, rfl, h1, h2, _⟩ := W.itemsT (hR _ _ _ _ h0)
  refine ⟨a, rfl, ⟨xs, h1⟩, ?_⟩
  refine for_it walkT (fun i σ H => StN K' (S i) σ H) ⟨L, cs, h0, W⟩ (fun i σ H _ ⟨L, cs, s, W⟩ => ⟨L, cs, W, hR _ _ _ _ s⟩) (fun i v σ H H' hi ⟨L, cs, s, W⟩ y => ?_) fun σ H ⟨L, cs, s, W⟩ => hd σ L cs H s W
  obtain ⟨rfl, y⟩ := y
  obtain ⟨d, h3, W⟩ := y _ _ W (hR _ _ _ _ s)
  exact hs i v d σ L cs _ h3 s W
theorem w_forR {lo : Int} {n : Nat} {tb : TS} {E : Ends} (S : Nat → L2.St → Lk → Cs → Prop) (W : Wd K H L cs) (h0 : S 0 σ L cs)
    (hs : ∀ i σ L cs H, i < n → S i σ L cs → Wd K H L cs → g (.int (lo + (i : Nat))) σ H fun σ2 H2 => tb { E with nx := StN K (S (i + 1)), ct := StN K (S (i + 1)), bk := E.nx } σ2 H2)
    (hd : ∀ σ L cs H, S n σ L cs → Wd K H L cs → E.nx σ H) : forBody (Itr lo n) g tb E σ H := by
  refine for_it walk_range (fun i σ H => StN K (S i) σ H) ⟨L, cs, h0, W⟩ (fun i σ H _ _ => trivial) (fun i v σ H H' hi ⟨L, cs, s, W⟩ y => ?_) fun σ H ⟨L, cs, s, W⟩ => hd σ L cs H s W
  obtain ⟨rfl, rfl⟩ := y
  exact hs i σ L cs _ hi s W
/-- taking a tuple apart -/
theorem Wd.tupA (W : Wd K H L cs) (h : Has L v (.tuple ds)) : ∃ a xs, v = .ref a ∧ SqT K H a xs ∧ xs.length = ds.length ∧ Wd K H (xs.zip ds ++ L) cs := W.itemsT h
end
end Wb

/-! Wr5: ==, in, sorted, max of data without any premise on texts. -/
namespace Wb
open PySem L2 PySem.Spec PyProof.Rows
mutual
theorem dp_plain {K : PySem.W.Frag} {H : Hp} : ∀ (d : PyData) (v : V), Dp K H v d → d.plain = true
  | .none, _, _ => rfl
  | .bool b, _, _ => rfl
  | .int i, _, _ => rfl
  | .str x, _, _ => rfl
  | .list ds, _, h => by
    cases h with
    | lst hs ha => simp only [PyData.plain]; exact dpAll_plain ds _ ha
  | .tuple ds, _, h => by
    cases h with
    | tup hs ha => simp only [PyData.plain]; exact dpAll_plain ds _ ha
  | .dict _, _, h => by cases h
theorem dpAll_plain {K : PySem.W.Frag} {H : Hp} : ∀ (ds : List PyData) (vs : List V), DpAll K H vs ds → PyData.plainAll ds = true
  | [], _, _ => by simp [PyData.plainAll]
  | d :: ds, _, h => by
    cases h with
    | cons h1 h2 => simp only [PyData.plainAll, dp_plain d _ h1, dpAll_plain ds _ h2, Bool.and_self]
end
section
variable {X : Cx}
def rEqP (K : PySem.W.Frag) : R2 := fun x y H Q => ∃ d e, Dp K H x d ∧ Dp K H y e ∧ d.depth ≤ 60 ∧ Q (.bl (PyData.eqv d e)) H
def rNeP (K : PySem.W.Frag) : R2 := fun x y H Q => ∃ d e, Dp K H x d ∧ Dp K H y e ∧ d.depth ≤ 60 ∧ Q (.bl (!PyData.eqv d e)) H
def rInP (K : PySem.W.Frag) (neg : Bool) : R2 := fun x y H Q => ∃ d ds, Dp K H x d ∧ (Dp K H y (.list ds) ∨ Dp K H y (.tuple ds)) ∧ PyData.depthAll ds ≤ 60 ∧ Q (.bl (if neg then !ds.any (fun z => PyData.eqv z d) else ds.any fun z => PyData.eqv z d)) H
theorem op_eqP (hu : X.A.units + 64 < cLine) : OpR X (compareOp .Eq) (rEqP X.K) := by
  intro pins s σ H x y v u Q I rx ry h
  obtain ⟨d, e, hd, he, hz, q⟩ := h
  obtain ⟨as, r1⟩ := Dp.reads I d x v hd rx
  obtain ⟨bs, r2⟩ := Dp.reads I e y u he ry
  exact SeqAt.eq_plain r1 r2 (dp_plain _ _ hd) (dp_plain _ _ he) (by have := Nat.min_le_left d.depth e.depth; omega) ⟨.bl _, H, I, rfl, q⟩
theorem op_neP (hu : X.A.units + 64 < cLine) : OpR X (compareOp .NotEq) (rNeP X.K) := by
  intro pins s σ H x y v u Q I rx ry h
  obtain ⟨d, e, hd, he, hz, q⟩ := h
  obtain ⟨as, r1⟩ := Dp.reads I d x v hd rx
  obtain ⟨bs, r2⟩ := Dp.reads I e y u he ry
  exact SeqAt.ne_plain r1 r2 (dp_plain _ _ hd) (dp_plain _ _ he) (by have := Nat.min_le_left d.depth e.depth; omega) ⟨.bl _, H, I, rfl, q⟩
theorem op_inP (hu : X.A.units + 65 < cLine) : OpR X (compareOp .In) (rInP X.K false) := by
  intro pins s σ H x y v u Q I rx ry h
  obtain ⟨d, ds, hd, he, hz, q⟩ := h
  obtain ⟨as, r1⟩ := Dp.reads I d x v hd rx
  rcases he with he | he
  · obtain ⟨bs, r2⟩ := Dp.reads I _ y u he ry
    have hp := dp_plain _ _ he
    simp only [PyData.plain] at hp
    exact SeqAt.in_list_data r2 r1 hp (dp_plain _ _ hd) (by have := Nat.min_le_left (PyData.depthAll ds) d.depth; omega) ⟨.bl _, H, I, rfl, q⟩
  · obtain ⟨bs, r2⟩ := Dp.reads I _ y u he ry
    have hp := dp_plain _ _ he
    simp only [PyData.plain] at hp
    exact SeqAt.in_tuple_data r2 r1 hp (dp_plain _ _ hd) (by have := Nat.min_le_left (PyData.depthAll ds) d.depth; omega) ⟨.bl _, H, I, rfl, q⟩
theorem op_notInP (hu : X.A.units + 65 < cLine) : OpR X (compareOp .NotIn) (rInP X.K true) := by
  intro pins s σ H x y v u Q I rx ry h
  obtain ⟨d, ds, hd, he, hz, q⟩ := h
  obtain ⟨as, r1⟩ := Dp.reads I d x v hd rx
  rcases he with he | he
  · obtain ⟨bs, r2⟩ := Dp.reads I _ y u he ry
    have hp := dp_plain _ _ he
    simp only [PyData.plain] at hp
    exact SeqAt.notIn_list_data r2 r1 hp (dp_plain _ _ hd) (by have := Nat.min_le_left (PyData.depthAll ds) d.depth; omega) ⟨.bl _, H, I, rfl, q⟩
  · obtain ⟨bs, r2⟩ := Dp.reads I _ y u he ry
    have hp := dp_plain _ _ he
    simp only [PyData.plain] at hp
    exact SeqAt.notIn_tuple_data r2 r1 hp (dp_plain _ _ hd) (by have := Nat.min_le_left (PyData.depthAll ds) d.depth; omega) ⟨.bl _, H, I, rfl, q⟩
end
section
variable {K : PySem.W.Frag} {H : Hp} {L : Lk} {cs : Cs} {x y : V} {Q : VK} {α : Type} [DecidableEq α]
abbrev toD {α : Type} [DecidableEq α] [PySem.W.Datum α] (a : α) : PyData := PySem.W.Datum.toD a
theorem eqv_toD [PySem.W.Datum α] (a b : α) : PyData.eqv (toD a) (toD b) = decide (a = b) := PySem.W.Datum.eqv a b
theorem any_toD [PySem.W.Datum α] (xs : List α) (a : α) : ((xs.map toD).any fun d => PyData.eqv d (toD a)) = decide (a ∈ xs) := PySem.W.any_datum xs a
theorem w_eqT [PySem.W.Datum α] {a b : α} (W : Wd K H L cs) (h1 : Rdb L cs x (toD a)) (h2 : Rdb L cs y (toD b)) (hz : PySem.W.Datum.depth α ≤ 60) (k : Q (.bl (decide (a = b))) H) : rEqP K x y H Q :=
  ⟨_, _, W.rd h1, W.rd h2, Nat.le_trans (PySem.W.Datum.depth_le a) hz, by rw [eqv_toD]; exact k⟩
theorem w_neT [PySem.W.Datum α] {a b : α} (W : Wd K H L cs) (h1 : Rdb L cs x (toD a)) (h2 : Rdb L cs y (toD b)) (hz : PySem.W.Datum.depth α ≤ 60) (k : Q (.bl (!decide (a = b))) H) : rNeP K x y H Q :=
  ⟨_, _, W.rd h1, W.rd h2, Nat.le_trans (PySem.W.Datum.depth_le a) hz, by rw [eqv_toD]; exact k⟩
theorem depthAll_le [PySem.W.Datum α] : ∀ xs : List α, PyData.depthAll (xs.map toD) ≤ PySem.W.Datum.depth α := PySem.W.depthAll_map
theorem w_inT [PySem.W.Datum α] {neg : Bool} {a : α} {xs : List α} (W : Wd K H L cs) (h1 : Rdb L cs x (toD a)) (h2 : Rdb L cs y (.list (xs.map toD))) (hz : PySem.W.Datum.depth α ≤ 60) (k : Q (.bl (if neg then !decide (a ∈ xs) else decide (a ∈ xs))) H) : rInP K neg x y H Q :=
  ⟨_, _, W.rd h1, .inl (W.rd h2), Nat.le_trans (depthAll_le xs) hz, by rw [any_toD]; exact k⟩
theorem w_inTt [PySem.W.Datum α] {neg : Bool} {a : α} {xs : List α} (W : Wd K H L cs) (h1 : Rdb L cs x (toD a)) (h2 : Has L y (.tuple (xs.map toD))) (hz : PySem.W.Datum.depth α ≤ 60) (k : Q (.bl (if neg then !decide (a ∈ xs) else decide (a ∈ xs))) H) : rInP K neg x y H Q :=
  ⟨_, _, W.rd h1, .inr (W.now h2), Nat.le_trans (depthAll_le xs) hz, by rw [any_toD]; exact k⟩
/-! the order -/
class DTot (α : Type) [DecidableEq α] [PySem.W.DatumOrd α] : Prop where
  anti : ∀ a b : α, PySem.W.DatumOrd.lt a b = false → PySem.W.DatumOrd.lt b a = false → a = b
instance : DTot Int := ⟨fun a b h1 h2 => by
  have h1 : decide (a < b) = false := h1
  have h2 : decide (b < a) = false := h2
  simp at h1 h2
  omega⟩
theorem lnat_anti : ∀ a b : List Nat, ¬ a < b → ¬ b < a → a = b
  | [], [], _, _ => rfl
  | [], b :: t, h, _ => absurd (List.nil_lt_cons b t) h
  | a :: r, [], _, h => absurd (List.nil_lt_cons a r) h
  | a :: r, b :: t, h1, h2 => by
    rw [List.cons_lt_cons_iff] at h1 h2
    have e : a = b := by omega
    subst e
    rw [lnat_anti r t (fun q => h1 (.inr ⟨rfl, q⟩)) fun q => h2 (.inr ⟨rfl, q⟩)]
instance : DTot Str := ⟨fun a b h1 h2 => by
  have h1 : decide (a.cps.toList < b.cps.toList) = false := h1
  have h2 : decide (b.cps.toList < a.cps.toList) = false := h2
  have h3 : ¬ a.cps.toList < b.cps.toList := of_decide_eq_false h1
  have h4 : ¬ b.cps.toList < a.cps.toList := of_decide_eq_false h2
  exact PySem.W.str_of_cps (lnat_anti _ _ h3 h4)⟩
instance {α : Type} [DecidableEq α] [PySem.W.DatumOrd α] [DTot α] : DTot (List α) := ⟨fun a b h1 h2 => by
  have h1 : PySem.W.listLt a b = false := h1
  have h2 : PySem.W.listLt b a = false := h2
  induction a generalizing b with
  | nil =>
    cases b with
    | nil => rfl
    | cons y ys => simp [PySem.W.listLt] at h1
  | cons x xs ih =>
    cases b with
    | nil => simp [PySem.W.listLt] at h2
    | cons y ys =>
      simp only [PySem.W.listLt] at h1 h2
      by_cases e : x = y
      · subst e
        rw [if_pos rfl] at h1 h2
        rw [ih ys h1 h2 h1 h2]
      · rw [if_neg e] at h1
        rw [if_neg (fun q => e q.symm)] at h2
        exact absurd (DTot.anti x y h1 h2) e⟩
instance {α β : Type} [DecidableEq α] [PySem.W.DatumOrd α] [DTot α] [DecidableEq β] [PySem.W.DatumOrd β] [DTot β] : DTot (α × β) := ⟨fun a b h1 h2 => by
  have h1 : (if a.1 = b.1 then PySem.W.DatumOrd.lt a.2 b.2 else PySem.W.DatumOrd.lt a.1 b.1) = false := h1
  have h2 : (if b.1 = a.1 then PySem.W.DatumOrd.lt b.2 a.2 else PySem.W.DatumOrd.lt b.1 a.1) = false := h2
  by_cases e : a.1 = b.1
  · rw [if_pos e] at h1
    rw [if_pos e.symm] at h2
    exact Prod.ext e (DTot.anti _ _ h1 h2)
  · rw [if_neg e] at h1
    rw [if_neg (fun q => e q.symm)] at h2
    exact absurd (DTot.anti _ _ h1 h2) e⟩
/-- Python's sorted -/
def srt {α : Type} [DecidableEq α] [PySem.W.DatumOrd α] (xs : List α) : List α := xs.mergeSort fun a b => !PySem.W.DatumOrd.lt b a
theorem srt_perm [PySem.W.DatumOrd α] (xs : List α) : (srt xs).Perm xs := List.mergeSort_perm _ _
theorem srt_toD [PySem.W.DatumOrd α] (xs : List α) : (xs.map toD).mergeSort (PySem.W.dataLe false id) = (srt xs).map toD := by
  unfold srt
  refine (List.map_mergeSort fun a _ b _ => ?_).symm
  show (!PySem.W.DatumOrd.lt b a) = !PySem.W.dataLt (toD b) (toD a)
  rw [PySem.W.DatumOrd.lt_eq]
theorem srt_sorted [PySem.W.DatumOrd α] (xs : List α) : ((srt xs).map toD).Pairwise (fun a b => PySem.W.dataLe false id a b = true) := by
  rw [← srt_toD]
  exact List.pairwise_mergeSort (PySem.W.sortLe_total _ _ _).trans (fun a b => by
    have := (PySem.W.sortLe_total (PyProof.Rows.listOrd PyProof.Rows.itemOrd) false fun b : PyData => PySem.W.keyToks (id b)).total a b
    simpa using this) _
theorem srt_one [PySem.W.DatumOrd α] [DTot α] {xs ys : List α} (h : xs.Perm ys) : srt xs = srt ys := by
  have h1 : (srt xs).Pairwise (fun a b => PySem.W.DatumOrd.lt b a = false) := (List.pairwise_map.mp (srt_sorted xs)).imp fun {a b} q => by
    have q : (!PySem.W.dataLt (toD b) (toD a)) = true := q
    rw [PySem.W.DatumOrd.lt_eq] at q
    simpa using q
  have h2 : (srt ys).Pairwise (fun a b => PySem.W.DatumOrd.lt b a = false) := (List.pairwise_map.mp (srt_sorted ys)).imp fun {a b} q => by
    have q : (!PySem.W.dataLt (toD b) (toD a)) = true := q
    rw [PySem.W.DatumOrd.lt_eq] at q
    simpa using q
  exact List.Perm.eq_of_pairwise (fun a b _ _ h3 h4 => DTot.anti a b h4 h3) h1 h2 ((srt_perm xs).trans (h.trans (srt_perm ys).symm))
theorem srt_iff [PySem.W.DatumOrd α] [DTot α] {xs ys : List α} : srt xs = srt ys ↔ xs.Perm ys := ⟨fun h => (srt_perm xs).symm.trans (h ▸ srt_perm ys), srt_one⟩
theorem paired_zip {P : V → PyData → Prop} : ∀ {vs : List V} {ds : List PyData}, vs.length = ds.length → (∀ p ∈ vs.zip ds, P p.1 p.2) → Paired P vs ds
  | [], [], _, _ => .nil
  | [], _ :: _, h, _ => by simp at h
  | _ :: _, [], h, _ => by simp at h
  | v :: vs, d :: ds, h, m => .cons (m (v, d) (by simp)) (paired_zip (by simpa using h) fun p hp => m p (by simp [hp]))
theorem hasA_paired {L : Lk} : ∀ {vs : List V} {ds : List PyData}, Paired (fun v d => (v, d) ∈ L) vs ds → HasA L vs ds
  | _, _, .nil => .nil
  | _, _, .cons h t => .cons (.inl h) (hasA_paired t)
theorem alike_toD [PySem.W.DatumOrd α] (xs : List α) : PySem.W.AlikeAll (xs.map toD) := PySem.W.alikeAll_datum xs
theorem w_sorted [PySem.W.DatumOrd α] {xs : List α} (W : Wd K H L cs) (h : Rdb L cs x (.list (xs.map toD))) (hs : PySem.W.Sortable (xs.map toD)) (hz : PySem.W.Datum.depth α ≤ 60)
    (k : ∀ p H', Wd K H' L ((p, .dl ((srt xs).map toD)) :: cs) → Q (.ref p) H') : rSortedD K [x] H Q := by
  obtain ⟨a, vs, rfl, h1, h2, W2⟩ := W.items h
  refine ⟨fun v d => (v, d) ∈ vs.zip (xs.map toD) ++ L, a, vs, _, rfl, h1, paired_zip h2 fun p hp => List.mem_append_left _ hp, fun v d hp => W2.now (.inl hp), (alike_toD xs).1, hs, fun d hd => ?_, fun ys p hy hp => ?_⟩
  · obtain ⟨b, _, rfl⟩ := List.mem_map.mp hd
    exact Nat.le_trans (PySem.W.Datum.depth_le b) hz
  · rw [srt_toD] at hy
    exact k p _ ((W2.newL hp (hasA_paired hy)).sub fun q hq => List.mem_append_right _ hq)
theorem sortable_str (xs : List Str) : PySem.W.Sortable (xs.map toD) := PySem.W.Sortable.others fun b => ⟨(fun e => by cases e), (fun _ e => by cases e)⟩
theorem sortable_int (xs : List Int) : PySem.W.Sortable (xs.map toD) := PySem.W.Sortable.others fun b => ⟨(fun e => by cases e), (fun _ e => by cases e)⟩
theorem sortable_pair {α β : Type} [DecidableEq α] [DecidableEq β] [PySem.W.DatumOrd α] [PySem.W.DatumOrd β] (xs : List (α × β)) : PySem.W.Sortable (xs.map toD) := PySem.W.Sortable.tuples fun b => ⟨_, _, rfl⟩
/-! max(.., default=) of ints -/
theorem foldl_max (ns : List Int) : ∀ n : Int, (ns.foldl max n = n ∨ ns.foldl max n ∈ ns) ∧ n ≤ ns.foldl max n ∧ ∀ m ∈ ns, m ≤ ns.foldl max n := by
  induction ns with
  | nil => intro n; exact ⟨.inl rfl, Int.le_refl _, fun m h => by cases h⟩
  | cons a r ih =>
    intro n
    obtain ⟨h1, h2, h3⟩ := ih (max n a)
    rw [List.foldl_cons]
    refine ⟨?_, by omega, fun m hm => ?_⟩
    · rcases h1 with h1 | h1
      · rw [h1]
        by_cases q : n ≤ a
        · right; rw [Int.max_eq_right q]; exact List.mem_cons_self
        · left; exact Int.max_eq_left (by omega)
      · right; exact List.mem_cons_of_mem _ h1
    · rcases List.mem_cons.mp hm with rfl | hm
      · omega
      · exact h3 m hm
theorem w_maxI {ns : List Int} {z : V} (W : Wd K H L cs) (h : Rdb L cs x (.list (ns.map .int))) (k0 : ns = [] → Q z H) (k1 : ∀ n ∈ ns, (∀ m ∈ ns, m ≤ n) → Q (.int n) H) : rMxD PySem.W.maxD K [x] [z] H Q := by
  obtain ⟨a, xs, rfl, h1, h2⟩ := dp_lst (W.rd h)
  refine ⟨a, xs, _, z, rfl, rfl, h1, h2, alikeAll_ints ns, ?_, fun e => k0 (by simpa using e), fun y ys i v e hv hm => ?_⟩
  · have : ∀ l : List Int, PyData.depthAll (l.map .int) = 0 := fun l => by
      induction l with
      | nil => simp [PyData.depthAll]
      | cons a r ih => simp [PyData.depthAll, PyData.depth, ih]
    rw [this]; exact Nat.zero_le _
  · cases ns with
    | nil => cases e
    | cons n r =>
      rw [List.map_cons] at e
      injection e with e1 e2
      subst e1 e2
      rw [PySem.W.maxD_ints] at hm
      rw [of_ints h2] at hv
      obtain ⟨q1, q2, q3⟩ := foldl_max r n
      have e3 : v = .int (r.foldl max n) := by
        rw [List.getElem?_map] at hv hm
        cases e4 : (n :: r)[i]? with
        | none => rw [e4] at hv; cases hv
        | some u =>
          rw [e4] at hv hm
          cases hv
          have hm : some (PyData.int u) = some (PyData.int _) := hm
          injection hm with hm
          injection hm with hm
          rw [hm]
      rw [e3]
      refine k1 _ ?_ fun m hm => ?_
      · rcases q1 with q1 | q1
        · rw [q1]; exact List.mem_cons_self
        · exact List.mem_cons_of_mem _ q1
      · rcases List.mem_cons.mp hm with rfl | hm
        · exact q2
        · exact q3 m hm
end
theorem boot_max : bootBuiltins "max" = some (.builtin "max") := by decide +kernel
theorem boot_min : bootBuiltins "min" = some (.builtin "min") := by decide +kernel
end Wb

/-! Wr6: rules whose reading names the written part, with K told (for use within comprehensions). -/
namespace Wb
open PySem L2 PySem.Spec PyProof.Rows
section
variable {X : Cx} {K : PySem.W.Frag}
theorem inP_K (e : X.K = K) (hu : X.A.units + 65 < cLine) : OpR X (compareOp .In) (rInP K false) := e ▸ op_inP hu
theorem notInP_K (e : X.K = K) (hu : X.A.units + 65 < cLine) : OpR X (compareOp .NotIn) (rInP K true) := e ▸ op_notInP hu
theorem eqP_K (e : X.K = K) (hu : X.A.units + 64 < cLine) : OpR X (compareOp .Eq) (rEqP K) := e ▸ op_eqP hu
theorem neP_K (e : X.K = K) (hu : X.A.units + 64 < cLine) : OpR X (compareOp .NotEq) (rNeP K) := e ▸ op_neP hu
theorem inS_K (e : X.K = K) : OpR X (compareOp .In) (rIn K false) := e ▸ op_in_seq
theorem notInS_K (e : X.K = K) : OpR X (compareOp .NotIn) (rIn K true) := e ▸ op_notIn_seq
theorem catD_K (e : X.K = K) : OpR X (binaryOp .Add) (rCatD K) := e ▸ op_catD
theorem ixL_K (e : X.K = K) : IxR X (rIxL K) := e ▸ ix_list
theorem ixT_K (e : X.K = K) : IxR X (rIxT K) := e ▸ ix_tup
theorem slL_K (e : X.K = K) : L2.SlR X (rSlL K) := e ▸ sl_list
theorem slT_K (e : X.K = K) : L2.SlR X (rSlT K) := e ▸ sl_tup
theorem len_K (e : X.K = K) : CallR X (.builtin "len") (rLen K) := e ▸ cr_len
theorem sorted_K (e : X.K = K) {k : Nat} (hr : Room k X.A) : CallR X (.builtin "sorted") (rSortedD K) := e ▸ cr_sortedD hr
theorem max_K (e : X.K = K) {k : Nat} (hr : Room k X.A) : CallRK X (.builtin "max") [Str.ofString "default"] (rMxD PySem.W.maxD K) := e ▸ max_ok hr
theorem min_K (e : X.K = K) {k : Nat} (hr : Room k X.A) : CallRK X (.builtin "min") [Str.ofString "default"] (rMxD PySem.W.minD K) := e ▸ min_ok hr
theorem isi_K (e : X.K = K) : CallR X (.builtin "isinstance") (rIsi K) := e ▸ call_isi
variable {ex tg l o e1 e2 : Expr} {es : List Expr} {ta tl to : TE} {t : TA} {f name : Str} {pos apos cpos p tpos : Pos} {T id : String} {r : V → List V → Hp → VK → Prop} {kk n : Nat} {elts : List Expr} {tgs : TGs}
theorem pe_fldK (e : X.K = K) (he : PE X ex ta) (hb : attributeBase ex f X.env (eval ex X.env) = eval ex X.env) : PE X (.Attribute ex f pos) (tFld K ta f) := e ▸ pe_fld he hb
theorem pi_listK (e : X.K = K) (h : PE X l tl) : PI X tg l (iList K tl) := e ▸ pi_list h
theorem pi_tupK (e : X.K = K) (h : PE X l tl) : PI X tg l (iTup K tl) := e ▸ pi_tup h
theorem pi_zipK (e : X.K = K) (hg : Gl X "zip") (hm : X.mg "zip" = none) (ha : PA X [e1, e2] t)
    (hs : starEach [e1, e2] X.env = (false, eval e1 X.env) :: starEach [e2] X.env := by rfl) (hpl : (backTo pos (starEach [e2] X.env)).any (·.1) = false := by rfl) :
    PI X (.Tuple elts kk tpos) (.Call (.Name "zip" p) [e1, e2] [] pos) (iZip K t) := e ▸ pi_zip hg hm ha hs hpl
theorem pg_tupK (e : X.K = K) (hc : X.calm = true) (h : PGs X es tgs)
    (hn : (assignEach es X.env).length = n := by rfl) (hst : (assignEach es X.env).findIdx? (·.1) = none := by rfl) : PG X (.Tuple es kk pos) (gTup K n tgs) := e ▸ pg_tup hc h hn hst
theorem pe_bmK (hk : X.K = K) (pa : PlainAttrs T) (slot : Slot T name id) (hty : typeOf (.builtin id) = pure (.type "method_descriptor")) (hm : MtR X id r) (ho : PE X o to) (ha : PA X (ex :: es) t)
    (hbase : attributeBase o name X.env (eval o X.env) = eval o X.env := by rfl)
    (hfew : ((backTo cpos (starEach (ex :: es) X.env)).all (fun x => !x.1) && (backToKw cpos (keywordEach [] X.env)).all (fun x => x.1.isSome)
      && decide ((ex :: es).length + ([] : List Keyword).length + (if ([] : List Keyword).isEmpty then 0 else 1) < 30)) = true := by rfl)
    (hline : (apos.endLine == cpos.line) = true := by rfl) (hs : starEach (ex :: es) X.env = (false, eval ex X.env) :: starEach es X.env := by rfl) (hplain : (backTo cpos (starEach es X.env)).any (·.1) = false := by rfl) :
    PE X (.Call (.Attribute o name apos) (ex :: es) [] cpos) (tBM K T r to t) := hk ▸ pe_bm pa slot hty hm ho ha hbase hfew hline hs hplain
theorem pe_bm0K' (hk : X.K = K) (pa : PlainAttrs T) (slot : Slot T name id) (hty : typeOf (.builtin id) = pure (.type "method_descriptor")) (hm : MtR X id r) (ho : PE X o to)
    (hbase : attributeBase o name X.env (eval o X.env) = eval o X.env := by rfl) (hline : (apos.endLine == cpos.line) = true := by rfl) : PE X (.Call (.Attribute o name apos) [] [] cpos) (tBM0 K T r to) := hk ▸ pe_bm0 pa slot hty hm ho hbase hline
end
end Wb
namespace Wb
open PySem L2
theorem kit_no {K : PySem.W.Frag} {C : Addr} {n : String} (hc : PySem.W.isClsIn K C = true) (ht : PySem.W.typeIn K (.ref C) = some (.type "type")) (hs : PySem.W.subIn K (.type n) (.ref C) = some false) : PySem.W.kitOne K (.type n) (.ref C) = some false := by
  unfold PySem.W.kitOne
  have e : (Value.type n == Value.ref C) = false := by
    cases h : (Value.type n == Value.ref C) with
    | false => rfl
    | true => have := beq_iff_eq.mp h; cases this
  rw [e]
  unfold PySem.W.kitCls
  unfold PySem.W.isClsIn at hc
  simp [hc, ht, hs]
theorem kit_yes {K : PySem.W.Frag} {C : Addr} : PySem.W.kitOne K (.ref C) (.ref C) = some true := by
  unfold PySem.W.kitOne
  simp
theorem nf_sub {K : PySem.W.Frag} {C : Addr} {n : String} (hs : PySem.W.subIn K (.type n) (.ref C) = some false) : PySem.W.notFirst K C (.type n) = true := by
  unfold PySem.W.notFirst
  simp [hs]
theorem boot_isinstance : bootBuiltins "isinstance" = some (.builtin "isinstance") := by decide +kernel
theorem boot_sorted : bootBuiltins "sorted" = some (.builtin "sorted") := by decide +kernel
end Wb

/-! Wr7: str of nested data; what a def promises where no repr is under way around it. -/
namespace Wb
open PySem L2 PySem.Spec PyProof.Rows
/-- a promise for calls that stand in no repr -/
structure FnOkG (P : Program) (w : World) (K : PySem.W.Frag) (mg : Str → Option Value) (base : Heap) (CX : CXT) (k : Nat) (f : Addr) (fd : FuncData) (ps : List Str) (sp : Sp) : Prop where
  len : ∀ vs H Q E, sp vs H Q E → vs.length = ps.length
  run : ∀ (A : Around) (outer : List Env) (s : Shared) (H : Hp) (args : Args) (us : List Value) (vs : List V) (Q : VK) (E : XK), A.guards = some [] → Room k A → Env0 P w K mg base A outer s H → BindsTo s fd args (ps.zip us) → Vals vs us → sp vs H Q E →
    codeAny (model P w) A (.call (.ref f) args) (CR CX outer P w H s Q E) s
section
variable {P : Program} {w : World} {K : PySem.W.Frag} {mg : Str → Option Value} {base : Heap}
theorem okG {x qual : Str} {st : Stmt} {f : Addr} {fd : FuncData} {N ps : List Str} {k : Nat} {sp : Sp} (F : Fun K x qual st f fd) (S : FnScope N ps (defScope st)) (len : ∀ vs H Q E, sp vs H Q E → vs.length = ps.length)
    (hbody : ∀ (cdv : Value) (A : Around) (outer : List Env) (s : Shared) (H : Hp) (vs : List V) (Q : VK) (E : XK), A.guards = some [] → Room k (A.deeper (envOfC qual (defScope st) s.heap.objs.size f cdv)) → sp vs H Q E →
      ∃ t, PSs (cxOf CX0 P w K mg base N qual (defScope st) f cdv A outer s H E).nox (defBody st) t ∧ t { nx := fun _ H' => Q .non H', rt := Q } (start N vs) H) : FnOkG P w K mg base CX0 (k + 1) f fd ps sp := by
  obtain ⟨oc, od, kV, doc, pm, an, cdv, ct, osl, rfl, lk, hcd⟩ := F.ex
  refine ⟨len, fun A outer s H args us vs Q E hg hr e0 hb r hsp => ?_⟩
  have hin : K.In s.heap := e0.mod.kin.keeps fun b o e => (e0.bs b o e).1
  refine codeAny_call_function hr.depth (hin _ _ lk) rfl S.co S.gen rfl (PySem.W.codeRec_of hin hcd) (hb _ _ _ _ ?_)
  have kinds : ∀ y ∈ ps.zip us, (defScope st).names.lookup y.1 = some .local ∨ ((defScope st).names.lookup y.1 = some .cell ∧ ((cellsFrom (s.heap.objs.size + 1) (defScope st).names []).lookup y.1).isSome = true) := by
    rintro ⟨n, v⟩ hy
    exact (S.par n (List.of_mem_zip hy).1).elim .inl fun q => .inr ⟨q, PySem.W.cellsFrom_some _ _ _ (.inl q)⟩
  refine wpAny_newFunctionEnv_cells S.kind kinds fun env he s1 hx => ?_
  subst he
  have nolim : s.heap.NoLimit := e0.mod.nolimit.keeps fun b o e => (e0.bs b o e).1
  refine ⟨nolim.keeps hx.toInCall.keep, codeAny_func ?_⟩
  obtain ⟨t, ht, hq⟩ := hbody cdv A outer s H vs Q E hg (hr.deeper _) hsp
  have I0 : Inv (cxOf CX0 P w K mg base N qual (defScope st) f cdv A outer s H E) [] (start N vs) H s1 := inv_start S hr.hd e0 (len _ _ _ _ hsp) r hx
  refine wpAny_mono (ht.nox.run [] s1 (start N vs) H _ I0 hq) (fun fl s' hs => ?_) fun _ _ h => h
  cases fl with
  | ret u =>
    obtain ⟨v, σ', H', J, rv, q⟩ := hs
    exact ⟨v, H', J.os, J.bare, J.base, J.hok, rv, q⟩
  | next =>
    obtain ⟨σ', H', J, q⟩ := hs
    exact ⟨.non, H', J.os, J.bare, J.base, J.hok, rfl, q⟩
  | brk => exact hs.elim fun _ ⟨_, _, q⟩ => q.elim
  | cont => exact hs.elim fun _ ⟨_, _, q⟩ => q.elim
end
section
variable {X : Cx} {x : Str} {p pos : Pos} {e : Expr} {es : List Expr} {t : TA} {k : Nat} {f : Addr} {fd : FuncData} {ps : List Str} {sp : Sp} {CX : CXT} {E : XK}
theorem pe_callG (F : FnOkG X.prog X.w X.K X.mg X.base CX k f fd ps sp) (hgd : X.A.guards = some []) (hr : Room k X.A) (hg : Gl X x) (hm : X.mg x = some (.ref f)) (hk : PySem.W.keepIn X.K (.ref f) = true) (hb : Binds X.K fd ps []) (hx : Passes CX X E)
    (ha : PA X (e :: es) t) (hdb : (x == ("__debug__" : Str)) = false := by decide) (he : starEach (e :: es) X.env = (false, eval e X.env) :: starEach es X.env := by rfl) (hpl : (backTo pos (starEach es X.env)).any (·.1) = false := by rfl) :
    PE X (.Call (.Name x p) (e :: es) [] pos) (tCall sp [] E t) := by
  refine ⟨fun pins s σ H Q I h => ?_⟩
  refine wpAny_Call_Name_kw (ld_glob I hg hm ?_ hdb)
  refine PySem.W.callWith_K (h₀ := X.base) I.ok.mod.kin hk (thn (ha.run pos pins s σ H _ I h) fun us s1 ⟨vs, H1, I1, r, q⟩ => ⟨I1.kIn, ?_⟩) he hpl
  have q : sp vs H1 Q E := by simpa using q
  refine wpAny_call (codeAny_mono (F.run X.A X.stack s1 H1 ⟨us, []⟩ us vs Q E hgd hr I1.env0 (by
    have := hb s1 us I1.kIn (by rw [List.append_nil, ← r.length]; exact F.len _ _ _ _ q)
    simpa using this) r q) fun r s' hq => ?_)
  cases r with
  | error e => exact hx pins σ H1 s1 e s' I1 hq
  | ok fl =>
    cases fl with
    | ret u => exact I1.after hq
    | next => exact False.elim hq
    | brk => exact False.elim hq
    | cont => exact False.elim hq
/-- str(list or tuple of data) -/
def rStrD (K : PySem.W.Frag) : List V → Hp → VK → Prop := fun vs H Q => ∃ (a : Addr) (d : PyData), vs = [.ref a] ∧ Dp K H (.ref a) d ∧ d.showable = true ∧ d.hasDict = false ∧ d.depth ≤ 60 ∧ d.shown.length ≤ sizeLine ∧ Q (.str d.shown) H
theorem cr_strD {j : Nat} (hg : X.A.guards = some []) (hr : Room j X.A) : CallR X (.type "str") (rStrD X.K) := by
  intro pins s σ H vs us Q I r h
  obtain ⟨a, d, rfl, hd, h1, h2, h3, h4, q⟩ := h
  rw [Vals.ref1 r]
  obtain ⟨as, ra⟩ := Dp.reads I d (.ref a) (.ref a) hd rfl
  refine str_of_reads ra h1 (fun z => by rw [h2] at z; cases z) hg (by have := hr.un; omega) (fun _ _ e => e) (fun h' u tk hk => ?_) h4
  exact ⟨.str d.shown, H, I.kept (t' := tk) hk, ⟨_, rfl⟩, q⟩
end
/-- the heap without what H tells of -/
theorem law_callG {P : Program} {w : World} {K : PySem.W.Frag} {mg mb : Str → Option Value} {CX : CXT} {k : Nat} {fa a : Addr} {fd : FuncData} {x : Str} {sp : Sp} {s₁ : Shared} {vs : List Value} {ns : List Int}
    (KX : K.In s₁.heap) (hns : s₁.heap.Ns mainGlobals mg) (hb : s₁.heap.Ns builtinsNs mb) (hbb : ∀ x : Str, x ≠ "__name__" → mb x = bootBuiltins x) (hlim : s₁.heap.NoLimit) (hg : s₁.gens = #[])
    (ha : s₁.heap.get? a = some { cls := .type "list", data := .seq vs.toArray }) (hi : IntsAre vs ns) (hl : ns.length ≤ sizeLine) (hr : Room k callerA)
    (F : ∀ base : Heap, K.In base → base.Ns mainGlobals mg → FnOkG P w K mg base CX k fa fd [x] sp) (hbind : ∀ (s : Shared) (u : Value), BindsTo s fd ⟨[u], []⟩ [(x, u)])
    (hsp : ∀ H : Hp, Only H → SqL K H a (ns.map V.int) → sp [.ref a] H (fun v _ => v = .bl true) fun _ _ _ => False)
    (hCX : ∀ H e s', CX [] H s₁ (fun _ _ _ => False) e s' → False) :
    codeAny (model P w) callerA (.call (.ref fa) ⟨[.ref a], []⟩) (fun r s' => r = .ok (.ret (.bool true)) ∧ OldK s₁.heap s'.heap ∧ s'.os = s₁.os ∧ AllBare s'.gens) s₁ := by
  have key : ∀ H : Hp, Only H → SqL K H a (ns.map V.int) → HOk P w H s₁.heap → (∀ b, H b ≠ none → b = a) → (H a ≠ none → K.lookup a = none) →
      codeAny (model P w) callerA (.call (.ref fa) ⟨[.ref a], []⟩) (fun r s' => r = .ok (.ret (.bool true)) ∧ OldK s₁.heap s'.heap ∧ s'.os = s₁.os ∧ AllBare s'.gens) s₁ := by
    intro H hO hS hok hA hK
    have free : ∀ {b : Addr}, b ≠ a → H b = none := fun {b} hne => by
      cases q : H b with
      | none => rfl
      | some u => exact absurd (hA b (by rw [q]; simp)) hne
    have nsK : ∀ {b : Addr} {m : Str → Option Value}, s₁.heap.Ns b m → (hidT s₁.heap H).Ns b m := fun {b m} ⟨o, es, ep, e, d, r⟩ => ⟨o, es, ep, hidT_get e (free fun z => by
      subst z
      rw [ha] at e
      cases e
      cases d), d, r⟩
    have hKb : K.In (hidT s₁.heap H) := fun b o e => hidT_get (KX b o e) (by
      cases q : H b with
      | none => rfl
      | some u =>
        have z := hA b (by rw [q]; simp)
        subst z
        have := hK (by rw [q]; simp)
        rw [this] at e
        cases e)
    obtain ⟨mc, hc1, hc2⟩ := hlim
    have hM : Mod K mg (hidT s₁.heap H) := ⟨hKb, nsK hns, ⟨mb, nsK hb, hbb⟩, ⟨mc, nsK hc1, hc2⟩⟩
    have e0 : Env0 P w K mg (hidT s₁.heap H) callerA [] s₁ H := ⟨rfl, hM, fun b o e => of_hidT e, Nat.le_of_eq (hidT_size _ _), trivial, (fun b hb => (nomatch hb)), hok, .of_eq hg⟩
    refine codeAny_mono ((F _ hKb (nsK hns)).run callerA [] s₁ H ⟨[.ref a], []⟩ [.ref a] [.ref a] _ _ rfl hr e0 (hbind s₁ (.ref a)) (.cons rfl .nil) (hsp H hO hS)) fun r s' h => ?_
    match r, h with
    | .error e, h => exact (hCX H e s' h).elim
    | .ok (.ret u), h =>
      obtain ⟨v, H', os, bare, un, hok', r', rfl⟩ := h
      have r' : u = Value.bool true := r'
      subst r'
      refine ⟨rfl, OldK.of_keep fun b o e => ?_, os, bare⟩
      cases q : H b with
      | none => exact un.keep b o e q (fun z => nomatch z) (by simp)
      | some u =>
        obtain z | ⟨ob, xs, z⟩ := hO b
        · rw [q] at z; cases z
        · obtain ⟨e1, _⟩ := hok b _ z
          obtain ⟨e2, _⟩ := hok' b _ (un.frzs b ob _ z)
          rw [e] at e1
          cases e1
          exact e2
  cases hk : K.lookup a with
  | some o =>
    have e := KX a o hk
    rw [ha] at e
    cases e
    exact key (fun _ => none) (fun _ => .inl rfl) (.inr ⟨_, vs.toArray, _, hk, rfl, rfl, rfl, by rw [List.size_toArray, hi.length]; exact hl, by simpa using vals_ints hi⟩) (fun b u z => nomatch z) (fun b z => absurd rfl z) fun z => absurd rfl z
  | none =>
    refine key (fun b => if b = a then some (.frz { cls := .type "list", data := .seq vs.toArray } (.lst (ns.map V.int))) else none) (fun b => ?_) (.inl (.inr ⟨_, if_pos rfl⟩)) (fun b u z => ?_) (fun b z => ?_) fun _ => hk
    · by_cases h : b = a
      · exact .inr ⟨_, _, if_pos h⟩
      · exact .inl (if_neg h)
    · by_cases h : b = a
      · subst h
        cases (if_pos rfl).symm.trans z
        exact ⟨ha, by rw [List.length_map]; exact hl, vs, _, vals_ints hi, ha⟩
      · cases (if_neg h).symm.trans z
    · exact Classical.byContradiction fun h => z (if_neg h)
theorem walk_ofG {l : PySem.W.OpenLaw} {n k : Nat} {q : Program} {loose : List Str} {XP : (Str → Option Value) → Heap → Prop} {YP : World → Heap → Prop} {d : DefRec} {K : Params → PySem.W.Frag} {CX : World → CXT} {sp : World → Sp} {x : Str}
    (hn : l.most = some n) (hn2 : n ≤ sizeLine) (hdf : d.params.defaults = []) (hr : Room k callerA)
    (hY : ∀ (w : World) (h : Heap), YP w h → (K w.params).In h)
    (F : ∀ (w : World) (mg : Str → Option Value) (fa : Addr) (h : Heap), (K w.params).In h → h.Ns mainGlobals mg → mg d.name = some (.ref fa) →
      ∃ fd : FuncData, (∀ (s : Shared) (u : Value), BindsTo s fd ⟨[u], []⟩ [(x, u)]) ∧
        ∀ base : Heap, (K w.params).In base → base.Ns mainGlobals mg → FnOkG l.prog w (K w.params) mg base (CX w) k fa fd [x] (sp w))
    (hsp : ∀ (w : World) (H : Hp) (a : Addr) (ns : List Int), ns.length ≤ n → Only H → SqL (K w.params) H a (ns.map V.int) → sp w [.ref a] H (fun v _ => v = .bl true) fun _ _ _ => False)
    (hCX : ∀ (w : World) (H : Hp) (s : Shared) (e : Value) (s' : Shared), CX w [] H s (fun _ _ _ => False) e s' → False) :
    PySem.W.WalkO q loose XP YP l.row.toRowW d [] (fun f vs => PySem.call f vs) := by
  refine Att.attach_call hn hdf fun w s₀ s₁ mg mb fa o pm cd doc a vs ns G Y ho hd hcd hmg hobj hints hlen hg => ?_
  have KX := hY w _ Y
  obtain ⟨fd, hb, hF⟩ := F w mg fa _ KX G.T.g hmg
  exact law_callG KX G.T.g G.T.b G.T.builtins G.T.nolimit hg hobj hints (Nat.le_trans hlen hn2) hr hF hb (fun H hO hS => hsp w H a ns hlen hO hS) fun H e s' => hCX w H s₁ e s'
end Wb

/-! Wr8: more rules with names; triples. -/
namespace Wb
open PySem L2 PySem.Spec PyProof.Rows
section
variable {X : Cx} {K : PySem.W.Frag}
def rAddS : R2 := fun x y H Q => ∃ i j, x = .str i ∧ y = .str j ∧ i.length + j.length ≤ sizeLine ∧ Q (.str (i ++ j)) H
theorem op_addS : OpR X (binaryOp .Add) rAddS := op_add_str
def rIntB : List V → Hp → VK → Prop := fun xs H Q => ∃ b : Bool, xs = [.bl b] ∧ Q (.int (if b then 1 else 0)) H
theorem cr_intB : CallR X (.type "int") rIntB := fun pins s σ H xs us Q I r ⟨b, e, q⟩ => call_int1 pins s σ H xs us Q I r (.inr ⟨b, e, q⟩)
theorem op_eq_own_K (e : X.K = K) {n : Nat} {CX : CXT} {C f : Addr} {fd : FuncData} {ps : List Str} {sp : Sp} {E : XK} (F : FnOk X.prog X.w X.K X.mg X.base CX n f fd ps sp) (hr : Room n X.A)
    (hs : PySem.W.findIn X.K (.ref C) "__eq__" = some (some (.ref f))) (hf : PySem.W.isFn X.K (.ref f) = true) (hb : Binds X.K fd ps []) (hx : Passes CX X E) : OpR X (compareOp .Eq) (rOwnCmp K C sp E id) := e ▸ op_eq_own F hr hs hf hb hx
variable {H : Hp} {L : Lk} {cs : Cs} {x y v : V} {ds es : List PyData} {Q : VK}
theorem w_cat (W : Wd K H L cs) (h1 : Rdb L cs x (.list ds)) (h2 : Rdb L cs y (.list es)) (hz : ds.length + es.length ≤ 100000) (k : ∀ p H', Wd K H' L ((p, .dl (ds ++ es)) :: cs) → Q (.ref p) H') : rCatD K x y H Q := by
  obtain ⟨a, xs, rfl, s1, l1, W1⟩ := W.items h1
  obtain ⟨b, ys, rfl, s2, l2, W2⟩ := W1.items (h2.mono (fun p hp => List.mem_append_right _ hp) fun _ h => h)
  refine ⟨a, b, xs, ys, rfl, rfl, s1, s2, Nat.le_trans (by rw [l1, l2]; exact hz) (by decide), fun p hp => k p _ ((W2.newL hp (HasA.app ?_ ?_)).sub fun q hq => ?_)⟩
  · exact hasA_zip l1 fun q hq => List.mem_append_right _ (List.mem_append_left _ hq)
  · exact hasA_zip l2 fun q hq => List.mem_append_left _ hq
  · exact List.mem_append_right _ (List.mem_append_right _ hq)
/-- a data list's type -/
theorem w_tyList (W : Wd K H L cs) (h : Rdb L cs x (.list ds)) : TyX K H x (.type "list") := by
  obtain ⟨a, xs, rfl, s1, _⟩ := W.items h
  rcases s1 with (s1 | ⟨o, s1⟩) | ⟨_, _, _, h1, h2, _⟩
  · exact .base (.lst s1)
  · exact .base (.frz s1)
  · exact .kList h1 h2
/-- a tuple's values -/
theorem w_tup3 {a b c : PyData} {x1 x2 x3 : V} (W : Wd K H L cs) (h : Has L v (.tuple [a, b, c])) (e1 : scV a = some x1) (e2 : scV b = some x2) (e3 : scV c = some x3) : ∃ p, v = .ref p ∧ SqT K H p [x1, x2, x3] := by
  obtain ⟨p, xs, rfl, s1, s2⟩ := dp_tup (W.now h)
  cases s2 with
  | cons h1 t1 => cases t1 with
    | cons h2 t2 => cases t2 with
      | cons h3 t3 =>
        cases t3
        rw [sc_dp e1 h1, sc_dp e2 h2, sc_dp e3 h3] at s1
        exact ⟨p, rfl, s1⟩
end
/-- a triple -/
structure T3 (α β γ : Type) where
  a : α
  b : β
  c : γ
deriving DecidableEq
instance {α β γ : Type} [DecidableEq α] [PySem.W.Datum α] [DecidableEq β] [PySem.W.Datum β] [DecidableEq γ] [PySem.W.Datum γ] : PySem.W.Datum (T3 α β γ) where
  toD t := .tuple [PySem.W.Datum.toD t.a, PySem.W.Datum.toD t.b, PySem.W.Datum.toD t.c]
  plain t := by simp only [PyData.plain, PyData.plainAll, PySem.W.Datum.plain, Bool.and_self]
  eqv s t := by
    simp only [PyData.eqv, PyData.eqvAll, PySem.W.Datum.eqv, Bool.and_true]
    cases s; cases t
    simp [Bool.eq_iff_iff]
  depth := PySem.W.Datum.depth α + PySem.W.Datum.depth β + PySem.W.Datum.depth γ + 1
  depth_le t := by
    simp only [PyData.depth, PyData.depthAll]
    have h1 := PySem.W.Datum.depth_le t.a
    have h2 := PySem.W.Datum.depth_le t.b
    have h3 := PySem.W.Datum.depth_le t.c
    omega
theorem B_len : bootBuiltins "len" = some (.builtin "len") := by decide +kernel
theorem B_abs : bootBuiltins "abs" = some (.builtin "abs") := by decide +kernel
theorem B_range : bootBuiltins "range" = some (.type "range") := by decide +kernel
theorem B_max : bootBuiltins "max" = some (.builtin "max") := by decide +kernel
theorem B_min : bootBuiltins "min" = some (.builtin "min") := by decide +kernel
theorem B_int : bootBuiltins "int" = some (.type "int") := by decide +kernel
theorem B_str : bootBuiltins "str" = some (.type "str") := by decide +kernel
theorem B_sorted : bootBuiltins "sorted" = some (.builtin "sorted") := by decide +kernel
theorem B_isinstance : bootBuiltins "isinstance" = some (.builtin "isinstance") := by decide +kernel
theorem B_zip : bootBuiltins "zip" = some (.type "zip") := by decide +kernel
theorem B_any : bootBuiltins "any" = some (.builtin "any") := by decide +kernel
theorem B_all : bootBuiltins "all" = some (.builtin "all") := by decide +kernel
theorem B_sum : bootBuiltins "sum" = some (.builtin "sum") := by decide +kernel
theorem B_list : bootBuiltins "list" = some (.type "list") := by decide +kernel
theorem B_tuple : bootBuiltins "tuple" = some (.type "tuple") := by decide +kernel
theorem B_dict : bootBuiltins "dict" = some (.type "dict") := by decide +kernel
theorem B_set : bootBuiltins "set" = some (.type "set") := by decide +kernel
theorem B_repr : bootBuiltins "repr" = some (.builtin "repr") := by decide +kernel
theorem B_bool : bootBuiltins "bool" = some (.type "bool") := by decide +kernel
theorem B_enumerate : bootBuiltins "enumerate" = some (.type "enumerate") := by decide +kernel
theorem B_reversed : bootBuiltins "reversed" = some (.type "reversed") := by decide +kernel
theorem B_ord : bootBuiltins "ord" = some (.builtin "ord") := by decide +kernel
theorem B_chr : bootBuiltins "chr" = some (.builtin "chr") := by decide +kernel
theorem B_iter : bootBuiltins "iter" = some (.builtin "iter") := by decide +kernel
theorem B_next : bootBuiltins "next" = some (.builtin "next") := by decide +kernel
theorem B_divmod : bootBuiltins "divmod" = some (.builtin "divmod") := by decide +kernel
theorem B_round : bootBuiltins "round" = some (.builtin "round") := by decide +kernel
theorem B_map : bootBuiltins "map" = some (.type "map") := by decide +kernel
theorem B_filter : bootBuiltins "filter" = some (.type "filter") := by decide +kernel
theorem B_frozenset : bootBuiltins "frozenset" = some (.type "frozenset") := by decide +kernel
theorem B_hasattr : bootBuiltins "hasattr" = some (.builtin "hasattr") := by decide +kernel
theorem B_getattr : bootBuiltins "getattr" = some (.builtin "getattr") := by decide +kernel
theorem B_type : bootBuiltins "type" = some (.type "type") := by decide +kernel
end Wb

/-! Wr9: slices, pairs. -/
namespace Wb
open PySem L2 PySem.Spec PyProof.Rows
def cutD (xs : List PyData) (lo hi : Option Int) : List PyData := (xs.drop (HT.sIx xs.length 0 lo)).take (HT.sIx xs.length xs.length hi - HT.sIx xs.length 0 lo)
theorem cutD_to (xs : List PyData) (n : Nat) : cutD xs none (some (n : Int)) = xs.take n := by
  unfold cutD
  have e1 : HT.sIx xs.length 0 none = 0 := rfl
  have e2 : HT.sIx xs.length xs.length (some (n : Int)) = min n xs.length := by
    unfold HT.sIx
    simp only [clipAt]
    split <;> omega
  rw [e1, e2, List.drop_zero, Nat.sub_zero]
  by_cases h : n ≤ xs.length
  · rw [Nat.min_eq_left h]
  · rw [Nat.min_eq_right (by omega), List.take_length, List.take_of_length_le (by omega)]
section
variable {K : PySem.W.Frag} {H : Hp} {L : Lk} {cs : Cs} {x v : V} {ds : List PyData} {lo hi : Option Int} {Q : VK}
theorem w_slL (W : Wd K H L cs) (h : Rdb L cs x (.list ds)) (k : ∀ p H', Wd K H' L ((p, .dl (cutD ds lo hi)) :: cs) → Q (.ref p) H') : rSlL K x lo hi H Q := by
  obtain ⟨a, xs, rfl, s1, l1, W1⟩ := W.items h
  refine ⟨a, xs, rfl, s1, fun p hp => k p _ ((W1.newL (xs := cutV xs lo hi) (ds := cutD ds lo hi) hp ?_).sub fun q hq => List.mem_append_right _ hq)⟩
  have hA : ∀ {vs : List V} {es : List PyData} (n : Nat), HasA (xs.zip ds ++ L) vs es → HasA (xs.zip ds ++ L) (vs.drop n) (es.drop n) := by
    intro vs es n hA
    induction n generalizing vs es with
    | zero => exact hA
    | succ n ih =>
      cases hA with
      | nil => simpa using HasA.nil
      | cons h t => exact ih t
  have hB : ∀ {vs : List V} {es : List PyData} (n : Nat), HasA (xs.zip ds ++ L) vs es → HasA (xs.zip ds ++ L) (vs.take n) (es.take n) := by
    intro vs es n hA
    induction n generalizing vs es with
    | zero => simpa using HasA.nil
    | succ n ih =>
      cases hA with
      | nil => simpa using HasA.nil
      | cons h t => exact .cons h (ih t)
  unfold cutV cutD
  rw [l1]
  exact hB _ (hA _ (hasA_zip l1 fun q hq => List.mem_append_left _ hq))
/-- a pair's values -/
theorem w_pair {a b : PyData} (W : Wd K H L cs) (h : Has L v (.tuple [a, b])) : ∃ p x y, v = .ref p ∧ SqT K H p [x, y] ∧ Wd K H ((x, a) :: (y, b) :: L) cs := by
  obtain ⟨p, xs, rfl, s1, l1, W1⟩ := W.itemsT h
  match xs, l1 with
  | [x, y], _ => exact ⟨p, x, y, rfl, s1, W1⟩
end
theorem cr_min2 {X : Cx} {k : Nat} (hr : Room k X.A) (hc : X.calm = true := by rfl) : CallR X (.builtin "min") rMin2 := call_min2 hc
end Wb

namespace My
open PySem L2 Wb
def top (i : Nat) : Stmt := PySem.Challenge.pw_whistleboard_k65_whole_radio_in_any_orde.main.body.getD i (.Pass ⟨0, 0, 0, 0⟩)
abbrev s_Radio___init__ : Stmt := inClass (top 1) 0
theorem sc_Radio___init__ : FnScope ["self"] ["self"] (defScope s_Radio___init__) := ⟨rfl, rfl, rfl, by decide +kernel, rfl, by decide +kernel, by decide +kernel⟩
abbrev s_Radio___eq__ : Stmt := inClass (top 1) 1
theorem sc_Radio___eq__ : FnScope ["self", "other", "key"] ["self", "other"] (defScope s_Radio___eq__) := ⟨rfl, rfl, rfl, by decide +kernel, rfl, by decide +kernel, by decide +kernel⟩
abbrev s_Radio___len__ : Stmt := inClass (top 1) 2
theorem sc_Radio___len__ : FnScope ["self", "key"] ["self"] (defScope s_Radio___len__) := ⟨rfl, rfl, rfl, by decide +kernel, rfl, by decide +kernel, by decide +kernel⟩
abbrev s_Radio_hears : Stmt := inClass (top 1) 3
theorem sc_Radio_hears : FnScope ["self", "sender", "number", "text", "texts"] ["self", "sender", "number", "text"] (defScope s_Radio_hears) := ⟨rfl, rfl, rfl, by decide +kernel, rfl, by decide +kernel, by decide +kernel⟩
abbrev s_Radio_standing : Stmt := inClass (top 1) 4
theorem sc_Radio_standing : FnScope ["self", "sender", "number", "texts"] ["self", "sender", "number"] (defScope s_Radio_standing) := ⟨rfl, rfl, rfl, by decide +kernel, rfl, by decide +kernel, by decide +kernel⟩
abbrev s_Radio_greatest : Stmt := inClass (top 1) 5
theorem sc_Radio_greatest : FnScope ["self", "sender", "name", "number"] ["self", "sender"] (defScope s_Radio_greatest) := ⟨rfl, rfl, rfl, by decide +kernel, rfl, by decide +kernel, by decide +kernel⟩
abbrev s_Radio_read : Stmt := inClass (top 1) 6
theorem sc_Radio_read : FnScope ["self", "sender", "found"] ["self", "sender"] (defScope s_Radio_read) := ⟨rfl, rfl, rfl, by decide +kernel, rfl, by decide +kernel, by decide +kernel⟩
abbrev s_Radio_missing : Stmt := inClass (top 1) 7
theorem sc_Radio_missing : FnScope ["self", "sender", "number"] ["self", "sender"] (defScope s_Radio_missing) := ⟨rfl, rfl, rfl, by decide +kernel, rfl, by decide +kernel, by decide +kernel⟩
abbrev s__law_bag : Stmt := top 3
theorem sc__law_bag : FnScope ["_law_script", "_law_at", "_law_cell", "_law_great", "_law_primes"] ["_law_script", "_law_at"] (defScope s__law_bag) := ⟨rfl, rfl, rfl, by decide +kernel, rfl, by decide +kernel, by decide +kernel⟩
abbrev s__law_take : Stmt := top 4
theorem sc__law_take : FnScope ["_law_bag_here", "_law_many", "_law_digit"] ["_law_bag_here", "_law_many"] (defScope s__law_take) := ⟨rfl, rfl, rfl, by decide +kernel, rfl, by decide +kernel, by decide +kernel⟩
abbrev s__law_message : Stmt := top 5
theorem sc__law_message : FnScope ["_law_bag_here", "_law_clashes", "_law_who", "_law_count"] ["_law_bag_here", "_law_clashes"] (defScope s__law_message) := ⟨rfl, rfl, rfl, by decide +kernel, rfl, by decide +kernel, by decide +kernel⟩
abbrev s__law_mixed : Stmt := top 6
theorem sc__law_mixed : FnScope ["_law_bag_here", "_law_rows", "_law_left", "_law_k", "_law_found"] ["_law_bag_here", "_law_rows"] (defScope s__law_mixed) := ⟨rfl, rfl, rfl, by decide +kernel, rfl, by decide +kernel, by decide +kernel⟩
abbrev s__law_heard : Stmt := top 7
theorem sc__law_heard : FnScope ["_law_rows", "_law_radio", "_law_who", "_law_count", "_law_words"] ["_law_rows"] (defScope s__law_heard) := ⟨rfl, rfl, rfl, by decide +kernel, rfl, by decide +kernel, by decide +kernel⟩
abbrev s__law_told : Stmt := top 8
theorem sc__law_told : FnScope ["_law_radio", "_law_who"] ["_law_radio"] (defScope s__law_told) := ⟨rfl, rfl, rfl, by decide +kernel, rfl, by decide +kernel, by decide +kernel⟩
abbrev s__law_alike : Stmt := top 9
theorem sc__law_alike : FnScope ["_law_one", "_law_other"] ["_law_one", "_law_other"] (defScope s__law_alike) := ⟨rfl, rfl, rfl, by decide +kernel, rfl, by decide +kernel, by decide +kernel⟩
abbrev s__law_late : Stmt := top 10
theorem sc__law_late : FnScope ["_law_rows", "_law_bag_here", "_law_clashes", "_law_held", "_law_row", "_law_radio", "_law_ahead", "_law_who", "_law_kept", "_law_count", "_law_words", "_law_now", "_law_one", "_law_some"] ["_law_rows", "_law_bag_here", "_law_clashes"] (defScope s__law_late) := ⟨rfl, rfl, rfl, by decide +kernel, rfl, by decide +kernel, by decide +kernel⟩
abbrev s_law : Stmt := top 11
theorem sc_law : FnScope ["_law_script", "_law_bag_here", "_law_clashes", "_law_rows", "_law_k", "_law_radio", "_law_other", "_law_more", "_law_fewer", "_law_row", "_law_unlike", "_law_thing"] ["_law_script"] (defScope s_law) := ⟨rfl, rfl, rfl, by decide +kernel, rfl, by decide +kernel, by decide +kernel⟩
structure Ad where
  f_Radio___init__ : Addr
  fd_Radio___init__ : FuncData
  f_Radio___eq__ : Addr
  fd_Radio___eq__ : FuncData
  f_Radio___len__ : Addr
  fd_Radio___len__ : FuncData
  f_Radio_hears : Addr
  fd_Radio_hears : FuncData
  f_Radio_standing : Addr
  fd_Radio_standing : FuncData
  f_Radio_greatest : Addr
  fd_Radio_greatest : FuncData
  f_Radio_read : Addr
  fd_Radio_read : FuncData
  f_Radio_missing : Addr
  fd_Radio_missing : FuncData
  f__law_bag : Addr
  fd__law_bag : FuncData
  f__law_take : Addr
  fd__law_take : FuncData
  f__law_message : Addr
  fd__law_message : FuncData
  f__law_mixed : Addr
  fd__law_mixed : FuncData
  f__law_heard : Addr
  fd__law_heard : FuncData
  f__law_told : Addr
  fd__law_told : FuncData
  f__law_alike : Addr
  fd__law_alike : FuncData
  f__law_late : Addr
  fd__law_late : FuncData
  f_law : Addr
  fd_law : FuncData
  C_Radio : Addr
structure Txt (K : PySem.W.Frag) (mg : Str → Option Value) (D : Ad) : Prop where
  F_Radio___init__ : Fun K "__init__" "Radio.__init__" s_Radio___init__ D.f_Radio___init__ D.fd_Radio___init__
  mk_Radio : Mk K D.C_Radio D.f_Radio___init__
  F_Radio___eq__ : Fun K "__eq__" "Radio.__eq__" s_Radio___eq__ D.f_Radio___eq__ D.fd_Radio___eq__
  me_Radio___eq__ : Meth K D.C_Radio "__eq__" D.f_Radio___eq__
  F_Radio___len__ : Fun K "__len__" "Radio.__len__" s_Radio___len__ D.f_Radio___len__ D.fd_Radio___len__
  me_Radio___len__ : Meth K D.C_Radio "__len__" D.f_Radio___len__
  F_Radio_hears : Fun K "hears" "Radio.hears" s_Radio_hears D.f_Radio_hears D.fd_Radio_hears
  me_Radio_hears : Meth K D.C_Radio "hears" D.f_Radio_hears
  F_Radio_standing : Fun K "standing" "Radio.standing" s_Radio_standing D.f_Radio_standing D.fd_Radio_standing
  me_Radio_standing : Meth K D.C_Radio "standing" D.f_Radio_standing
  F_Radio_greatest : Fun K "greatest" "Radio.greatest" s_Radio_greatest D.f_Radio_greatest D.fd_Radio_greatest
  me_Radio_greatest : Meth K D.C_Radio "greatest" D.f_Radio_greatest
  F_Radio_read : Fun K "read" "Radio.read" s_Radio_read D.f_Radio_read D.fd_Radio_read
  me_Radio_read : Meth K D.C_Radio "read" D.f_Radio_read
  F_Radio_missing : Fun K "missing" "Radio.missing" s_Radio_missing D.f_Radio_missing D.fd_Radio_missing
  me_Radio_missing : Meth K D.C_Radio "missing" D.f_Radio_missing
  F__law_bag : Fun K "_law_bag" "_law_bag" s__law_bag D.f__law_bag D.fd__law_bag
  m__law_bag : mg "_law_bag" = some (.ref D.f__law_bag)
  F__law_take : Fun K "_law_take" "_law_take" s__law_take D.f__law_take D.fd__law_take
  m__law_take : mg "_law_take" = some (.ref D.f__law_take)
  F__law_message : Fun K "_law_message" "_law_message" s__law_message D.f__law_message D.fd__law_message
  m__law_message : mg "_law_message" = some (.ref D.f__law_message)
  F__law_mixed : Fun K "_law_mixed" "_law_mixed" s__law_mixed D.f__law_mixed D.fd__law_mixed
  m__law_mixed : mg "_law_mixed" = some (.ref D.f__law_mixed)
  F__law_heard : Fun K "_law_heard" "_law_heard" s__law_heard D.f__law_heard D.fd__law_heard
  m__law_heard : mg "_law_heard" = some (.ref D.f__law_heard)
  F__law_told : Fun K "_law_told" "_law_told" s__law_told D.f__law_told D.fd__law_told
  m__law_told : mg "_law_told" = some (.ref D.f__law_told)
  F__law_alike : Fun K "_law_alike" "_law_alike" s__law_alike D.f__law_alike D.fd__law_alike
  m__law_alike : mg "_law_alike" = some (.ref D.f__law_alike)
  F__law_late : Fun K "_law_late" "_law_late" s__law_late D.f__law_late D.fd__law_late
  m__law_late : mg "_law_late" = some (.ref D.f__law_late)
  F_law : Fun K "law" "law" s_law D.f_law D.fd_law
  m_law : mg "law" = some (.ref D.f_law)
  cl_Radio : Cls K D.C_Radio
  mg_Radio : mg "Radio" = some (.ref D.C_Radio)
  na_Radio_known : NoAttr K D.C_Radio "known"
  n_len : mg "len" = none
  n_abs : mg "abs" = none
  n_range : mg "range" = none
  n_max : mg "max" = none
  n_min : mg "min" = none
  n_int : mg "int" = none
  n_str : mg "str" = none
  n_sorted : mg "sorted" = none
  n_isinstance : mg "isinstance" = none
  n_zip : mg "zip" = none
  ec : PySem.W.findIn K (.ref D.C_Radio) "__class__" = some (some (.builtin "object.__class__"))
  eg : PySem.W.specialIn K (.builtin "object.__class__") "__get__" = some (some (.builtin "getset_descriptor.__get__"))
  et : PySem.W.takesIn K (.builtin "object.__class__") = some true
  em_Radio : PySem.W.mroIn K D.C_Radio (.type "object") = some true
  en_Radio : PySem.W.findIn K (.ref D.C_Radio) "__ne__" = some (some (.builtin "object.__ne__"))
  kc : PySem.W.isClsIn K D.C_Radio = true
  kt : PySem.W.typeIn K (.ref D.C_Radio) = some (.type "type")
  sN : PySem.W.subIn K (.type "NoneType") (.ref D.C_Radio) = some false
  sI : PySem.W.subIn K (.type "int") (.ref D.C_Radio) = some false
  sS : PySem.W.subIn K (.type "str") (.ref D.C_Radio) = some false
  sL : PySem.W.subIn K (.type "list") (.ref D.C_Radio) = some false
section
variable {K : PySem.W.Frag} {mg : Str → Option Value} {D : Ad}
theorem b_Radio___init__ (T : Txt K mg D) : Binds K D.fd_Radio___init__ ["self"] [] := T.F_Radio___init__.binds fun _ _ _ _ _ _ us hl => match us, hl with | [_], _ => rfl
theorem b_Radio___eq__ (T : Txt K mg D) : Binds K D.fd_Radio___eq__ ["self", "other"] [] := T.F_Radio___eq__.binds fun _ _ _ _ _ _ us hl => match us, hl with | [_, _], _ => rfl
theorem b_Radio___len__ (T : Txt K mg D) : Binds K D.fd_Radio___len__ ["self"] [] := T.F_Radio___len__.binds fun _ _ _ _ _ _ us hl => match us, hl with | [_], _ => rfl
theorem b_Radio_hears (T : Txt K mg D) : Binds K D.fd_Radio_hears ["self", "sender", "number", "text"] [] := T.F_Radio_hears.binds fun _ _ _ _ _ _ us hl => match us, hl with | [_, _, _, _], _ => rfl
theorem b_Radio_standing (T : Txt K mg D) : Binds K D.fd_Radio_standing ["self", "sender", "number"] [] := T.F_Radio_standing.binds fun _ _ _ _ _ _ us hl => match us, hl with | [_, _, _], _ => rfl
theorem b_Radio_greatest (T : Txt K mg D) : Binds K D.fd_Radio_greatest ["self", "sender"] [] := T.F_Radio_greatest.binds fun _ _ _ _ _ _ us hl => match us, hl with | [_, _], _ => rfl
theorem b_Radio_read (T : Txt K mg D) : Binds K D.fd_Radio_read ["self", "sender"] [] := T.F_Radio_read.binds fun _ _ _ _ _ _ us hl => match us, hl with | [_, _], _ => rfl
theorem b_Radio_missing (T : Txt K mg D) : Binds K D.fd_Radio_missing ["self", "sender"] [] := T.F_Radio_missing.binds fun _ _ _ _ _ _ us hl => match us, hl with | [_, _], _ => rfl
theorem b__law_bag (T : Txt K mg D) : Binds K D.fd__law_bag ["_law_script", "_law_at"] [] := T.F__law_bag.binds fun _ _ _ _ _ _ us hl => match us, hl with | [_, _], _ => rfl
theorem b__law_take (T : Txt K mg D) : Binds K D.fd__law_take ["_law_bag_here", "_law_many"] [] := T.F__law_take.binds fun _ _ _ _ _ _ us hl => match us, hl with | [_, _], _ => rfl
theorem b__law_message (T : Txt K mg D) : Binds K D.fd__law_message ["_law_bag_here", "_law_clashes"] [] := T.F__law_message.binds fun _ _ _ _ _ _ us hl => match us, hl with | [_, _], _ => rfl
theorem b__law_mixed (T : Txt K mg D) : Binds K D.fd__law_mixed ["_law_bag_here", "_law_rows"] [] := T.F__law_mixed.binds fun _ _ _ _ _ _ us hl => match us, hl with | [_, _], _ => rfl
theorem b__law_heard (T : Txt K mg D) : Binds K D.fd__law_heard ["_law_rows"] [] := T.F__law_heard.binds fun _ _ _ _ _ _ us hl => match us, hl with | [_], _ => rfl
theorem b__law_told (T : Txt K mg D) : Binds K D.fd__law_told ["_law_radio"] [] := T.F__law_told.binds fun _ _ _ _ _ _ us hl => match us, hl with | [_], _ => rfl
theorem b__law_alike (T : Txt K mg D) : Binds K D.fd__law_alike ["_law_one", "_law_other"] [] := T.F__law_alike.binds fun _ _ _ _ _ _ us hl => match us, hl with | [_, _], _ => rfl
theorem b__law_late (T : Txt K mg D) : Binds K D.fd__law_late ["_law_rows", "_law_bag_here", "_law_clashes"] [] := T.F__law_late.binds fun _ _ _ _ _ _ us hl => match us, hl with | [_, _, _], _ => rfl
theorem b_law (T : Txt K mg D) : Binds K D.fd_law ["_law_script"] [] := T.F_law.binds fun _ _ _ _ _ _ us hl => match us, hl with | [_], _ => rfl
end
end My

namespace My
open PySem L2 Wb
local macro_rules | `(tactic| walk_at "has") => `(tactic| first | exact Wb.Has.int | exact Wb.Has.str | exact Wb.Has.bl | exact Wb.Has.non | exact Wb.Has.hd | assumption | (apply Wb.Has.tl; walk_at "has"))
local macro_rules | `(tactic| walk_at "ha") => `(tactic| first | exact Wb.HasA.nil | (refine Wb.HasA.cons ?_ ?_; (walk_at "has"); (walk_at "ha")))
local macro_rules | `(tactic| walk_at "ds") => `(tactic| dsimp only [cxOf, Cx.nox, Cx.wish, tVar, tC, tOp, tUn, tCons, tNil, tCall, tMeth, tMake, tCB, tAsg, gName, gSub, gTup, gCons, gNil, tPar, tAug, tRet, tRetN, tSeq, tNext, tIfS, tB, tTest, tAnd, tOr, tNot, tNotV, tAndV, tOrV, tIf, tDrop, tBM, tBM0, tTup, tLst, tFld, tM0, tM1, tDGet2, tDGet, tDIn, tDNotIn, tDNewT, tIfS, tDGet1, tDSetdT, tFor_e, tLc_e, tWhile, tYes, iList_e, iTup_e, iKeys, tLockE, tCKw, iZip, iRng1, iRng2, tSl, tPart, tNoPart, tTup, tLst, tIsN, tNotN, sFld, tCut, List.append_nil, List.nil_append, List.cons_append, tDrop, tCmp, t2I])
def Bag (ds : List PyData) : Prop := ∃ g r : Int, ds = [.int g, .int r] ∧ 0 ≤ g ∧ 0 ≤ r ∧ r < 2147483647
def spTake (K : PySem.W.Frag) : Sp := fun vs H Q _ => ∃ (L : Lk) (cs : Cs) (b : Addr) (ds : List PyData) (m : Int), vs = [.ref b, .int m] ∧ Wd K H L ((b, .dl ds) :: cs) ∧ Bag ds ∧ 0 < m ∧ m < 1073741824 ∧
  ∀ H' d ds', 0 ≤ d → d < m → Bag ds' → Wd K H' L ((b, .dl ds') :: cs) → Q (.int d) H'
def spBag (K : PySem.W.Frag) : Sp := fun vs H Q _ => ∃ (L : Lk) (cs : Cs) (v : V) (ns : List Int) (i : Int), vs = [v, .int i] ∧ Wd K H L cs ∧ Has L v (.list (ns.map .int)) ∧ ns.length ≤ 63 ∧ 0 ≤ i ∧ i < 10000 ∧
  ∀ H' b ds, Bag ds → Wd K H' L ((b, .dl ds) :: cs) → Q (.ref b) H'
section
variable {P : Program} {w : World} {K : PySem.W.Frag} {mg : Str → Option Value} {D : Ad} {base : Heap}
theorem ok__law_take (T : Txt K mg D) : FnOk P w K mg base CX0 1 D.f__law_take D.fd__law_take ["_law_bag_here", "_law_many"] (spTake K) := by
  refine T.F__law_take.ok sc__law_take (fun vs H Q E h => ?_) (fun cdv A outer s H vs Q E hr h => ?_)
  · obtain ⟨L, cs, b, ds, m, rfl, _⟩ := h
    rfl
  · obtain ⟨L, cs, b, _, m, rfl, W, ⟨g, r, rfl, g0, r0, r1⟩, m0, m1, k⟩ := h
    refine ⟨_, (pss_cons (ps_if (pt_cmpR op_gt (pe_ix ix_list (pv 0) pe_int (fun _ _ => rfl)) pe_int (nomark _)) (pss_cons (ps_set (i := 2) sc__law_take.nd rfl (by first | exact .inl rfl | exact .inr rfl) (pe_op op_modN (pe_ix ix_list (pv 0) pe_int (fun _ _ => rfl)) (pv 1)))
        (pss_cons (ps_asg (pe_op op_fdivN (pe_ix ix_list (pv 0) pe_int (fun _ _ => rfl)) (pv 1)) (pg_sub (pv 0) pe_int set_list))
        (pss_one (ps_ret (pv 2)))))
      pss_nil)
    (pss_cons (ps_asg (pe_op op_modN (pe_op op_add (pe_op op_mul (pe_ix ix_list (pv 0) pe_int (fun _ _ => rfl)) pe_int) pe_int) pe_int) (pg_sub (pv 0) pe_int set_list))
    (pss_one (ps_ret (pe_op op_modN (pe_op op_modN (pe_op op_pow (pe_op op_fdivN (pe_ix ix_list (pv 0) pe_int (fun _ _ => rfl)) pe_int) pe_int) pe_int) (pv 1)))))), ?_⟩
    dsimp only [cxOf, Cx.nox, Cx.wish, tVar, tC, tOp, tUn, tCons, tNil, tCall, tMeth, tMake, tCB, tAsg, gName, gSub, gTup, gCons, gNil, tPar, tAug, tRet, tRetN, tSeq, tNext, tIfS, tB, tTest, tAnd, tOr, tNot, tNotV, tAndV, tOrV, tIf, tDrop, tBM, tBM0, tTup, tLst, tFld, tM0, tM1, tDGet2, tDGet, tDIn, tDNotIn, tDNewT, tIfS, tDGet1, tDSetdT, tFor_e, tLc_e, tWhile, tYes, iList_e, iTup_e, iKeys, tLockE, tCKw, iZip, iRng1, iRng2, tSl, tPart, tNoPart, tTup, tLst, tIsN, tNotN, sFld, tCut, List.append_nil, List.nil_append, List.cons_append, tDrop, tCmp, t2I]
    refine ⟨_, rfl, w_ixLi W .c0 rfl ⟨_, _, rfl, rfl, _, rfl, ite2 (fun hc => ?_) (fun hc => ?_)⟩⟩
    · refine ⟨_, rfl, w_ixLi W .c0 rfl ⟨_, rfl, _, _, rfl, rfl, by omega, ?_⟩⟩
      refine ⟨_, rfl, w_ixLi W .c0 rfl ⟨_, rfl, _, _, rfl, rfl, ⟨by omega, by omega⟩, ?_⟩⟩
      refine ⟨_, rfl, w_setL (j := 0) W .int rfl fun H W => ?_⟩
      have hg : 0 < g := of_decide_eq_true hc
      have e1 : g.fmod m = g % m := Int.fmod_eq_emod_of_nonneg _ (by omega)
      have e2 : g.fdiv m = g / m := Int.fdiv_eq_ediv_of_nonneg _ (by omega)
      refine ⟨_, rfl, k _ _ _ (by rw [e1]; exact Int.emod_nonneg _ (by omega)) (by rw [e1]; exact Int.emod_lt_of_pos _ m0) ⟨g.fdiv m, r, rfl, by rw [e2]; exact Int.ediv_nonneg g0 (by omega), r0, r1⟩ W⟩
    · refine ⟨_, rfl, w_ixLi W .c0 rfl ⟨_, _, rfl, rfl, .inr ⟨by omega, by omega⟩, _, _, rfl, rfl, _, _, rfl, rfl, by omega, ?_⟩⟩
      refine ⟨_, rfl, w_setL (j := 1) W .int rfl fun H W => ?_⟩
      refine ⟨_, rfl, w_ixLi W .c0 rfl ?_⟩
      have q0 := fm0 (r * 48271 + 11) (m := 2147483647) (by decide)
      have q1 := fm1 (r * 48271 + 11) (m := 2147483647) (by decide)
      have q2 := fd1 ((r * 48271 + 11).fmod 2147483647) (m := 8) (by decide)
      refine ⟨_, _, rfl, rfl, ⟨by decide, by decide⟩, _, _, rfl, rfl, ⟨by decide, by decide, by omega⟩, _, _, rfl, rfl, by show _ ≠ (0 : Int); decide, _, rfl, _, _, rfl, rfl, by omega, ?_⟩
      exact k _ _ _ (fm0 _ m0) (fm1 _ m0) ⟨g, _, rfl, g0, q0, q1⟩ W
theorem ok__law_bag (T : Txt K mg D) : FnOk P w K mg base CX0 1 D.f__law_bag D.fd__law_bag ["_law_script", "_law_at"] (spBag K) := by
  refine T.F__law_bag.ok sc__law_bag (fun vs H Q E h => ?_) (fun cdv A outer s H vs Q E hr h => ?_)
  · obtain ⟨L, cs, v, ns, i, rfl, _⟩ := h
    rfl
  · obtain ⟨L, cs, v, ns, i, rfl, W, hv, hn, i0, i1, k⟩ := h
    refine ⟨_, (pss_cons (ps_set (i := 2) sc__law_bag.nd rfl (by first | exact .inl rfl | exact .inr rfl) pe_int)
    (pss_cut (ps_if (pt_cmpR op_gt (pe_callB cr_len rfl T.n_len B_len (pa_cons (pv 0) pa_nil)) pe_int (nomark _)) (pss_one (ps_set (i := 2) sc__law_bag.nd rfl (by first | exact .inl rfl | exact .inr rfl) (pe_ix ix_list (pv 0) (pe_op op_modN (pv 1) (pe_callB cr_len rfl T.n_len B_len (pa_cons (pv 0) pa_nil))) (fun _ _ => rfl))))
      pss_nil)
    (pss_cons (ps_set (i := 3) sc__law_bag.nd rfl (by first | exact .inl rfl | exact .inr rfl) pe_int)
    (pss_cut (ps_if (PW.pt (pw_and (pt_cmpR op_ge (pe_callB cr_abs rfl T.n_abs B_abs (pa_cons (pv 2) pa_nil)) (pe_op op_pow pe_int pe_int) (nomark _)) (pw_and1 (pt_cmpR op_lt (pv 1) (pe_callB cr_len rfl T.n_len B_len (pa_cons (pv 0) pa_nil)) (nomark _))))) (pss_one (ps_set (i := 3) sc__law_bag.nd rfl (by first | exact .inl rfl | exact .inr rfl) (pe_callB cr_abs rfl T.n_abs B_abs (pa_cons (pv 2) pa_nil))))
      pss_nil)
    (pss_cons (ps_set (i := 4) sc__law_bag.nd rfl (by first | exact .inl rfl | exact .inr rfl) (pe_tup (pa_cons pe_int (pa_cons pe_int (pa_cons pe_int (pa_cons pe_int (pa_cons pe_int (pa_cons pe_int (pa_cons pe_int (pa_cons pe_int pa_nil))))))))))
    (pss_one (ps_ret (pe_lst (pa_cons (pv 3) (pa_cons (pe_op op_modN (pe_op op_pow (pe_op op_add (pe_op op_add (pe_op op_modN (pv 2) pe_int) (pe_op op_mul pe_int (pv 1))) pe_int) pe_int) (pe_ix ix_tup (pv 4) (pe_op op_modN (pv 1) pe_int) (fun _ _ => rfl))) pa_nil)))))))))), ?_⟩
    dsimp only [cxOf, Cx.nox, Cx.wish, tVar, tC, tOp, tUn, tCons, tNil, tCall, tMeth, tMake, tCB, tAsg, gName, gSub, gTup, gCons, gNil, tPar, tAug, tRet, tRetN, tSeq, tNext, tIfS, tB, tTest, tAnd, tOr, tNot, tNotV, tAndV, tOrV, tIf, tDrop, tBM, tBM0, tTup, tLst, tFld, tM0, tM1, tDGet2, tDGet, tDIn, tDNotIn, tDNewT, tIfS, tDGet1, tDSetdT, tFor_e, tLc_e, tWhile, tYes, iList_e, iTup_e, iKeys, tLockE, tCKw, iZip, iRng1, iRng2, tSl, tPart, tNoPart, tTup, tLst, tIsN, tNotN, sFld, tCut, List.append_nil, List.nil_append, List.cons_append, tDrop, tCmp, t2I]
    have hl : (ns.map PyData.int).length = ns.length := List.length_map _
    refine ⟨fun σ' H' => ∃ c : Int, σ' = [some v, some (.int i), some (.int c), none, none] ∧ Wd K H' L cs, ?_, ?_⟩
    · refine ⟨_, rfl, w_len W (.of hv) ⟨_, _, rfl, rfl, _, rfl, ite2 (fun hc => ?_) (fun hc => ⟨0, rfl, W⟩)⟩⟩
      have hc : 0 < (((ns.map PyData.int).length : Nat) : Int) := of_decide_eq_true hc
      refine ⟨_, rfl, _, rfl, _, rfl, w_len W (.of hv) ⟨_, _, rfl, rfl, by omega, ?_⟩⟩
      obtain ⟨d, hd, hm⟩ := atI_mem (xs := ns.map PyData.int) (fm0 i hc) (fm1 i hc)
      obtain ⟨c, _, rfl⟩ := List.mem_map.mp hm
      refine w_ixLi W (.of hv) hd ?_
      exact ⟨c, rfl, W⟩
    · rintro σ' H' ⟨c, rfl, W⟩
      refine ⟨fun σ' H' => ∃ g : Int, 0 ≤ g ∧ σ' = [some v, some (.int i), some (.int c), some (.int g), none] ∧ Wd K H' L cs, ?_, ?_⟩
      · refine ⟨_, rfl, c, rfl, _, _, rfl, rfl, ⟨by decide, by decide, by decide⟩, _, _, rfl, rfl, _, rfl, ite2 (fun hc => ?_) (fun hc => ?_)⟩
        · refine ⟨_, rfl, _, rfl, w_len W (.of hv) ⟨_, _, rfl, rfl, _, rfl, ite2 (fun hc => ?_) (fun hc => ⟨0, by decide, rfl, W⟩)⟩⟩
          exact ⟨_, rfl, c, rfl, _, by split <;> omega, rfl, W⟩
        · refine iteF ?_
          exact ⟨0, by decide, rfl, W⟩
      · rintro σ' H' ⟨g, g0, rfl, W⟩
        refine ⟨szl rfl, fun p hp => ?_⟩
        have W := W.newT hp (xs := [V.int 2147483629, V.int 2147483587, V.int 2147483579, V.int 2147483563, V.int 2147483549, V.int 2147483543, V.int 2147483497, V.int 2147483489]) (ds := [.int 2147483629, .int 2147483587, .int 2147483579, .int 2147483563, .int 2147483549, .int 2147483543, .int 2147483497, .int 2147483489]) (by walk_at "ha")
        have c0 := fm0 c (m := 2147483647) (by decide)
        have c1 := fm1 c (m := 2147483647) (by decide)
        refine ⟨_, rfl, _, rfl, _, _, rfl, rfl, by show _ ≠ (0 : Int); decide, _, rfl, _, _, rfl, rfl, .inl ⟨by decide, by decide⟩, _, _, rfl, rfl, _, _, rfl, rfl, _, _, rfl, rfl, ⟨by decide, by decide, by omega⟩, _, rfl, _, rfl, _, _, rfl, rfl, by show _ ≠ (0 : Int); decide, ?_⟩
        obtain ⟨d, hd, hm⟩ := atI_mem (xs := [PyData.int 2147483629, .int 2147483587, .int 2147483579, .int 2147483563, .int 2147483549, .int 2147483543, .int 2147483497, .int 2147483489]) (fm0 i (m := 8) (by decide)) (fm1 i (m := 8) (by decide))
        obtain ⟨q, rfl, q0, q1⟩ : ∃ q : Int, d = .int q ∧ 0 < q ∧ q ≤ 2147483647 := by
          simp only [List.mem_cons, List.not_mem_nil, or_false] at hm
          rcases hm with rfl | rfl | rfl | rfl | rfl | rfl | rfl | rfl <;> exact ⟨_, rfl, by decide, by decide⟩
        refine w_ixTi W .hd hd ⟨_, _, rfl, rfl, by show _ ≠ (0 : Int); omega, szl rfl, fun b hb => ?_⟩
        have f0 := fm0 ((c.fmod 2147483647 + 104729 * i + 7) ^ Int.toNat 5) q0
        have f1 := fm1 ((c.fmod 2147483647 + 104729 * i + 7) ^ Int.toNat 5) q0
        exact k _ _ _ ⟨g, _, rfl, g0, f0, by omega⟩ (W.newL hb (by walk_at "ha")).tl
end
end My

namespace My
open PySem L2 Wb
local macro_rules | `(tactic| walk_at "has") => `(tactic| first | exact Wb.Has.int | exact Wb.Has.str | exact Wb.Has.bl | exact Wb.Has.non | exact Wb.Has.hd | assumption | (apply Wb.Has.tl; walk_at "has"))
local macro_rules | `(tactic| walk_at "ha") => `(tactic| first | exact Wb.HasA.nil | (refine Wb.HasA.cons ?_ ?_; (walk_at "has"); (walk_at "ha")))
local macro_rules | `(tactic| walk_at "ds") => `(tactic| dsimp only [cxOf, Cx.nox, Cx.wish, tVar, tC, tOp, tUn, tCons, tNil, tCall, tMeth, tMake, tCB, tAsg, gName, gSub, gTup, gCons, gNil, tPar, tAug, tRet, tRetN, tSeq, tNext, tIfS, tB, tTest, tAnd, tOr, tNot, tNotV, tAndV, tOrV, tIf, tDrop, tBM, tBM0, tTup, tLst, tFld, tM0, tM1, tDGet2, tDGet, tDIn, tDNotIn, tDNewT, tIfS, tDGet1, tDSetdT, tFor_e, tLc_e, tWhile, tYes, iList_e, iTup_e, iKeys, tLockE, tCKw, iZip, iRng1, iRng2, tSl, tPart, tNoPart, tTup, tLst, tIsN, tNotN, sFld, tCut, List.append_nil, List.nil_append, List.cons_append, tDrop, tCmp, t2I])


abbrev Ent := (Str × Int) × Addr × List Str
def keyOf (k : Str × Int) : List L2.Key := [.inr k.1, .inl k.2]
def kvsOf (R : List Ent) : List (List L2.Key × V) := R.map fun e => (keyOf e.1, V.ref e.2.1)
def entC (e : Ent) : Addr × CO := (e.2.1, .dl (e.2.2.map .str))
def radC (C p dx d : Addr) (R : List Ent) : Cs := (p, .raw (.ins C dx [("known", .ref d)])) :: (dx, .raw (.own p)) :: (d, .raw (.dT (kvsOf R))) :: R.map entC
structure wfR (n : Nat) (R : List Ent) : Prop where
  nd : (R.map (·.1)).Nodup
  len : R.length ≤ n
  txt : ∀ e ∈ R, e.2.2 ≠ [] ∧ e.2.2.Nodup ∧ e.2.2.length ≤ n
  ok : ∀ e ∈ R, 1 ≤ e.1.2 ∧ e.1.2 ≤ 14
/-- a text was heard -/
def Hd (R : List Ent) (w : Str) (n : Int) (t : Str) : Prop := ∃ e ∈ R, e.1 = (w, n) ∧ t ∈ e.2.2
theorem keyOf_inj {a b : Str × Int} (h : keyOf a = keyOf b) : a = b := by
  unfold keyOf at h
  cases a; cases b
  simp at h
  simp [h.1, h.2]
theorem val_none {R : List Ent} {k : Str × Int} (h : valV (kvsOf R) (keyOf k) = none) : ∀ e ∈ R, e.1 ≠ k := by
  intro e he q
  have := valV_not h
  exact this (List.mem_map.mpr ⟨(keyOf e.1, V.ref e.2.1), List.mem_map.mpr ⟨e, he, rfl⟩, by rw [q]⟩)
theorem val_some : ∀ {R : List Ent} {k : Str × Int} {v : V}, valV (kvsOf R) (keyOf k) = some v → ∃ R1 e R2, R = R1 ++ e :: R2 ∧ e.1 = k ∧ v = V.ref e.2.1
  | [], k, v, h => by cases h
  | e :: R, k, v, h => by
    by_cases q : keyOf e.1 = keyOf k
    · have h2 : valV (kvsOf (e :: R)) (keyOf k) = some (V.ref e.2.1) := valV_pos (p := (keyOf e.1, V.ref e.2.1)) q
      rw [h2] at h
      exact ⟨[], e, R, rfl, keyOf_inj q, (Option.some.inj h).symm⟩
    · have h2 : valV (kvsOf (e :: R)) (keyOf k) = valV (kvsOf R) (keyOf k) := valV_neg (p := (keyOf e.1, V.ref e.2.1)) q
      rw [h2] at h
      obtain ⟨R1, e1, R2, rfl, h1, h3⟩ := val_some h
      exact ⟨e :: R1, e1, R2, rfl, h1, h3⟩
theorem putK_none {R : List Ent} {k : Str × Int} {l : Addr} {ts : List Str} (h : valV (kvsOf R) (keyOf k) = none) : putK (kvsOf R) (keyOf k) (V.ref l) = kvsOf (R ++ [(k, l, ts)]) := by
  rw [putK_new _ h]
  unfold kvsOf
  rw [List.map_append]
  rfl
/-- what hearing comes to -/
structure Heard (n : Nat) (R R' : List Ent) (w : Str) (m : Int) (t : Str) : Prop where
  wf : wfR (n + 1) R'
  hd : ∀ a b c, Hd R' a b c ↔ Hd R a b c ∨ (a = w ∧ b = m ∧ c = t)
def spInit (K : PySem.W.Frag) (C : Addr) : Sp := fun vs H Q _ => ∃ (L : Lk) (cs : Cs) (p dx : Addr), vs = [.ref p] ∧ Wd K H L ((p, .raw (.ins C dx [])) :: (dx, .raw (.own p)) :: cs) ∧ ∀ H' d, Wd K H' L (radC C p dx d [] ++ cs) → Q .non H'
def spHears (K : PySem.W.Frag) (C : Addr) : Sp := fun vs H Q _ => ∃ (L : Lk) (cs : Cs) (p dx d : Addr) (R : List Ent) (n : Nat) (w : Str) (m : Int) (t : Str), vs = [.ref p, .str w, .int m, .str t] ∧ Wd K H L (radC C p dx d R ++ cs) ∧ wfR n R ∧ n ≤ 1000 ∧ (1 ≤ m ∧ m ≤ 14) ∧
  ∀ v H' R', Heard n R R' w m t → Wd K H' L (radC C p dx d R' ++ cs) → Q v H'
section
variable {P : Program} {w : World} {K : PySem.W.Frag} {mg : Str → Option Value} {D : Ad} {base : Heap}

theorem ok_Radio___init__ (T : Txt K mg D) : FnOk P w K mg base CX0 1 D.f_Radio___init__ D.fd_Radio___init__ ["self"] (spInit K D.C_Radio) := by
  refine T.F_Radio___init__.ok sc_Radio___init__ (fun vs H Q E h => ?_) (fun cdv A outer s H vs Q E hr h => ?_)
  · obtain ⟨L, cs, p, dx, rfl, _⟩ := h
    rfl
  · obtain ⟨L, cs, p, dx, rfl, W, k⟩ := h
    refine ⟨_, (pss_one (ps_fld (pv 0) pe_dnewT rfl)), ?_⟩
    dsimp only [tDNewT, cxOf, Cx.nox, Cx.wish, tVar, tC, tOp, tUn, tCons, tNil, tCall, tMeth, tMake, tCB, tAsg, gName, gSub, gTup, gCons, gNil, tPar, tAug, tRet, tRetN, tSeq, tNext, tIfS, tB, tTest, tAnd, tOr, tNot, tNotV, tAndV, tOrV, tIf, tDrop, tBM, tBM0, tTup, tLst, tFld, tM0, tM1, tDGet2, tDGet, tDIn, tDNotIn, tDNewT, tIfS, tDGet1, tDSetdT, tFor_e, tLc_e, tWhile, tYes, iList_e, iTup_e, iKeys, tLockE, tCKw, iZip, iRng1, iRng2, tSl, tPart, tNoPart, tTup, tLst, tIsN, tNotN, sFld, tCut, List.append_nil, List.nil_append, List.cons_append, tDrop, tCmp, t2I]
    refine fun d hd => ?_
    have W1 := W.newR hd (o := .dT [])
    have W2 := W1.swap
    refine ⟨_, rfl, p, D.C_Radio, dx, [], rfl, W2.c0, T.cl_Radio, T.na_Radio_known, by decide, ?_⟩
    have W3 := W2.putR (o' := .ins D.C_Radio dx [("known", V.ref d)])
    exact k _ d (W3.perm (List.Perm.cons _ (List.Perm.swap _ _ _)))
theorem radC_front (C p dx d : Addr) (R1 R2 : List Ent) (e : Ent) (cs : Cs) : (radC C p dx d (R1 ++ e :: R2) ++ cs).Perm (entC e :: ((p, CO.raw (.ins C dx [("known", .ref d)])) :: (dx, .raw (.own p)) :: (d, .raw (.dT (kvsOf (R1 ++ e :: R2)))) :: (R1.map entC ++ (R2.map entC ++ cs)))) := by
  unfold radC
  rw [List.map_append, List.map_cons]
  simp only [List.cons_append, List.append_assoc]
  exact (List.Perm.cons _ ((List.Perm.cons _ ((List.Perm.cons _ List.perm_middle).trans (List.Perm.swap _ _ _))).trans (List.Perm.swap _ _ _))).trans (List.Perm.swap _ _ _)
theorem ok_Radio_hears (T : Txt K mg D) : FnOk P w K mg base CX0 1 D.f_Radio_hears D.fd_Radio_hears ["self", "sender", "number", "text"] (spHears K D.C_Radio) := by
  refine T.F_Radio_hears.ok sc_Radio_hears (fun vs H Q E h => ?_) (fun cdv A outer s H vs Q E hr h => ?_)
  · obtain ⟨L, cs, p, dx, d, R, n, w, m, t, rfl, _⟩ := h
    rfl
  · obtain ⟨L, cs, p, dx, d, R, n, w, m, t, rfl, W, hR, hn, ow, k⟩ := h
    refine ⟨_, (pss_cut (ps_set (i := 4) sc_Radio_hears.nd rfl (by first | exact .inl rfl | exact .inr rfl) (pe_dsetdT (hu_of hr) (pe_fld (pv 0) rfl) (pe_tup (pa_cons (pv 1) (pa_cons (pv 2) pa_nil))) (pe_lst pa_nil) ⟨rfl, rfl, rfl, rfl⟩))
    (pss_cons (ps_if (pt_cmpR op_in_seq (pv 3) (pv 4) (by rfl)) (pss_one (ps_ret pe_str))
      pss_nil)
    (pss_cons (ps_expr (pe_bm PySem.F.plainAttrs_list PySem.F.slot_list_append PySem.F.type_list_append mt_append (pv 4) (pa_cons (pv 3) pa_nil)))
    (pss_one (ps_ret (pe_ifExp (pt_cmpR op_eq (pe_callB cr_len rfl T.n_len B_len (pa_cons (pv 4) pa_nil)) pe_int (nomark _)) pe_str pe_str)))))), ?_⟩
    dsimp only [cxOf, Cx.nox, Cx.wish, tVar, tC, tOp, tUn, tCons, tNil, tCall, tMeth, tMake, tCB, tAsg, gName, gSub, gTup, gCons, gNil, tPar, tAug, tRet, tRetN, tSeq, tNext, tIfS, tB, tTest, tAnd, tOr, tNot, tNotV, tAndV, tOrV, tIf, tDrop, tBM, tBM0, tTup, tLst, tFld, tM0, tM1, tDGet2, tDGet, tDIn, tDNotIn, tDNewT, tIfS, tDGet1, tDSetdT, tFor_e, tLc_e, tWhile, tYes, iList_e, iTup_e, iKeys, tLockE, tCKw, iZip, iRng1, iRng2, tSl, tPart, tNoPart, tTup, tLst, tIsN, tNotN, sFld, tCut, List.append_nil, List.nil_append, List.cons_append, tDrop, tCmp, t2I]
    have m0 : (p, CO.raw (.ins D.C_Radio dx [("known", .ref d)])) ∈ radC D.C_Radio p dx d R ++ cs := List.mem_cons_self
    have m2 : (d, CO.raw (.dT (kvsOf R))) ∈ radC D.C_Radio p dx d R ++ cs := by simp [radC]
    refine ⟨fun σ' H' => ∃ (l : Addr) (ts : List Str) (R1 R2 : List Ent), σ' = [some (.ref p), some (.str w), some (.int m), some (.str t), some (.ref l)] ∧ Wd K H' L (radC D.C_Radio p dx d (R1 ++ ((w, m), l, ts) :: R2) ++ cs) ∧
      ts.length ≤ n ∧ ts.Nodup ∧ (∀ x ∈ ts, True) ∧ wfR (n + 1) (R1 ++ ((w, m), l, [t]) :: R2) ∧ (∀ a b c, Hd R a b c ↔ Hd (R1 ++ ((w, m), l, ts) :: R2) a b c), ?_, ?_⟩
    · refine ⟨_, rfl, p, D.C_Radio, dx, _, _, rfl, W.at m0, T.cl_Radio, T.na_Radio_known, rfl, d, rfl, .inr ⟨_, .inl (W.at m2)⟩, _, rfl, _, rfl, szl rfl, fun b hb => ⟨szl rfl, fun l hl => ?_⟩⟩
      have Wa := W.newR hb (o := .tup [.str w, .int m])
      have Wb := Wa.newL (xs := []) (ds := []) hl .nil
      have m3 : (d, CO.raw (.dT (kvsOf R))) ∈ (l, CO.dl []) :: (b, CO.raw (.tup [.str w, .int m])) :: (radC D.C_Radio p dx d R ++ cs) := by simp [radC]
      have m4 : (b, CO.raw (.tup [.str w, .int m])) ∈ (l, CO.dl []) :: (b, CO.raw (.tup [.str w, .int m])) :: (radC D.C_Radio p dx d R ++ cs) := by simp
      have hz : (kvsOf R).length < sizeLine := by
        have : (kvsOf R).length = R.length := List.length_map _
        have := hR.len
        exact Nat.lt_of_le_of_lt (show (kvsOf R).length ≤ 1000 by omega) (by decide)
      refine ⟨kvsOf R, keyOf (w, m), b, Wb.at m3, rfl, Wb.at m4, hz, fun v hv => ?_, fun hv => ?_⟩
      · obtain ⟨R1, e, R2, rfl, he, rfl⟩ := val_some hv
        obtain ⟨ek, el, ets⟩ := e
        simp only at he
        subst he
        have hm : ((w, m), el, ets) ∈ R1 ++ ((w, m), el, ets) :: R2 := by simp
        obtain ⟨q1, q2, q3⟩ := hR.txt _ hm
        refine ⟨el, ets, R1, R2, rfl, Wb.drop1.drop1, q3, q2, (fun _ _ => trivial), ⟨?_, ?_, ?_, fun x hx => ?_⟩, fun _ _ _ => Iff.rfl⟩
        · have := hR.nd
          rw [List.map_append, List.map_cons] at this ⊢
          exact this
        · have := hR.len
          rw [List.length_append, List.length_cons] at this ⊢
          omega
        · intro x hx
          rcases List.mem_append.mp hx with hx | hx
          · obtain ⟨a1, a2, a3⟩ := hR.txt x (by simp [hx])
            exact ⟨a1, a2, by omega⟩
          · rcases List.mem_cons.mp hx with rfl | hx
            · exact ⟨by simp, by simp, by simp⟩
            · obtain ⟨a1, a2, a3⟩ := hR.txt x (by simp [hx])
              exact ⟨a1, a2, by omega⟩
        · rcases List.mem_append.mp hx with hx | hx
          · exact hR.ok x (by simp [hx])
          · rcases List.mem_cons.mp hx with rfl | hx
            · exact ow
            · exact hR.ok x (by simp [hx])
      · refine ⟨l, [], R, [], rfl, ?_, Nat.zero_le _, List.nodup_nil, (fun x hx => by cases hx), ⟨?_, ?_, ?_, fun x hx => ?_⟩, fun a b c => ?_⟩
        · have Wc := (Wb.mv 4).putR (o' := .dT (putK (kvsOf R) (keyOf (w, m)) (.ref l)))
          have ek := putK_none (l := l) (ts := []) hv
          rw [ek] at Wc ⊢
          have We := (Wc.mv 2).drop1
          refine We.perm ?_
          unfold radC
          rw [List.map_append]
          simp only [List.cons_append, List.append_assoc, List.map_cons, List.map_nil, List.nil_append]
          exact ((mvl_perm 2 _).trans (List.Perm.cons _ ((mvl_perm 2 _).trans (List.Perm.cons _ (List.Perm.cons _ List.perm_middle.symm)))))
        · have h1 := val_none hv
          rw [List.map_append, List.map_singleton, List.nodup_append]
          refine ⟨hR.nd, by simp, fun a ha b hb => ?_⟩
          obtain ⟨e, he, rfl⟩ := List.mem_map.mp ha
          rw [List.mem_singleton.mp hb]
          exact h1 e he
        · rw [List.length_append, List.length_singleton]
          have := hR.len
          omega
        · intro x hx
          rcases List.mem_append.mp hx with hx | hx
          · obtain ⟨a1, a2, a3⟩ := hR.txt x hx
            exact ⟨a1, a2, by omega⟩
          · rw [List.mem_singleton.mp hx]
            exact ⟨by simp, by simp, by simp⟩
        · rcases List.mem_append.mp hx with hx | hx
          · exact hR.ok x hx
          · rw [List.mem_singleton.mp hx]
            exact ow
        · unfold Hd
          constructor
          · rintro ⟨e, he, h1, h2⟩
            exact ⟨e, by simp [he], h1, h2⟩
          · rintro ⟨e, he, h1, h2⟩
            rcases List.mem_append.mp he with he | he
            · exact ⟨e, he, h1, h2⟩
            · rw [List.mem_singleton.mp he] at h2
              simp at h2
    · rintro σ' H' ⟨l, ts, R1, R2, rfl, W, hl, hnd, hok, hw, hh⟩
      have m5 : (l, CO.dl (ts.map .str)) ∈ radC D.C_Radio p dx d (R1 ++ ((w, m), l, ts) :: R2) ++ cs := by simp [radC, entC]
      have wf' : ∀ ts' : List Str, ts' ≠ [] → ts'.Nodup → ts'.length ≤ n + 1 → (∀ x ∈ ts', True) → wfR (n + 1) (R1 ++ ((w, m), l, ts') :: R2) := fun ts' h1 h2 h3 h4 => by
        refine ⟨?_, ?_, fun x hx => ?_, fun x hx => ?_⟩
        · have := hw.nd
          rw [List.map_append, List.map_cons] at this ⊢
          exact this
        · have := hw.len
          rw [List.length_append, List.length_cons] at this ⊢
          omega
        · rcases List.mem_append.mp hx with hx | hx
          · exact hw.txt x (by simp [hx])
          · rcases List.mem_cons.mp hx with rfl | hx
            · exact ⟨h1, h2, h3⟩
            · exact hw.txt x (by simp [hx])
        · rcases List.mem_append.mp hx with hx | hx
          · exact hw.ok x (by simp [hx])
          · rcases List.mem_cons.mp hx with rfl | hx
            · exact ow
            · exact hw.ok x (by simp [hx])
      refine ⟨_, rfl, _, rfl, w_inLs W (.cell m5) ⟨_, rfl, ?_⟩⟩
      refine ite2 (fun hc => ?_) (fun hc => ?_)
      · have hc : t ∈ ts := of_decide_eq_true hc
        refine k _ _ _ ⟨wf' ts (fun q => by rw [q] at hc; simp at hc) hnd (by omega) hok, fun a b c => ?_⟩ W
        rw [hh a b c]
        refine ⟨.inl, fun q => q.elim id fun ⟨h1, h2, h3⟩ => ?_⟩
        subst h1 h2 h3
        exact ⟨((a, b), l, ts), by simp, rfl, hc⟩
      · have hc : ¬ t ∈ ts := fun q => hc (decide_eq_true q)
        refine ⟨_, rfl, tyv_cell W m5, _, rfl, w_app (W.perm (radC_front _ _ _ _ _ _ _ _)) .str ?_ fun H W => ?_⟩
        · rw [List.length_map]
          show ts.length < 100000
          omega
        · have W : Wd K H L (radC D.C_Radio p dx d (R1 ++ ((w, m), l, ts ++ [t]) :: R2) ++ cs) := by
            have e : (kvsOf (R1 ++ ((w, m), l, ts ++ [t]) :: R2)) = kvsOf (R1 ++ ((w, m), l, ts) :: R2) := by simp [kvsOf]
            refine W.perm ((radC_front D.C_Radio p dx d R1 R2 ((w, m), l, ts ++ [t]) cs).trans ?_).symm
            rw [e]
            simp only [entC, List.map_append, List.map_cons, List.map_nil]
            exact .refl _
          have m6 : (l, CO.dl ((ts ++ [t]).map .str)) ∈ radC D.C_Radio p dx d (R1 ++ ((w, m), l, ts ++ [t]) :: R2) ++ cs := by simp [radC, entC]
          have fin : ∀ v, Q v H := fun v => by
            refine k v _ _ ⟨wf' (ts ++ [t]) (by simp) ?_ (by rw [List.length_append, List.length_singleton]; omega) (fun x hx => by
              rcases List.mem_append.mp hx with hx | hx
              · exact hok x hx
              · trivial), fun a b c => ?_⟩ W
            · rw [List.nodup_append]
              exact ⟨hnd, by simp, fun a ha b hb => by rw [List.mem_singleton.mp hb]; intro q; exact hc (q ▸ ha)⟩
            · rw [hh a b c]
              unfold Hd
              constructor
              · rintro ⟨e, he, h1, h2⟩
                rcases List.mem_append.mp he with he | he
                · exact .inl ⟨e, by simp [he], h1, h2⟩
                · rcases List.mem_cons.mp he with rfl | he
                  · simp only [List.mem_append, List.mem_singleton] at h2
                    rcases h2 with h2 | h2
                    · exact .inl ⟨((w, m), l, ts), by simp, h1, h2⟩
                    · have h1 : (w, m) = (a, b) := h1
                      cases h1
                      exact .inr ⟨rfl, rfl, h2⟩
                  · exact .inl ⟨e, by simp [he], h1, h2⟩
              · rintro (⟨e, he, h1, h2⟩ | ⟨rfl, rfl, rfl⟩)
                · rcases List.mem_append.mp he with he | he
                  · exact ⟨e, by simp [he], h1, h2⟩
                  · rcases List.mem_cons.mp he with rfl | he
                    · exact ⟨((w, m), l, ts ++ [t]), List.mem_append_right _ List.mem_cons_self, h1, List.mem_append_left _ h2⟩
                    · exact ⟨e, by simp [he], h1, h2⟩
                · exact ⟨((a, b), l, ts ++ [c]), List.mem_append_right _ List.mem_cons_self, rfl, by simp⟩
          refine ⟨_, rfl, w_len W (.cell m6) ⟨rfl, _, rfl, ite2 (fun _ => fin _) fun _ => fin _⟩⟩
end
end My

namespace My
open PySem L2 Wb
local macro_rules | `(tactic| walk_at "has") => `(tactic| first | exact Wb.Has.int | exact Wb.Has.str | exact Wb.Has.bl | exact Wb.Has.non | exact Wb.Has.hd | assumption | (apply Wb.Has.tl; walk_at "has"))
local macro_rules | `(tactic| walk_at "ha") => `(tactic| first | exact Wb.HasA.nil | (refine Wb.HasA.cons ?_ ?_; (walk_at "has"); (walk_at "ha")))
local macro_rules | `(tactic| walk_at "ds") => `(tactic| dsimp only [cxOf, Cx.nox, Cx.wish, tVar, tC, tOp, tUn, tCons, tNil, tCall, tMeth, tMake, tCB, tAsg, gName, gSub, gTup, gCons, gNil, tPar, tAug, tRet, tRetN, tSeq, tNext, tIfS, tB, tTest, tAnd, tOr, tNot, tNotV, tAndV, tOrV, tIf, tDrop, tBM, tBM0, tTup, tLst, tFld, tM0, tM1, tDGet2, tDGet, tDIn, tDNotIn, tDNewT, tIfS, tDGet1, tDSetdT, tFor_e, tLc_e, tWhile, tYes, iList_e, iTup_e, iKeys, tLockE, tCKw, iZip, iRng1, iRng2, tSl, tPart, tNoPart, tTup, tLst, tIsN, tNotN, sFld, tCut, List.append_nil, List.nil_append, List.cons_append, tDrop, tCmp, t2I])


abbrev Pr := Str → Int → Str → Prop
def Un1 (P : Pr) (w : Str) (n : Int) (t : Str) : Prop := P w n t ∧ ∀ t', P w n t' → t' = t
open Classical in
noncomputable def sto (P : Pr) (w : Str) (n : Int) : Option Str := if h : ∃ t, Un1 P w n t then some h.choose else none
theorem sto_some {P : Pr} {w : Str} {n : Int} {t : Str} (h : Un1 P w n t) : sto P w n = some t := by
  have h0 : ∃ t, Un1 P w n t := ⟨t, h⟩
  unfold sto
  rw [dif_pos h0, h.2 _ h0.choose_spec.1]
theorem sto_none {P : Pr} {w : Str} {n : Int} (h : ¬ ∃ t, Un1 P w n t) : sto P w n = none := dif_neg h
theorem of_sto {P : Pr} {w : Str} {n : Int} {t : Str} (h : sto P w n = some t) : Un1 P w n t := by
  by_cases h0 : ∃ t, Un1 P w n t
  · obtain ⟨u, hu⟩ := h0
    rw [sto_some hu] at h
    cases h
    exact hu
  · rw [sto_none h0] at h; cases h
def optS : Option Str → V
  | none => .non
  | some t => .str t
def optD : Option Str → PyData
  | none => .none
  | some t => .str t
def Sub (a b : Cs) : Prop := ∀ c ∈ a, c ∈ b
def spStand (K : PySem.W.Frag) (C : Addr) : Sp := fun vs H Q _ => ∃ (L : Lk) (cs : Cs) (p dx d : Addr) (R : List Ent) (n : Nat) (w : Str) (m : Int), vs = [.ref p, .str w, .int m] ∧ Wd K H L cs ∧ Sub (radC C p dx d R) cs ∧ wfR n R ∧ n ≤ 1000 ∧
  ∀ H', Wd K H' L cs → Q (optS (sto (Hd R) w m)) H'
theorem one_of_len {ts : List Str} (h : ts.length = 1) : ∃ t, ts = [t] := by
  match ts, h with
  | [t], _ => exact ⟨t, rfl⟩
theorem sto_len {R : List Ent} {w : Str} {m : Int} {ts : List Str} (hnd : ts.Nodup) (hh : ∀ t, Hd R w m t ↔ t ∈ ts) (h : ts.length ≠ 1) : sto (Hd R) w m = none := by
  refine sto_none fun ⟨t, h1, h2⟩ => h ?_
  have h3 := (hh t).mp h1
  match ts, hnd with
  | [], _ => cases h3
  | [a], _ => rfl
  | a :: b :: r, hnd =>
    have ha := h2 a ((hh a).mpr (by simp))
    have hb := h2 b ((hh b).mpr (by simp))
    rw [ha, hb] at hnd
    simp at hnd
section
variable {P : Program} {w : World} {K : PySem.W.Frag} {mg : Str → Option Value} {D : Ad} {base : Heap}

theorem ok_Radio_standing (T : Txt K mg D) : FnOk P w K mg base CX0 1 D.f_Radio_standing D.fd_Radio_standing ["self", "sender", "number"] (spStand K D.C_Radio) := by
  refine T.F_Radio_standing.ok sc_Radio_standing (fun vs H Q E h => ?_) (fun cdv A outer s H vs Q E hr h => ?_)
  · obtain ⟨L, cs, p, dx, d, R, n, w, m, rfl, _⟩ := h
    rfl
  · obtain ⟨L, cs, p, dx, d, R, n, w, m, rfl, W, hS, hR, hn, k⟩ := h
    refine ⟨_, (pss_cut (ps_set (i := 3) sc_Radio_standing.nd rfl (by first | exact .inl rfl | exact .inr rfl) (pe_dget2 (hu_of hr) (pe_fld (pv 0) rfl) (pe_tup (pa_cons (pv 1) (pa_cons (pv 2) pa_nil))) (pe_lst pa_nil) ⟨rfl, rfl, rfl, rfl⟩))
    (pss_one (ps_ret (pe_ifExp (pt_cmpR op_eq (pe_callB cr_len rfl T.n_len B_len (pa_cons (pv 3) pa_nil)) pe_int (nomark _)) (pe_ix ix_list (pv 3) pe_int (fun _ _ => rfl)) pe_non)))), ?_⟩
    dsimp only [cxOf, Cx.nox, Cx.wish, tVar, tC, tOp, tUn, tCons, tNil, tCall, tMeth, tMake, tCB, tAsg, gName, gSub, gTup, gCons, gNil, tPar, tAug, tRet, tRetN, tSeq, tNext, tIfS, tB, tTest, tAnd, tOr, tNot, tNotV, tAndV, tOrV, tIf, tDrop, tBM, tBM0, tTup, tLst, tFld, tM0, tM1, tDGet2, tDGet, tDIn, tDNotIn, tDNewT, tIfS, tDGet1, tDSetdT, tFor_e, tLc_e, tWhile, tYes, iList_e, iTup_e, iKeys, tLockE, tCKw, iZip, iRng1, iRng2, tSl, tPart, tNoPart, tTup, tLst, tIsN, tNotN, sFld, tCut, List.append_nil, List.nil_append, List.cons_append, tDrop, tCmp, t2I]
    have m0 : (p, CO.raw (.ins D.C_Radio dx [("known", .ref d)])) ∈ cs := hS _ List.mem_cons_self
    have m2 : (d, CO.raw (.dT (kvsOf R))) ∈ cs := hS _ (by simp [radC])
    refine ⟨fun σ' H' => ∃ (v : V) (cs' : Cs) (ts : List Str), σ' = [some (.ref p), some (.str w), some (.int m), some v] ∧ Wd K H' L cs' ∧ cs.Sublist cs' ∧ Rdb L cs' v (.list (ts.map .str)) ∧
      ts.Nodup ∧ (∀ t, Hd R w m t ↔ t ∈ ts), ?_, ?_⟩
    · refine ⟨_, rfl, p, D.C_Radio, dx, _, _, rfl, W.at m0, T.cl_Radio, T.na_Radio_known, rfl, d, rfl, .inr ⟨_, .inl (W.at m2)⟩, _, rfl, _, rfl, szl rfl, fun b hb => ⟨szl rfl, fun l hl => ?_⟩⟩
      have Wa := W.newR hb (o := .tup [.str w, .int m])
      have Wb := Wa.newL (xs := []) (ds := []) hl .nil
      have m3 : (d, CO.raw (.dT (kvsOf R))) ∈ (l, CO.dl []) :: (b, CO.raw (.tup [.str w, .int m])) :: cs := List.mem_cons_of_mem _ (List.mem_cons_of_mem _ m2)
      have m4 : (b, CO.raw (.tup [.str w, .int m])) ∈ (l, CO.dl []) :: (b, CO.raw (.tup [.str w, .int m])) :: cs := by simp
      refine ⟨_, DGet.t (k := keyOf (w, m)) (Wb.at m3) (Wb.at m4), ?_⟩
      cases hv : valV (kvsOf R) (keyOf (w, m)) with
      | none =>
        refine ⟨_, _, [], rfl, Wb, ((List.Sublist.refl _).cons _).cons _, .c0, List.nodup_nil, fun t => ⟨fun ⟨e, he, h1, _⟩ => absurd h1 (val_none hv e he), fun z => by cases z⟩⟩
      | some v =>
        obtain ⟨R1, e, R2, rfl, he, rfl⟩ := val_some hv
        obtain ⟨ek, el, ets⟩ := e
        simp only at he
        subst he
        have hm : ((w, m), el, ets) ∈ R1 ++ ((w, m), el, ets) :: R2 := by simp
        have m5 : (el, CO.dl (ets.map .str)) ∈ cs := hS _ (by simp [radC, entC])
        refine ⟨_, _, ets, rfl, Wb, ((List.Sublist.refl _).cons _).cons _, .cell (List.mem_cons_of_mem _ (List.mem_cons_of_mem _ m5)), (hR.txt _ hm).2.1, fun t => ⟨fun ⟨e, he, h1, h2⟩ => ?_, fun z => ⟨_, hm, rfl, z⟩⟩⟩
        have hnd := hR.nd
        have e2 : e = ((w, m), el, ets) := by
          have key : ∀ {l : List Ent}, (l.map (·.1)).Nodup → ∀ a ∈ l, ∀ b ∈ l, a.1 = b.1 → a = b := fun {l} => by
            induction l with
            | nil => intro _ a ha; cases ha
            | cons x r ih =>
              intro hn a ha b hb hab
              rw [List.map_cons, List.nodup_cons] at hn
              rcases List.mem_cons.mp ha with rfl | ha1 <;> rcases List.mem_cons.mp hb with rfl | hb1
              · rfl
              · exact absurd (List.mem_map.mpr ⟨b, hb1, hab.symm⟩) hn.1
              · exact absurd (List.mem_map.mpr ⟨a, ha1, hab⟩) hn.1
              · exact ih hn.2 a ha1 b hb1 hab
          exact key hnd _ he _ hm h1
        rw [e2] at h2
        exact h2
    · rintro σ' H' ⟨v, cs', ts, rfl, W, hc, hv, hnd, hh⟩
      refine ⟨_, rfl, w_len W hv ⟨rfl, _, rfl, ite2 (fun hc1 => ?_) (fun hc1 => ?_)⟩⟩
      · have hl : ts.length = 1 := by
          have := of_decide_eq_true hc1
          rw [List.length_map] at this
          injection this with this
          omega
        obtain ⟨t, rfl⟩ := one_of_len hl
        refine ⟨_, rfl, w_ixLs W hv rfl ?_⟩
        rw [show V.str t = optS (sto (Hd R) w m) from by rw [sto_some ⟨(hh t).mpr (by simp), fun t' h' => by simpa using (hh t').mp h'⟩]; rfl]
        exact k _ (W.drop hc)
      · have hl : ts.length ≠ 1 := fun q => hc1 (decide_eq_true (by simp [q]))
        rw [show V.non = optS (sto (Hd R) w m) from by rw [sto_len hnd hh hl]; rfl]
        exact k _ (W.drop hc)
end
end My

namespace My
open PySem L2 Wb
local macro_rules | `(tactic| walk_at "has") => `(tactic| first | exact Wb.Has.int | exact Wb.Has.str | exact Wb.Has.bl | exact Wb.Has.non | exact Wb.Has.hd | assumption | (apply Wb.Has.tl; walk_at "has"))
local macro_rules | `(tactic| walk_at "ha") => `(tactic| first | exact Wb.HasA.nil | (refine Wb.HasA.cons ?_ ?_; (walk_at "has"); (walk_at "ha")))
local macro_rules | `(tactic| walk_at "ds") => `(tactic| dsimp only [cxOf, Cx.nox, Cx.wish, tVar, tC, tOp, tUn, tCons, tNil, tCall, tMeth, tMake, tCB, tAsg, gName, gSub, gTup, gCons, gNil, tPar, tAug, tRet, tRetN, tSeq, tNext, tIfS, tB, tTest, tAnd, tOr, tNot, tNotV, tAndV, tOrV, tIf, tDrop, tBM, tBM0, tTup, tLst, tFld, tM0, tM1, tDGet2, tDGet, tDIn, tDNotIn, tDNewT, tIfS, tDGet1, tDSetdT, tFor_e, tLc_e, tWhile, tYes, iList_e, iTup_e, iKeys, tLockE, tCKw, iZip, iRng1, iRng2, tSl, tPart, tNoPart, tTup, tLst, tIsN, tNotN, sFld, tCut, List.append_nil, List.nil_append, List.cons_append, tDrop, tCmp, t2I])


theorem take_succ1 {α : Type} {l : List α} {i : Nat} {e : α} (h : l[i]? = some e) : l.take (i + 1) = l.take i ++ [e] := by
  rw [List.take_succ, h]; rfl
def Gr (P : Pr) (w : Str) (g : Int) : Prop := (g = 0 ∧ ∀ n t, ¬ P w n t) ∨ ((∃ t, P w g t) ∧ ∀ n t, P w n t → n ≤ g)
theorem Gr.uniq {P : Pr} {w : Str} {g g' : Int} (h : Gr P w g) (h' : Gr P w g') : g = g' := by
  rcases h with ⟨h1, h2⟩ | ⟨⟨t, h1⟩, h2⟩ <;> rcases h' with ⟨h3, h4⟩ | ⟨⟨t', h3⟩, h4⟩
  · omega
  · exact absurd h3 (h2 _ _)
  · exact absurd h1 (h4 _ _)
  · have := h2 _ _ h3
    have := h4 _ _ h1
    omega
def spGreat (K : PySem.W.Frag) (C : Addr) : Sp := fun vs H Q _ => ∃ (L : Lk) (cs : Cs) (p dx d : Addr) (R : List Ent) (n : Nat) (w : Str), vs = [.ref p, .str w] ∧ Wd K H L cs ∧ Sub (radC C p dx d R) cs ∧ noTup cs ∧ wfR n R ∧ n ≤ 1000 ∧
  ∀ H' g, Gr (Hd R) w g → Wd K H' L cs → Q (.int g) H'
theorem Wd.split {K : PySem.W.Frag} {H : Hp} {L : Lk} {cs : Cs} {c : Addr × CO} (h : c ∈ cs) : ∃ r, cs.Perm (c :: r) ∧ ∀ x ∈ r, x ∈ cs := by
  obtain ⟨s, t, rfl⟩ := List.append_of_mem h
  exact ⟨s ++ t, List.perm_middle, fun x hx => by
    rcases List.mem_append.mp hx with hx | hx
    · simp [hx]
    · simp [hx]⟩
def grL (w : Str) (R : List Ent) : List Int := R.filterMap fun e => if e.1.1 = w then some e.1.2 else none
theorem grL_one {w : Str} (e : Ent) : grL w [e] = if e.1.1 = w then [e.1.2] else [] := by
  unfold grL
  by_cases h : e.1.1 = w <;> simp [h]
theorem grL_app (w : Str) (a b : List Ent) : grL w (a ++ b) = grL w a ++ grL w b := by unfold grL; exact List.filterMap_append
theorem mem_grL {w : Str} {R : List Ent} {n : Int} : n ∈ grL w R ↔ ∃ e ∈ R, e.1 = (w, n) := by
  unfold grL
  rw [List.mem_filterMap]
  constructor
  · rintro ⟨e, he, h⟩
    split at h
    · rename_i q
      cases h
      exact ⟨e, he, by rw [← q]⟩
    · cases h
  · rintro ⟨e, he, h⟩
    exact ⟨e, he, by rw [h]; simp⟩
theorem kvs_at {R : List Ent} {i : Nat} {k : List L2.Key} {v : V} (h : (kvsOf R)[i]? = some (k, v)) : ∃ e, R[i]? = some e ∧ k = keyOf e.1 ∧ v = .ref e.2.1 := by
  unfold kvsOf at h
  rw [List.getElem?_map] at h
  cases q : R[i]? with
  | none => rw [q] at h; cases h
  | some e => rw [q] at h; cases h; exact ⟨e, rfl, rfl, rfl⟩
section
variable {P : Program} {w : World} {K : PySem.W.Frag} {mg : Str → Option Value} {D : Ad} {base : Heap}

theorem ok_Radio_greatest (T : Txt K mg D) : FnOk P w K mg base CX0 1 D.f_Radio_greatest D.fd_Radio_greatest ["self", "sender"] (spGreat K D.C_Radio) := by
  refine T.F_Radio_greatest.ok sc_Radio_greatest (fun vs H Q E h => ?_) (fun cdv A outer s H vs Q E hr h => ?_)
  · obtain ⟨L, cs, p, dx, d, R, n, w, rfl, _⟩ := h
    rfl
  · obtain ⟨L, cs, p, dx, d, R, n, w, rfl, W, hS, hN, hR, hn, k⟩ := h
    refine ⟨_, (pss_one (ps_ret (pe_callBK (max_ok hr) rfl T.n_max B_max (pa_cons (pe_lock (pe_lc (own := [("name", 2), ("number", 3)]) (g := (gTup K 2 (gCons (gName 2) (gCons (gName 3) gNil)))) rfl sc_Radio_greatest.nd (pi_keys (pe_fld (pv 0) rfl)) (blkOk_by (N := ["self", "sender", "name", "number"]) (sc := (defScope s_Radio_greatest)) (by decide +kernel)) (fun _ _ _ _ _ => (pg_tup rfl (pgs_cons (pg_name (i := 2) sc_Radio_greatest.nd rfl (by first | exact .inl rfl | exact .inr rfl)) (pgs_cons (pg_name (i := 3) sc_Radio_greatest.nd rfl (by first | exact .inl rfl | exact .inr rfl)) pgs_nil)))) (fun _ _ _ _ _ => (pts_one (pt_cmpR op_eq (pv 2) (pv 1) (nomark _)))) (fun _ _ _ _ _ => (pv 3)))) pa_nil) (pk_cons pe_int pk_nil)))), ?_⟩
    dsimp only [cxOf, Cx.nox, Cx.wish, tVar, tC, tOp, tUn, tCons, tNil, tCall, tMeth, tMake, tCB, tAsg, gName, gSub, gTup, gCons, gNil, tPar, tAug, tRet, tRetN, tSeq, tNext, tIfS, tB, tTest, tAnd, tOr, tNot, tNotV, tAndV, tOrV, tIf, tDrop, tBM, tBM0, tTup, tLst, tFld, tM0, tM1, tDGet2, tDGet, tDIn, tDNotIn, tDNewT, tIfS, tDGet1, tDSetdT, tFor_e, tLc_e, tWhile, tYes, iList_e, iTup_e, iKeys, tLockE, tCKw, iZip, iRng1, iRng2, tSl, tPart, tNoPart, tTup, tLst, tIsN, tNotN, sFld, tCut, List.append_nil, List.nil_append, List.cons_append, tDrop, tCmp, t2I]
    have m0 : (p, CO.raw (.ins D.C_Radio dx [("known", .ref d)])) ∈ cs := hS _ List.mem_cons_self
    have m2 : (d, CO.raw (.dT (kvsOf R))) ∈ cs := hS _ (by simp [radC])
    obtain ⟨r, hp, hsub⟩ := Wd.split (K := K) (H := H) (L := L) m2
    refine ⟨d, .dT (kvsOf R), W.at m2, True.intro, fun od => ?_⟩
    have Wl := (W.perm hp).putR (o' := .frz od (.dT (kvsOf R)))
    have m0' : (p, CO.raw (.ins D.C_Radio dx [("known", .ref d)])) ∈ (d, CO.raw (.frz od (.dT (kvsOf R)))) :: r := by
      rcases List.mem_cons.mp (hp.mem_iff.mp m0) with q | q
      · cases q
      · exact List.mem_cons_of_mem _ q
    refine ⟨_, rfl, p, D.C_Radio, dx, _, _, rfl, Wl.at m0', T.cl_Radio, T.na_Radio_known, rfl, d, od, rfl, .inr ⟨kvsOf R, Wl.c0, ?_⟩⟩
    refine w_lcKT (fun i acc cs' => cs' = (d, CO.raw (.frz od (.dT (kvsOf R)))) :: r ∧ acc = (grL w (R.take i)).map .int) Wl ⟨rfl, rfl⟩ (fun i acc cs' h => by rw [h.1]; exact List.mem_cons_self) (fun i acc cs' h c hc xs => ?_) (fun D i q ky v acc cs' H hk hs hq W => ?_) (fun D acc cs' H hs W => ?_)
    · rw [h.1] at hc
      rcases List.mem_cons.mp hc with rfl | hc
      · intro z; cases z
      · exact hN _ (hsub _ hc) xs
    · obtain ⟨rfl, rfl⟩ := hs
      obtain ⟨e, he, rfl, rfl⟩ := kvs_at hk
      refine ⟨q, _, rfl, .inl (.inl hq), rfl, _, _, rfl, _, _, rfl, rfl, rfl, ?_⟩
      walk_at "ds"
      have hlen : (grL w (R.take i)).length < 100000 := by
        have h1 : (grL w (R.take i)).length ≤ (R.take i).length := List.length_filterMap_le _ _
        have h2 : (R.take i).length ≤ R.length := List.length_take_le' _ _
        have := hR.len
        omega
      have hst : grL w (R.take (i + 1)) = grL w (R.take i) ++ (if e.1.1 = w then [e.1.2] else []) := by
        rw [take_succ1 he, grL_app, grL_one]
      refine ⟨_, rfl, _, rfl, rfl, _, rfl, ite2 (fun hc => ?_) (fun hc => ?_)⟩
      · have hc : e.1.1 = w := by
          have := of_decide_eq_true hc
          injection this
        refine ⟨_, rfl, w_el W (fun p hp => List.mem_cons_of_mem _ hp) (d := .int e.1.2) .int (by rw [List.length_map]; exact hlen) ⟨rfl, ?_⟩⟩
        rw [hst, if_pos hc, List.map_append]
        rfl
      · have hc : ¬ e.1.1 = w := fun q => hc (by rw [← q]; exact decide_eq_true rfl)
        refine w_no W (fun p hp => List.mem_cons_of_mem _ hp) ⟨rfl, ?_⟩
        rw [hst, if_neg hc, List.append_nil]
    · obtain ⟨rfl, rfl⟩ := hs
      have hl : (kvsOf R).length = R.length := List.length_map _
      rw [hl, List.take_length] at W
      have Wu := W.swap.putR (o' := .dT (kvsOf R))
      have fin : ∀ g, Gr (Hd R) w g → Q (.int g) _ := fun g hg => k _ g hg ((Wu.swap.drop1).perm hp.symm)
      refine ⟨W.at (by simp), w_maxI (ns := grL w R) Wu (.cell (by simp)) (fun e => ?_) (fun n hn hm => ?_)⟩
      · refine fin 0 (.inl ⟨rfl, fun n t ⟨e1, h1, h2, _⟩ => ?_⟩)
        have := mem_grL.mpr ⟨e1, h1, h2⟩
        rw [e] at this
        cases this
      · refine fin n (.inr ⟨?_, fun m t ⟨e1, h1, h2, _⟩ => hm m (mem_grL.mpr ⟨e1, h1, h2⟩)⟩)
        obtain ⟨e1, h1, h2⟩ := mem_grL.mp hn
        cases ht : e1.2.2 with
        | nil => exact absurd ht (hR.txt _ h1).1
        | cons t r => exact ⟨t, e1, h1, h2, by rw [ht]; simp⟩
end
end My

namespace My
open PySem L2 Wb
local macro_rules | `(tactic| walk_at "has") => `(tactic| first | exact Wb.Has.int | exact Wb.Has.str | exact Wb.Has.bl | exact Wb.Has.non | exact Wb.Has.hd | assumption | (apply Wb.Has.tl; walk_at "has"))
local macro_rules | `(tactic| walk_at "ha") => `(tactic| first | exact Wb.HasA.nil | (refine Wb.HasA.cons ?_ ?_; (walk_at "has"); (walk_at "ha")))
local macro_rules | `(tactic| walk_at "ds") => `(tactic| dsimp only [cxOf, Cx.nox, Cx.wish, tVar, tC, tOp, tUn, tCons, tNil, tCall, tMeth, tMake, tCB, tAsg, gName, gSub, gTup, gCons, gNil, tPar, tAug, tRet, tRetN, tSeq, tNext, tIfS, tB, tTest, tAnd, tOr, tNot, tNotV, tAndV, tOrV, tIf, tDrop, tBM, tBM0, tTup, tLst, tFld, tM0, tM1, tDGet2, tDGet, tDIn, tDNotIn, tDNewT, tIfS, tDGet1, tDSetdT, tFor_e, tLc_e, tWhile, tYes, iList_e, iTup_e, iKeys, tLockE, tCKw, iZip, iRng1, iRng2, tSl, tPart, tNoPart, tTup, tLst, tIsN, tNotN, sFld, tCut, List.append_nil, List.nil_append, List.cons_append, tDrop, tCmp, t2I])


def rdF (f : Int → Option Str) : Nat → Int → List Str
  | 0, _ => []
  | n + 1, k => match f k with
    | none => []
    | some t => t :: rdF f n (k + 1)
noncomputable abbrev rdP (P : Pr) (w : Str) : List Str := rdF (sto P w) 20 1
noncomputable def misP (P : Pr) (w : Str) (n : Nat) : List Int := ((List.range n).map fun i => (1 : Int) + (i : Nat)).filter fun k => (sto P w k).isNone
theorem misP_succ (P : Pr) (w : Str) (n : Nat) : misP P w (n + 1) = misP P w n ++ (if (sto P w (1 + (n : Nat))).isNone then [1 + ((n : Nat) : Int)] else []) := by
  unfold misP
  rw [List.range_succ, List.map_append, List.filter_append]
  congr 1
  by_cases h : (sto P w (1 + (n : Nat))).isNone <;> simp [h]
theorem misP_len (P : Pr) (w : Str) (n : Nat) : (misP P w n).length ≤ n := by
  unfold misP
  exact Nat.le_trans (List.length_filter_le _ _) (by simp)
def spRead (K : PySem.W.Frag) (C : Addr) : Sp := fun vs H Q _ => ∃ (L : Lk) (cs : Cs) (p dx d : Addr) (R : List Ent) (n : Nat) (w : Str), vs = [.ref p, .str w] ∧ Wd K H L cs ∧ Sub (radC C p dx d R) cs ∧ noTup cs ∧ wfR n R ∧ n ≤ 1000 ∧
  ∀ H' l, Wd K H' L ((l, .dl ((rdP (Hd R) w).map .str)) :: cs) → Q (.ref l) H'
def spMiss (K : PySem.W.Frag) (C : Addr) : Sp := fun vs H Q _ => ∃ (L : Lk) (cs : Cs) (p dx d : Addr) (R : List Ent) (n : Nat) (w : Str), vs = [.ref p, .str w] ∧ Wd K H L cs ∧ Sub (radC C p dx d R) cs ∧ noTup cs ∧ wfR n R ∧ n ≤ 1000 ∧
  ∀ H' l g, Gr (Hd R) w g → Wd K H' L ((l, .dl ((misP (Hd R) w (g - 1).toNat).map .int)) :: cs) → Q (.ref l) H'
theorem Sub.cons {a b : Cs} {c : Addr × CO} (h : Sub a b) : Sub a (c :: b) := fun x hx => List.mem_cons_of_mem _ (h x hx)
theorem noTup.cons_dl {cs : Cs} {l : Addr} {ds : List PyData} (h : noTup cs) : noTup ((l, .dl ds) :: cs) := fun c hc xs => by
  rcases List.mem_cons.mp hc with rfl | hc
  · intro z; cases z
  · exact h c hc xs
theorem optS_some {P : Pr} {w : Str} {n : Int} (h : ¬ optS (sto P w n) = .non) : ∃ t, sto P w n = some t := by
  cases q : sto P w n with
  | none => rw [q] at h; exact absurd rfl h
  | some t => exact ⟨t, rfl⟩
theorem optS_none {P : Pr} {w : Str} {n : Int} (h : optS (sto P w n) = .non) : sto P w n = none := by
  cases q : sto P w n with
  | none => rfl
  | some t => rw [q] at h; cases h
section
variable {P : Program} {w : World} {K : PySem.W.Frag} {mg : Str → Option Value} {D : Ad} {base : Heap}

theorem ok_Radio_read (T : Txt K mg D) : FnOk P w K mg base CX0 2 D.f_Radio_read D.fd_Radio_read ["self", "sender"] (spRead K D.C_Radio) := by
  refine T.F_Radio_read.ok sc_Radio_read (fun vs H Q E h => ?_) (fun cdv A outer s H vs Q E hr h => ?_)
  · obtain ⟨L, cs, p, dx, d, R, n, w, rfl, _⟩ := h
    rfl
  · obtain ⟨L, cs, p, dx, d, R, n, w, rfl, W, hS, hN, hR, hn, k⟩ := h
    refine ⟨_, (pss_cut (ps_set (i := 2) sc_Radio_read.nd rfl (by first | exact .inl rfl | exact .inr rfl) (pe_lst pa_nil))
    (pss_cons (ps_while PassesOwn.never (pt_cmpR op_notN (pe_meth (pv 0) T.cl_Radio T.me_Radio_standing (ok_Radio_standing T) (hr.mono (by decide)) (b_Radio_standing T) .nil pass0 (pa_cons (pv 1) (pa_cons (pe_op op_add (pe_callB cr_len rfl T.n_len B_len (pa_cons (pv 2) pa_nil)) pe_int) pa_nil))) pe_non (nomark _)) (pss_one (ps_expr (pe_bm PySem.F.plainAttrs_list PySem.F.slot_list_append PySem.F.type_list_append mt_append (pv 2) (pa_cons (pe_meth (pv 0) T.cl_Radio T.me_Radio_standing (ok_Radio_standing T) (hr.mono (by decide)) (b_Radio_standing T) .nil pass0 (pa_cons (pv 1) (pa_cons (pe_op op_add (pe_callB cr_len rfl T.n_len B_len (pa_cons (pv 2) pa_nil)) pe_int) pa_nil))) pa_nil)))))
    (pss_one (ps_ret (pv 2))))), ?_⟩
    walk_at "ds"
    refine ⟨fun σ' H' => ∃ l, σ' = [some (.ref p), some (.str w), some (.ref l)] ∧ Wd K H' L ((l, .dl []) :: cs), ?_, ?_⟩
    · exact ⟨szl rfl, fun l hl => ⟨l, rfl, W.newL hl .nil⟩⟩
    · rintro σ' H' ⟨l, rfl, W⟩
      refine ⟨fun m σ H => ∃ ts : List Str, σ = [some (.ref p), some (.str w), some (.ref l)] ∧ Wd K H L ((l, .dl (ts.map .str)) :: cs) ∧ ts.length ≤ 14 ∧ m = 20 - ts.length ∧
        rdP (Hd R) w = ts ++ rdF (sto (Hd R) w) (20 - ts.length) (((ts.length : Nat) : Int) + 1), ⟨20, [], rfl, W, by simp, rfl, rfl⟩, ?_⟩
      rintro m σ H ⟨ts, rfl, W, hl, rfl, e⟩
      have m0 : (p, CO.raw (.ins D.C_Radio dx [("known", .ref d)])) ∈ (l, CO.dl (ts.map .str)) :: cs := hS.cons _ List.mem_cons_self
      refine ⟨_, rfl, p, dx, _, rfl, W.at m0, rfl, _, rfl, _, rfl, w_len W .c0 ?_⟩
      refine ⟨_, _, rfl, rfl, L, (l, CO.dl (ts.map .str)) :: cs, p, dx, d, R, n, w, _, rfl, W, hS.cons, hR, hn, fun H W => ?_⟩
      rw [List.length_map]
      refine ⟨rfl, _, rfl, ite2 (fun hc => ?_) (fun hc => ?_)⟩
      · have hc : ¬ optS (sto (Hd R) w (((ts.length : Nat) : Int) + 1)) = .non := by simpa using hc
        obtain ⟨t, ht⟩ := optS_some hc
        have hb : ts.length + 1 ≤ 14 := by
          obtain ⟨⟨e1, h1, h2, _⟩, _⟩ := of_sto ht
          have := (hR.ok e1 h1).2
          rw [h2] at this
          have this : ((ts.length : Nat) : Int) + 1 ≤ 14 := this
          omega
        refine ⟨fun σ' H' => σ' = [some (.ref p), some (.str w), some (.ref l)] ∧ Wd K H' L ((l, .dl ((ts ++ [t]).map .str)) :: cs), ?_, ?_⟩
        · rintro σ' H' ⟨rfl, W⟩
          refine ⟨20 - (ts ++ [t]).length, by rw [List.length_append, List.length_singleton]; omega, ts ++ [t], rfl, W, by rw [List.length_append, List.length_singleton]; omega, rfl, ?_⟩
          rw [e, List.length_append, List.length_singleton, List.append_assoc]
          congr 1
          rw [show 20 - ts.length = (20 - (ts.length + 1)) + 1 by omega]
          simp only [rdF, ht, List.singleton_append]
          rfl
        · refine ⟨_, rfl, tyv_c0 W, _, rfl, p, dx, _, rfl, W.at m0, rfl, _, rfl, _, rfl, w_len W .c0 ?_⟩
          refine ⟨_, _, rfl, rfl, L, (l, CO.dl (ts.map .str)) :: cs, p, dx, d, R, n, w, _, rfl, W, hS.cons, hR, hn, fun H W => ?_⟩
          rw [List.length_map, ht]
          refine w_app W (d := .str t) .str (by rw [List.length_map]; omega) fun H W => ⟨rfl, ?_⟩
          rw [List.map_append]
          exact W
      · have hc : optS (sto (Hd R) w (((ts.length : Nat) : Int) + 1)) = .non := by simpa using hc
        refine ⟨_, rfl, k _ l ?_⟩
        rw [e, show 20 - ts.length = (19 - ts.length) + 1 by omega]
        simp only [rdF, optS_none hc, List.append_nil]
        exact W
theorem ok_Radio_missing (T : Txt K mg D) : FnOk P w K mg base CX0 2 D.f_Radio_missing D.fd_Radio_missing ["self", "sender"] (spMiss K D.C_Radio) := by
  refine T.F_Radio_missing.ok sc_Radio_missing (fun vs H Q E h => ?_) (fun cdv A outer s H vs Q E hr h => ?_)
  · obtain ⟨L, cs, p, dx, d, R, n, w, rfl, _⟩ := h
    rfl
  · obtain ⟨L, cs, p, dx, d, R, n, w, rfl, W, hS, hN, hR, hn, k⟩ := h
    refine ⟨_, (pss_one (ps_ret (pe_lc (own := [("number", 2)]) rfl sc_Radio_missing.nd (pi_range2 rfl T.n_range (pa_cons pe_int (pa_cons (pe_meth (pv 0) T.cl_Radio T.me_Radio_greatest (ok_Radio_greatest T) (hr.mono (by decide)) (b_Radio_greatest T) .nil pass0 (pa_cons (pv 1) pa_nil)) pa_nil))) (blkOk_by (N := ["self", "sender", "number"]) (sc := (defScope s_Radio_missing)) (by decide +kernel)) (fun _ _ _ _ _ => (pg_name (i := 2) sc_Radio_missing.nd rfl (by first | exact .inl rfl | exact .inr rfl))) (fun _ _ _ _ _ => (pts_one (pt_cmpR op_isN (pe_meth (pv 0) T.cl_Radio T.me_Radio_standing (ok_Radio_standing T) (hr.mono (by decide)) (b_Radio_standing T) .nil pass0 (pa_cons (pv 1) (pa_cons (pv 2) pa_nil))) pe_non (nomark _)))) (fun _ _ _ _ _ => (pv 2))))), ?_⟩
    walk_at "ds"
    have m0 : (p, CO.raw (.ins D.C_Radio dx [("known", .ref d)])) ∈ cs := hS _ List.mem_cons_self
    refine ⟨_, rfl, p, dx, _, rfl, W.at m0, rfl, _, rfl, L, cs, p, dx, d, R, n, w, rfl, W, hS, hN, hR, hn, fun H g hg W => ?_⟩
    have hg14 : 0 ≤ g ∧ g ≤ 14 := by
      rcases hg with ⟨rfl, _⟩ | ⟨⟨t, e, h1, h2, _⟩, _⟩
      · omega
      · have := hR.ok e h1
        rw [h2] at this
        exact ⟨by have := this.1; simp only at this; omega, this.2⟩
    refine ⟨1, g, rfl, by omega, ?_⟩
    refine w_lcR (fun i acc cs' => cs' = cs ∧ acc = (misP (Hd R) w i).map .int) W ⟨rfl, rfl⟩ (fun D' i acc cs' H hi hs W => ?_) (fun D' acc cs' H hs W => ?_)
    · obtain ⟨rfl, rfl⟩ := hs
      walk_at "ds"
      refine ⟨rfl, _, rfl, p, dx, _, rfl, W.at (List.mem_cons_of_mem _ m0), rfl, _, rfl, _, rfl, L, _, p, dx, d, R, n, w, _, rfl, W, hS.cons, hR, hn, fun H W => ?_⟩
      have hlen := misP_len (Hd R) w i
      refine ⟨rfl, _, rfl, ite2 (fun hc => ?_) (fun hc => ?_)⟩
      · have hc := optS_none (of_decide_eq_true hc)
        refine ⟨_, rfl, w_el W (fun p hp => hp) (d := .int (1 + (i : Nat))) .int (by rw [List.length_map]; omega) ⟨rfl, ?_⟩⟩
        rw [misP_succ, hc]
        simp
      · refine w_no W (fun p hp => hp) ⟨rfl, ?_⟩
        rw [misP_succ]
        cases q : sto (Hd R) w (1 + (i : Nat)) with
        | none => rw [q] at hc; exact absurd rfl hc
        | some t => simp
    · obtain ⟨rfl, rfl⟩ := hs
      exact k _ D' g hg W
end
end My

namespace My
open PySem L2 Wb
local macro_rules | `(tactic| walk_at "has") => `(tactic| first | exact Wb.Has.int | exact Wb.Has.str | exact Wb.Has.bl | exact Wb.Has.non | exact Wb.Has.hd | assumption | (apply Wb.Has.tl; walk_at "has"))
local macro_rules | `(tactic| walk_at "ha") => `(tactic| first | exact Wb.HasA.nil | (refine Wb.HasA.cons ?_ ?_; (walk_at "has"); (walk_at "ha")))
local macro_rules | `(tactic| walk_at "ds") => `(tactic| dsimp only [cxOf, Cx.nox, Cx.wish, tVar, tC, tOp, tUn, tCons, tNil, tCall, tMeth, tMake, tCB, tAsg, gName, gSub, gTup, gCons, gNil, tPar, tAug, tRet, tRetN, tSeq, tNext, tIfS, tB, tTest, tAnd, tOr, tNot, tNotV, tAndV, tOrV, tIf, tDrop, tBM, tBM0, tTup, tLst, tFld, tM0, tM1, tDGet2, tDGet, tDIn, tDNotIn, tDNewT, tIfS, tDGet1, tDSetdT, tFor_e, tLc_e, tWhile, tYes, iList_e, iTup_e, iKeys, tLockE, tCKw, iZip, iRng1, iRng2, tSl, tPart, tNoPart, tTup, tLst, tIsN, tNotN, sFld, tCut, List.append_nil, List.nil_append, List.cons_append, tDrop, tCmp, t2I])


theorem ent_uniq : ∀ {l : List Ent}, (l.map (·.1)).Nodup → ∀ a ∈ l, ∀ b ∈ l, a.1 = b.1 → a = b := fun {l} => by
  induction l with
  | nil => intro _ a ha; cases ha
  | cons x r ih =>
    intro hn a ha b hb hab
    rw [List.map_cons, List.nodup_cons] at hn
    rcases List.mem_cons.mp ha with rfl | ha1 <;> rcases List.mem_cons.mp hb with rfl | hb1
    · rfl
    · exact absurd (List.mem_map.mpr ⟨b, hb1, hab.symm⟩) hn.1
    · exact absurd (List.mem_map.mpr ⟨a, ha1, hab⟩) hn.1
    · exact ih hn.2 a ha1 b hb1 hab
theorem val_at {R : List Ent} {e : Ent} (hn : (R.map (·.1)).Nodup) (he : e ∈ R) : valV (kvsOf R) (keyOf e.1) = some (.ref e.2.1) := by
  cases h : valV (kvsOf R) (keyOf e.1) with
  | none => exact absurd rfl (val_none h e he)
  | some v =>
    obtain ⟨R1, e1, R2, rfl, h1, rfl⟩ := val_some h
    rw [ent_uniq hn e he e1 (by simp) h1.symm]
def Cnt (P : Pr) (n : Nat) : Prop := ∃ l : List (Str × Int), l.Nodup ∧ (∀ k, k ∈ l ↔ ∃ t, Un1 P k.1 k.2 t) ∧ l.length = n
theorem Cnt.uniq {P : Pr} {n m : Nat} (h : Cnt P n) (h' : Cnt P m) : n = m := by
  obtain ⟨l, h1, h2, rfl⟩ := h
  obtain ⟨l', h3, h4, rfl⟩ := h'
  exact ((List.perm_ext_iff_of_nodup h1 h3).mpr fun k => (h2 k).trans (h4 k).symm).length_eq
theorem hd_mem {R : List Ent} (hn : (R.map (·.1)).Nodup) {e : Ent} (he : e ∈ R) (t : Str) : Hd R e.1.1 e.1.2 t ↔ t ∈ e.2.2 := ⟨fun ⟨e1, h1, h2, h3⟩ => by
  rw [ent_uniq hn e he e1 h1 h2.symm]; exact h3, fun h => ⟨e, he, rfl, h⟩⟩
theorem radC_ent {C p dx d : Addr} {R : List Ent} {e : Ent} (h : e ∈ R) : entC e ∈ radC C p dx d R := List.mem_cons_of_mem _ (List.mem_cons_of_mem _ (List.mem_cons_of_mem _ (List.mem_map_of_mem h)))
def l1 (R : List Ent) : List Ent := R.filter fun e => decide (e.2.2.length = 1)
theorem l1_cnt {R : List Ent} {n : Nat} (hR : wfR n R) : Cnt (Hd R) (l1 R).length := by
  refine ⟨(l1 R).map (·.1), hR.nd.sublist (List.filter_sublist.map _), fun k => ?_, by rw [List.length_map]⟩
  rw [List.mem_map]
  constructor
  · rintro ⟨e, he, rfl⟩
    obtain ⟨h1, h2⟩ := List.mem_filter.mp he
    obtain ⟨t, ht⟩ := one_of_len (of_decide_eq_true h2)
    exact ⟨t, (hd_mem hR.nd h1 t).mpr (by rw [ht]; simp), fun t' h' => by
      have := (hd_mem hR.nd h1 t').mp h'
      rw [ht] at this
      simpa using this⟩
  · rintro ⟨t, ⟨e, h1, h2, h3⟩, h4⟩
    refine ⟨e, List.mem_filter.mpr ⟨h1, decide_eq_true ?_⟩, h2⟩
    have hh : ∀ t', t' ∈ e.2.2 → t' = t := fun t' h' => h4 t' (by
      have := (hd_mem hR.nd h1 t').mpr h'
      rw [h2] at this
      exact this)
    match hts : e.2.2, h3, (hR.txt e h1).2.1 with
    | [], h3, _ => cases h3
    | [a], _, _ => rfl
    | a :: b :: r, _, hnd =>
      have ha := hh a (by rw [hts]; simp)
      have hb := hh b (by rw [hts]; simp)
      rw [ha, hb] at hnd
      simp at hnd
theorem l1_succ {R : List Ent} {i : Nat} {e : Ent} (he : R[i]? = some e) : l1 (R.take (i + 1)) = l1 (R.take i) ++ (if e.2.2.length = 1 then [e] else []) := by
  rw [take_succ1 he]
  unfold l1
  rw [List.filter_append]
  congr 1
  by_cases h : e.2.2.length = 1 <;> simp [h]
def spLenR (K : PySem.W.Frag) (C : Addr) : Sp := fun vs H Q _ => ∃ (L : Lk) (cs : Cs) (p dx d : Addr) (R : List Ent) (n : Nat), vs = [.ref p] ∧ Wd K H L cs ∧ Sub (radC C p dx d R) cs ∧ noTup cs ∧ wfR n R ∧ n ≤ 1000 ∧
  ∀ H' (m : Nat), Cnt (Hd R) m → m ≤ 1000 → Wd K H' L cs → Q (.int m) H'
def spEq (K : PySem.W.Frag) (C : Addr) : Sp := fun vs H Q _ => ∃ (L : Lk) (cs : Cs) (p dx d : Addr) (R : List Ent) (n : Nat), Wd K H L cs ∧ Sub (radC C p dx d R) cs ∧ noTup cs ∧ wfR n R ∧ n ≤ 1000 ∧
  ((∃ p' dx' d' R', vs = [.ref p, .ref p'] ∧ Sub (radC C p' dx' d' R') cs ∧ wfR n R' ∧ ∀ H' b, (b = true ↔ ∀ w m t, Hd R w m t ↔ Hd R' w m t) → Wd K H' L cs → Q (.bl b) H') ∨
   ∃ y t, vs = [.ref p, y] ∧ TyX K H y t ∧ PySem.W.kitOne K t (.ref C) = some false ∧ ∀ H', Wd K H' L cs → Q (.bl false) H')
section
variable {P : Program} {w : World} {K : PySem.W.Frag} {mg : Str → Option Value} {D : Ad} {base : Heap}

theorem ok_Radio___len__ (T : Txt K mg D) : FnOk P w K mg base CX0 1 D.f_Radio___len__ D.fd_Radio___len__ ["self"] (spLenR K D.C_Radio) := by
  refine T.F_Radio___len__.ok sc_Radio___len__ (fun vs H Q E h => ?_) (fun cdv A outer s H vs Q E hr h => ?_)
  · obtain ⟨L, cs, p, dx, d, R, n, rfl, _⟩ := h
    rfl
  · obtain ⟨L, cs, p, dx, d, R, n, rfl, W, hS, hN, hR, hn, k⟩ := h
    refine ⟨_, (pss_one (ps_ret (pe_callB cr_len rfl T.n_len B_len (pa_cons (pe_lock (pe_lc (own := [("key", 1)]) rfl sc_Radio___len__.nd (pi_keys (pe_fld (pv 0) rfl)) (blkOk_by (N := ["self", "key"]) (sc := (defScope s_Radio___len__)) (by decide +kernel)) (fun _ _ _ _ _ => (pg_name (i := 1) sc_Radio___len__.nd rfl (by first | exact .inl rfl | exact .inr rfl))) (fun _ _ _ _ _ => (pts_one (pt_cmpR op_eq (pe_callB (len_K (K := K) rfl) rfl T.n_len B_len (pa_cons (pe_dget (hu_of hr) (pe_fldK (K := K) rfl (pv 0) rfl) (pv 1) (fun _ _ => rfl)) pa_nil)) pe_int (nomark _)))) (fun _ _ _ _ _ => (pv 1)))) pa_nil)))), ?_⟩
    walk_at "ds"
    have m0 : (p, CO.raw (.ins D.C_Radio dx [("known", .ref d)])) ∈ cs := hS _ List.mem_cons_self
    have m2 : (d, CO.raw (.dT (kvsOf R))) ∈ cs := hS _ (by simp [radC])
    obtain ⟨r, hp, hsub⟩ := Wd.split (K := K) (H := H) (L := L) m2
    refine ⟨d, .dT (kvsOf R), W.at m2, True.intro, fun od => ?_⟩
    have Wl := (W.perm hp).putR (o' := .frz od (.dT (kvsOf R)))
    have mv : ∀ c ∈ cs, c ≠ (d, CO.raw (.dT (kvsOf R))) → c ∈ (d, CO.raw (.frz od (.dT (kvsOf R)))) :: r := fun c hc hne => by
      rcases List.mem_cons.mp (hp.mem_iff.mp hc) with q | q
      · exact absurd q hne
      · exact List.mem_cons_of_mem _ q
    have m0' := mv _ m0 (fun z => by cases z)
    refine ⟨_, rfl, p, D.C_Radio, dx, _, _, rfl, Wl.at m0', T.cl_Radio, T.na_Radio_known, rfl, d, od, rfl, .inr ⟨kvsOf R, Wl.c0, ?_⟩⟩
    refine w_lcKT (fun i acc cs' => cs' = (d, CO.raw (.frz od (.dT (kvsOf R)))) :: r ∧ acc.length = (l1 (R.take i)).length) Wl ⟨rfl, rfl⟩ (fun i acc cs' h => by rw [h.1]; exact List.mem_cons_self) (fun i acc cs' h c hc xs => ?_) (fun D' i q ky v acc cs' H hk hs hq W => ?_) (fun D' acc cs' H hs W => ?_)
    · rw [h.1] at hc
      rcases List.mem_cons.mp hc with rfl | hc
      · intro z; cases z
      · exact hN _ (hsub _ hc) xs
    · obtain ⟨rfl, hacc⟩ := hs
      obtain ⟨e, he, rfl, rfl⟩ := kvs_at hk
      walk_at "ds"
      have hem : e ∈ R := List.mem_of_getElem? he
      have me := mv (entC e) (hS _ (radC_ent hem)) (fun z => by cases z)
      have hlen : acc.length < 100000 := by
        have h1 : (l1 (R.take i)).length ≤ (R.take i).length := List.length_filter_le _ _
        have h2 : (R.take i).length ≤ R.length := List.length_take_le' _ _
        have := hR.len
        omega
      refine ⟨rfl, _, rfl, p, D.C_Radio, dx, _, _, rfl, W.at (List.mem_cons_of_mem _ m0'), T.cl_Radio, T.na_Radio_known, rfl, _, rfl, d, _, rfl, .inr ⟨kvsOf R, keyOf e.1, q, .inr ⟨od, W.at (by simp)⟩, rfl, hq, (val_at hR.nd hem).symm⟩, ?_⟩
      refine w_len W (.cell (List.mem_cons_of_mem _ me)) ⟨rfl, _, rfl, ite2 (fun hc => ?_) (fun hc => ?_)⟩
      · have hc : e.2.2.length = 1 := by
          have := of_decide_eq_true hc
          injection this with this
          rw [List.length_map] at this
          omega
        refine ⟨_, rfl, w_el W (fun p hp => List.mem_cons_of_mem _ hp) .hd hlen ⟨rfl, ?_⟩⟩
        rw [l1_succ he, if_pos hc, List.length_append, List.length_append, hacc]
        rfl
      · have hc : ¬ e.2.2.length = 1 := fun q => hc (by rw [List.length_map, q]; rfl)
        refine w_no W (fun p hp => List.mem_cons_of_mem _ hp) ⟨rfl, ?_⟩
        rw [l1_succ he, if_neg hc, List.append_nil, hacc]
    · obtain ⟨rfl, hacc⟩ := hs
      have hl : (kvsOf R).length = R.length := List.length_map _
      rw [hl, List.take_length] at hacc
      have Wu := W.swap.putR (o' := .dT (kvsOf R))
      refine ⟨W.at (by simp), w_len Wu (Rdb.cell (ds := acc) (by simp)) ?_⟩
      rw [hacc]
      have h1 : (l1 R).length ≤ R.length := List.length_filter_le _ _
      have := hR.len
      exact k _ _ (l1_cnt hR) (by omega) ((Wu.swap.drop1).perm hp.symm)
end
end My

namespace My
open PySem L2 Wb
local macro_rules | `(tactic| walk_at "has") => `(tactic| first | exact Wb.Has.int | exact Wb.Has.str | exact Wb.Has.bl | exact Wb.Has.non | exact Wb.Has.hd | assumption | (apply Wb.Has.tl; walk_at "has"))
local macro_rules | `(tactic| walk_at "ha") => `(tactic| first | exact Wb.HasA.nil | (refine Wb.HasA.cons ?_ ?_; (walk_at "has"); (walk_at "ha")))
local macro_rules | `(tactic| walk_at "ds") => `(tactic| dsimp only [cxOf, Cx.nox, Cx.wish, tVar, tC, tOp, tUn, tCons, tNil, tCall, tMeth, tMake, tCB, tAsg, gName, gSub, gTup, gCons, gNil, tPar, tAug, tRet, tRetN, tSeq, tNext, tIfS, tB, tTest, tAnd, tOr, tNot, tNotV, tAndV, tOrV, tIf, tDrop, tBM, tBM0, tTup, tLst, tFld, tM0, tM1, tDGet2, tDGet, tDIn, tDNotIn, tDNewT, tIfS, tDGet1, tDSetdT, tFor_e, tLc_e, tWhile, tYes, iList_e, iTup_e, iKeys, tLockE, tCKw, iZip, iRng1, iRng2, tSl, tPart, tNoPart, tTup, tLst, tIsN, tNotN, sFld, tCut, List.append_nil, List.nil_append, List.cons_append, tDrop, tCmp, t2I])


abbrev Row := (Str × Int) × List Str
def rowsOf (R : List Ent) : List Row := R.map fun e => (e.1, srt e.2.2)
theorem row_hd {R : List Ent} (hn : (R.map (·.1)).Nodup) {w : Str} {m : Int} {t : Str} : Hd R w m t ↔ ∃ r ∈ rowsOf R, r.1 = (w, m) ∧ t ∈ r.2 := by
  constructor
  · rintro ⟨e, he, h1, h2⟩
    exact ⟨(e.1, srt e.2.2), List.mem_map_of_mem he, h1, (srt_perm _).mem_iff.mpr h2⟩
  · rintro ⟨r, hr, h1, h2⟩
    obtain ⟨e, he, rfl⟩ := List.mem_map.mp hr
    exact ⟨e, he, h1, (srt_perm _).mem_iff.mp h2⟩
theorem rows_nodup {R : List Ent} (hn : (R.map (·.1)).Nodup) : (rowsOf R).Nodup := by
  have e : (rowsOf R).map (·.1) = R.map (·.1) := by
    unfold rowsOf
    rw [List.map_map]
    rfl
  rw [← e] at hn
  exact List.Pairwise.of_map (fun x => x.1) (fun a b h q => h (by rw [q])) hn
theorem rows_sub {n n' : Nat} {R R' : List Ent} (hR : wfR n R) (hR' : wfR n' R') (h : ∀ w m t, Hd R w m t ↔ Hd R' w m t) : ∀ r, r ∈ rowsOf R → r ∈ rowsOf R' := fun r hr => by
  obtain ⟨e, he, rfl⟩ := List.mem_map.mp hr
  cases ht : e.2.2 with
  | nil => exact absurd ht (hR.txt e he).1
  | cons t ts =>
    obtain ⟨e', h1, h2, h3⟩ := (h e.1.1 e.1.2 t).mp ((hd_mem hR.nd he t).mpr (by rw [ht]; simp))
    have h2 : e'.1 = e.1 := h2
    rw [← ht]
    refine List.mem_map.mpr ⟨e', h1, Prod.ext h2 (srt_one ((List.perm_ext_iff_of_nodup (hR'.txt e' h1).2.1 (hR.txt e he).2.1).mpr fun u => ?_))⟩
    rw [← hd_mem hR'.nd h1 u, ← hd_mem hR.nd he u, h2]
    exact (h _ _ _).symm
theorem rows_iff {n n' : Nat} {R R' : List Ent} (hR : wfR n R) (hR' : wfR n' R') : srt (rowsOf R) = srt (rowsOf R') ↔ ∀ w m t, Hd R w m t ↔ Hd R' w m t := by
  rw [srt_iff]
  constructor
  · intro h w m t
    rw [row_hd hR.nd, row_hd hR'.nd]
    exact ⟨fun ⟨r, h1, h2⟩ => ⟨r, h.mem_iff.mp h1, h2⟩, fun ⟨r, h1, h2⟩ => ⟨r, h.mem_iff.mpr h1, h2⟩⟩
  · intro h
    exact (List.perm_ext_iff_of_nodup (rows_nodup hR.nd) (rows_nodup hR'.nd)).mpr fun r => ⟨rows_sub hR hR' h r, rows_sub hR' hR (fun w m t => (h w m t).symm) r⟩
theorem rows_succ {R : List Ent} {i : Nat} {e : Ent} (he : R[i]? = some e) : rowsOf (R.take (i + 1)) = rowsOf (R.take i) ++ [(e.1, srt e.2.2)] := by
  rw [take_succ1 he]
  unfold rowsOf
  rw [List.map_append]
  rfl
theorem rows_len (R : List Ent) (i : Nat) : (rowsOf (R.take i)).length ≤ R.length := by
  unfold rowsOf
  rw [List.length_map]
  exact List.length_take_le' _ _
section
variable {P : Program} {w : World} {K : PySem.W.Frag} {mg : Str → Option Value} {D : Ad} {base : Heap}

theorem ok_Radio___eq__ (T : Txt K mg D) : FnOk P w K mg base CX0 1 D.f_Radio___eq__ D.fd_Radio___eq__ ["self", "other"] (spEq K D.C_Radio) := by
  refine T.F_Radio___eq__.ok sc_Radio___eq__ (fun vs H Q E h => ?_) (fun cdv A outer s H vs Q E hr h => ?_)
  · obtain ⟨L, cs, p, dx, d, R, n, _, _, _, _, _, ⟨p', dx', d', R', rfl, _⟩ | ⟨y, t, rfl, _⟩⟩ := h
    · rfl
    · rfl
  · obtain ⟨L, cs, p, dx, d, R, n, W, hS, hN, hR, hn, h⟩ := h
    refine ⟨_, (pss_cons (ps_if (pt_not (pt_val (pe_callB call_isi rfl T.n_isinstance B_isinstance (pa_cons (pv 1) (pa_cons (pe_glob (v := .ref D.C_Radio) rfl T.mg_Radio rfl) pa_nil))))) (pss_one (ps_ret pe_bl))
      pss_nil)
    (pss_one (ps_ret (pe_cmpR (op_eqP (hu64 hr)) (pe_callB (cr_sortedD hr) rfl T.n_sorted B_sorted (pa_cons (pe_lock (pe_lc (own := [("key", 2)]) (tt := tYes) rfl sc_Radio___eq__.nd (pi_keys (pe_fld (pv 0) rfl)) (blkOk_by (N := ["self", "other", "key"]) (sc := (defScope s_Radio___eq__)) (by decide +kernel)) (fun _ _ _ _ _ => (pg_name (i := 2) sc_Radio___eq__.nd rfl (by first | exact .inl rfl | exact .inr rfl))) (fun _ _ _ _ _ => pts_nil) (fun _ _ _ _ _ => (pe_tup (pa_cons (pv 2) (pa_cons (pe_callB (sorted_K (K := K) rfl hr) rfl T.n_sorted B_sorted (pa_cons (pe_dget (hu_of hr) (pe_fldK (K := K) rfl (pv 0) rfl) (pv 2) (fun _ _ => rfl)) pa_nil)) pa_nil)))))) pa_nil)) (pe_callB (cr_sortedD hr) rfl T.n_sorted B_sorted (pa_cons (pe_lock (pe_lc (own := [("key", 2)]) (tt := tYes) rfl sc_Radio___eq__.nd (pi_keys (pe_fld (pv 1) rfl)) (blkOk_by (N := ["self", "other", "key"]) (sc := (defScope s_Radio___eq__)) (by decide +kernel)) (fun _ _ _ _ _ => (pg_name (i := 2) sc_Radio___eq__.nd rfl (by first | exact .inl rfl | exact .inr rfl))) (fun _ _ _ _ _ => pts_nil) (fun _ _ _ _ _ => (pe_tup (pa_cons (pv 2) (pa_cons (pe_callB (sorted_K (K := K) rfl hr) rfl T.n_sorted B_sorted (pa_cons (pe_dget (hu_of hr) (pe_fldK (K := K) rfl (pv 1) rfl) (pv 2) (fun _ _ => rfl)) pa_nil)) pa_nil)))))) pa_nil)) (nomark _))))), ?_⟩
    walk_at "ds"
    rcases h with ⟨p', dx', d', R', rfl, hS', hR', k⟩ | ⟨y, t, rfl, ty, hk, k⟩
    · have m9 : (p', CO.raw (.ins D.C_Radio dx' [("known", .ref d')])) ∈ cs := hS' _ List.mem_cons_self
      refine ⟨_, rfl, _, _, .ref D.C_Radio, .ref D.C_Radio, true, rfl, .own _, .base (.ins (W.at m9) T.cl_Radio T.ec T.eg T.et T.em_Radio), kit_yes, ?_⟩
      refine ⟨true, rfl, iteF ?_⟩
      have m0a : (p, CO.raw (.ins D.C_Radio dx [("known", .ref d)])) ∈ cs := hS _ List.mem_cons_self
      have m2a : (d, CO.raw (.dT (kvsOf R))) ∈ cs := hS _ (by simp [radC])
      obtain ⟨r, hp, hsub⟩ := Wd.split (K := K) (H := H) (L := L) m2a
      refine ⟨d, .dT (kvsOf R), W.at m2a, True.intro, fun od => ?_⟩
      have Wl := (W.perm hp).putR (o' := .frz od (.dT (kvsOf R)))
      have mv : ∀ c ∈ cs, c ≠ (d, CO.raw (.dT (kvsOf R))) → c ∈ (d, CO.raw (.frz od (.dT (kvsOf R)))) :: r := fun c hc hne => by
        rcases List.mem_cons.mp (hp.mem_iff.mp hc) with q | q
        · exact absurd q hne
        · exact List.mem_cons_of_mem _ q
      have m0' := mv _ m0a (fun z => by cases z)
      refine ⟨_, rfl, p, D.C_Radio, dx, _, _, rfl, Wl.at m0', T.cl_Radio, T.na_Radio_known, rfl, d, od, rfl, .inr ⟨kvsOf R, Wl.c0, ?_⟩⟩
      refine w_lcKT (fun i acc cs' => cs' = (d, CO.raw (.frz od (.dT (kvsOf R)))) :: r ∧ acc = (rowsOf (R.take i)).map toD) Wl ⟨rfl, rfl⟩ (fun i acc cs' h => by rw [h.1]; exact List.mem_cons_self) (fun i acc cs' h c hc xs => ?_) (fun D' i q ky v acc cs' H hk hs hq W => ?_) (fun D' acc cs' H hs W => ?_)
      · rw [h.1] at hc
        rcases List.mem_cons.mp hc with rfl | hc
        · intro z; cases z
        · exact hN _ (hsub _ hc) xs
      · obtain ⟨rfl, rfl⟩ := hs
        obtain ⟨e, he, rfl, rfl⟩ := kvs_at hk
        walk_at "ds"
        have hem : e ∈ R := List.mem_of_getElem? he
        have me := mv (entC e) (hS _ (radC_ent hem)) (fun z => by cases z)
        have hlen : ((rowsOf (R.take i)).map toD).length < 100000 := by
          rw [List.length_map]
          have := rows_len R i
          have := hR.len
          omega
        refine ⟨rfl, iteT ?_⟩
        refine ⟨_, rfl, _, rfl, p, D.C_Radio, dx, _, _, rfl, W.at (List.mem_cons_of_mem _ m0'), T.cl_Radio, T.na_Radio_known, rfl, _, rfl, d, _, rfl, .inr ⟨kvsOf R, keyOf e.1, q, .inr ⟨od, W.at (by simp)⟩, rfl, hq, (val_at hR.nd hem).symm⟩, ?_⟩
        refine w_sorted (xs := e.2.2) W (.cell (List.mem_cons_of_mem _ me)) (sortable_str _) (by decide) (fun pl H W => ⟨szl rfl, fun pt hpt => ?_⟩)
        have W := W.frz.newT hpt (xs := [.ref q, .ref pl]) (ds := [.tuple ((keyOf e.1).map kD), .list ((srt e.2.2).map toD)]) (by walk_at "ha")
        refine w_el W (fun p hp => List.mem_cons_of_mem _ (List.mem_cons_of_mem _ (List.mem_cons_of_mem _ hp))) .hd hlen ⟨rfl, ?_⟩
        rw [rows_succ he, List.map_append]
        rfl
      obtain ⟨rfl, rfl⟩ := hs
      have hl : (kvsOf R).length = R.length := List.length_map _
      rw [hl, List.take_length] at W
      have W1 := (W.swap.putR (o' := .dT (kvsOf R))).swap.perm (List.Perm.cons _ hp.symm)
      refine ⟨W.at (by simp), w_sorted (xs := rowsOf R) W1 .c0 (sortable_pair _) (by decide) (fun l H W => ?_)⟩
      have W := W.drop (((List.Sublist.refl _).cons _).cons₂ _)
      have m0b : (p', CO.raw (.ins D.C_Radio dx' [("known", .ref d')])) ∈ ((l, CO.dl ((srt (rowsOf R)).map toD)) :: cs) := hS'.cons _ List.mem_cons_self
      have m2b : (d', CO.raw (.dT (kvsOf R'))) ∈ ((l, CO.dl ((srt (rowsOf R)).map toD)) :: cs) := hS'.cons _ (by simp [radC])
      obtain ⟨r, hp, hsub⟩ := Wd.split (K := K) (H := H) (L := L) m2b
      refine ⟨d', .dT (kvsOf R'), W.at m2b, True.intro, fun od => ?_⟩
      have Wl := (W.perm hp).putR (o' := .frz od (.dT (kvsOf R')))
      have mv : ∀ c ∈ ((l, CO.dl ((srt (rowsOf R)).map toD)) :: cs), c ≠ (d', CO.raw (.dT (kvsOf R'))) → c ∈ (d', CO.raw (.frz od (.dT (kvsOf R')))) :: r := fun c hc hne => by
        rcases List.mem_cons.mp (hp.mem_iff.mp hc) with q | q
        · exact absurd q hne
        · exact List.mem_cons_of_mem _ q
      have m0' := mv _ m0b (fun z => by cases z)
      refine ⟨_, rfl, p', D.C_Radio, dx', _, _, rfl, Wl.at m0', T.cl_Radio, T.na_Radio_known, rfl, d', od, rfl, .inr ⟨kvsOf R', Wl.c0, ?_⟩⟩
      refine w_lcKT (fun i acc cs' => cs' = (d', CO.raw (.frz od (.dT (kvsOf R')))) :: r ∧ acc = (rowsOf (R'.take i)).map toD) Wl ⟨rfl, rfl⟩ (fun i acc cs' h => by rw [h.1]; exact List.mem_cons_self) (fun i acc cs' h c hc xs => ?_) (fun D' i q ky v acc cs' H hk hs hq W => ?_) (fun D' acc cs' H hs W => ?_)
      · rw [h.1] at hc
        rcases List.mem_cons.mp hc with rfl | hc
        · intro z; cases z
        · exact (noTup.cons_dl hN) _ (hsub _ hc) xs
      · obtain ⟨rfl, rfl⟩ := hs
        obtain ⟨e, he, rfl, rfl⟩ := kvs_at hk
        walk_at "ds"
        have hem : e ∈ R' := List.mem_of_getElem? he
        have me := mv (entC e) (hS'.cons _ (radC_ent hem)) (fun z => by cases z)
        have hlen : ((rowsOf (R'.take i)).map toD).length < 100000 := by
          rw [List.length_map]
          have := rows_len R' i
          have := hR'.len
          omega
        refine ⟨rfl, iteT ?_⟩
        refine ⟨_, rfl, _, rfl, p', D.C_Radio, dx', _, _, rfl, W.at (List.mem_cons_of_mem _ m0'), T.cl_Radio, T.na_Radio_known, rfl, _, rfl, d', _, rfl, .inr ⟨kvsOf R', keyOf e.1, q, .inr ⟨od, W.at (by simp)⟩, rfl, hq, (val_at hR'.nd hem).symm⟩, ?_⟩
        refine w_sorted (xs := e.2.2) W (.cell (List.mem_cons_of_mem _ me)) (sortable_str _) (by decide) (fun pl H W => ⟨szl rfl, fun pt hpt => ?_⟩)
        have W := W.frz.newT hpt (xs := [.ref q, .ref pl]) (ds := [.tuple ((keyOf e.1).map kD), .list ((srt e.2.2).map toD)]) (by walk_at "ha")
        refine w_el W (fun p hp => List.mem_cons_of_mem _ (List.mem_cons_of_mem _ (List.mem_cons_of_mem _ hp))) .hd hlen ⟨rfl, ?_⟩
        rw [rows_succ he, List.map_append]
        rfl
      obtain ⟨rfl, rfl⟩ := hs
      have hl : (kvsOf R').length = R'.length := List.length_map _
      rw [hl, List.take_length] at W
      have W1 := (W.swap.putR (o' := .dT (kvsOf R'))).swap.perm (List.Perm.cons _ hp.symm)
      refine ⟨W.at (by simp), w_sorted (xs := rowsOf R') W1 .c0 (sortable_pair _) (by decide) (fun l' H W => ?_)⟩
      have W := W.drop (((List.Sublist.refl _).cons _).cons₂ _)
      refine w_eqT (a := srt (rowsOf R)) (b := srt (rowsOf R')) W (.cell (by simp)) .c0 (by decide) ?_
      exact k _ _ (by rw [decide_eq_true_eq]; exact rows_iff hR hR') (W.drop1.drop1)
    · refine ⟨_, rfl, _, _, t, .ref D.C_Radio, false, rfl, .own _, ty, hk, ?_⟩
      refine ⟨false, rfl, iteT ?_⟩
      exact k _ W
end
end My

namespace My
open PySem L2 Wb
local macro_rules | `(tactic| walk_at "has") => `(tactic| first | exact Wb.Has.int | exact Wb.Has.str | exact Wb.Has.bl | exact Wb.Has.non | exact Wb.Has.hd | assumption | (apply Wb.Has.tl; walk_at "has"))
local macro_rules | `(tactic| walk_at "ha") => `(tactic| first | exact Wb.HasA.nil | (refine Wb.HasA.cons ?_ ?_; (walk_at "has"); (walk_at "ha")))
local macro_rules | `(tactic| walk_at "ds") => `(tactic| dsimp only [cxOf, Cx.nox, Cx.wish, tVar, tC, tOp, tUn, tCons, tNil, tCall, tMeth, tMake, tCB, tAsg, gName, gSub, gTup, gCons, gNil, tPar, tAug, tRet, tRetN, tSeq, tNext, tIfS, tB, tTest, tAnd, tOr, tNot, tNotV, tAndV, tOrV, tIf, tDrop, tBM, tBM0, tTup, tLst, tFld, tM0, tM1, tDGet2, tDGet, tDIn, tDNotIn, tDNewT, tIfS, tDGet1, tDSetdT, tFor_e, tLc_e, tWhile, tYes, iList_e, iTup_e, iKeys, tLockE, tCKw, iZip, iRng1, iRng2, tSl, tPart, tNoPart, tTup, tLst, tIsN, tNotN, sFld, tCut, List.append_nil, List.nil_append, List.cons_append, tDrop, tCmp, t2I])


abbrev MRow := T3 Str Int Str
def msgT (n m : Int) : Str := ((Str.ofString "t" ++ Str.ofString (toString n)) ++ strRep (Str.ofString "x") m)
def okRow (c : Int) (r : MRow) : Prop := (r.a = "a" ∨ r.a = "b" ∨ r.a = "redone") ∧ 1 ≤ r.b ∧ r.b ≤ 14 ∧ (r.c = msgT r.b 0 ∨ (c = 1 ∧ r.c = msgT r.b 1))
def spMsg (K : PySem.W.Frag) : Sp := fun vs H Q _ => ∃ (L : Lk) (cs : Cs) (b : Addr) (ds : List PyData) (c : Int), vs = [.ref b, .int c] ∧ Wd K H L ((b, .dl ds) :: cs) ∧ Bag ds ∧ (c = 0 ∨ c = 1) ∧
  ∀ H' v ds' r, Bag ds' → okRow c r → Wd K H' ((v, toD (r : MRow)) :: L) ((b, .dl ds') :: cs) → Q v H'
def spMixed (K : PySem.W.Frag) : Sp := fun vs H Q _ => ∃ (L : Lk) (cs : Cs) (b : Addr) (ds : List PyData) (v : V) (rows : List MRow), vs = [.ref b, v] ∧ Wd K H L ((b, .dl ds) :: cs) ∧ Bag ds ∧ Has L v (.list (rows.map toD)) ∧ 1 ≤ rows.length ∧ rows.length ≤ 40 ∧
  ∀ H' l ds' out, Bag ds' → (∀ r, r ∈ out ↔ r ∈ rows) → out.length ≤ 60 → Wd K H' L ((l, .dl ((out : List MRow).map toD)) :: (b, .dl ds') :: cs) → Q (.ref l) H'
theorem msg_fin {n : Int} (h1 : 1 ≤ n) (h2 : n ≤ 14) : n.natAbs.log2 < 1920 ∧ (Str.ofString "t").length + (Str.ofString (toString n)).length ≤ 10 ∧ ((Str.ofString "t") ++ (Str.ofString (toString n))).length + (Str.ofString "x").length ≤ 20 := by
  have : n = 1 ∨ n = 2 ∨ n = 3 ∨ n = 4 ∨ n = 5 ∨ n = 6 ∨ n = 7 ∨ n = 8 ∨ n = 9 ∨ n = 10 ∨ n = 11 ∨ n = 12 ∨ n = 13 ∨ n = 14 := by omega
  rcases this with rfl | rfl | rfl | rfl | rfl | rfl | rfl | rfl | rfl | rfl | rfl | rfl | rfl | rfl <;> decide +kernel
theorem strlen (a : Str) : a.length = a.cps.size := rfl
section
variable {P : Program} {w : World} {K : PySem.W.Frag} {mg : Str → Option Value} {D : Ad} {base : Heap}

theorem ok__law_message (T : Txt K mg D) : FnOk P w K mg base CX0 2 D.f__law_message D.fd__law_message ["_law_bag_here", "_law_clashes"] (spMsg K) := by
  refine T.F__law_message.ok sc__law_message (fun vs H Q E h => ?_) (fun cdv A outer s H vs Q E hr h => ?_)
  · obtain ⟨L, cs, b, ds, c, rfl, _⟩ := h
    rfl
  · obtain ⟨L, cs, b, ds, c, rfl, W, hb, hc, k⟩ := h
    refine ⟨_, (pss_cons (ps_par rfl sc__law_message.nd (i := 2) (j := 3) rfl rfl (by decide) rfl rfl (pa_cons (pe_ix ix_tup (pe_tup (pa_cons pe_str (pa_cons pe_str (pa_cons pe_str pa_nil)))) (pe_call (ok__law_take T) (hr.mono (by decide)) rfl T.m__law_take T.F__law_take.kp (b__law_take T) .nil pass0 (pa_cons (pv 0) (pa_cons pe_int pa_nil))) (fun _ _ => rfl)) (pa_cons (pe_op op_add pe_int (pe_call (ok__law_take T) (hr.mono (by decide)) rfl T.m__law_take T.F__law_take.kp (b__law_take T) .nil pass0 (pa_cons (pv 0) (pa_cons pe_int pa_nil)))) pa_nil)) (by rfl))
    (pss_one (ps_ret (pe_tup (pa_cons (pv 2) (pa_cons (pv 3) (pa_cons (pe_op op_addS (pe_op op_addS pe_str (pe_callTy cr_str_i rfl T.n_str B_str (pa_cons (pv 3) pa_nil))) (pe_op op_mul_str pe_str (pe_op op_mul (pv 1) (pe_call (ok__law_take T) (hr.mono (by decide)) rfl T.m__law_take T.F__law_take.kp (b__law_take T) .nil pass0 (pa_cons (pv 0) (pa_cons pe_int pa_nil)))))) pa_nil))))))), ?_⟩
    walk_at "ds"
    refine ⟨szl rfl, fun p hp => ?_⟩
    have W := W.newT hp (xs := [V.str "a", V.str "b", V.str "redone"]) (ds := [.str "a", .str "b", .str "redone"]) (by walk_at "ha")
    refine ⟨_, rfl, _, cs, b, ds, 3, rfl, W, hb, by decide, by decide, fun H d ds d0 d1 hb W => ?_⟩
    obtain ⟨x, hx, hm⟩ := atI_mem (xs := [PyData.str "a", .str "b", .str "redone"]) d0 d1
    obtain ⟨who, rfl, hw⟩ : ∃ who : Str, x = .str who ∧ (who = "a" ∨ who = "b" ∨ who = "redone") := by
      simp only [List.mem_cons, List.not_mem_nil, or_false] at hm
      rcases hm with rfl | rfl | rfl
      · exact ⟨_, rfl, .inl rfl⟩
      · exact ⟨_, rfl, .inr (.inl rfl)⟩
      · exact ⟨_, rfl, .inr (.inr rfl)⟩
    refine w_ixTs W .hd hx ?_
    refine ⟨_, rfl, _, cs, b, ds, 14, rfl, W.tl, hb, by decide, by decide, fun H n ds n0 n1 hb W => ?_⟩
    refine ⟨_, _, rfl, rfl, _, _, rfl, ?_⟩
    have hcm : ∀ m : Int, 0 ≤ m → m < 2 → c * m = 0 ∨ (c = 1 ∧ c * m = 1) := fun m m0 m1 => by
      rcases hc with rfl | rfl
      · left; omega
      · have : m = 0 ∨ m = 1 := by omega
        rcases this with rfl | rfl
        · left; rfl
        · right; exact ⟨rfl, rfl⟩
    obtain ⟨q1, q2, q3⟩ := msg_fin (n := 1 + n) (by omega) (by omega)
    refine ⟨_, rfl, _, rfl, _, rfl, _, rfl, q1, _, _, rfl, rfl, Nat.le_trans q2 (by decide), ?_⟩
    refine ⟨_, rfl, _, rfl, _, cs, b, ds, 2, rfl, W, hb, by decide, by decide, fun H m ds m0 m1 hb W => ?_⟩
    have hcm := hcm m m0 m1
    refine ⟨_, _, rfl, rfl, ?_, _, _, rfl, rfl, ?_, ?_⟩
    · exact .inl ⟨by omega, by omega⟩
    · rcases hcm with h | ⟨_, h⟩
      · exact .inl h
      · exact .inr h
    · refine ⟨_, _, rfl, rfl, ?_, szl rfl, fun p hp => ?_⟩
      · refine Nat.le_trans (m := 20) ?_ (by decide)
        rcases hcm with h | ⟨_, h⟩
        · rw [h]
          have : (strRep (Str.ofString "x") 0).length = 0 := by decide +kernel
          omega
        · rw [h]
          exact q3
      · have W := W.newT hp (xs := [V.str who, V.int (1 + n), V.str (msgT (1 + n) (c * m))]) (ds := [.str who, .int (1 + n), .str (msgT (1 + n) (c * m))]) (by walk_at "ha")
        refine k _ _ ds ⟨who, 1 + n, msgT (1 + n) (c * m)⟩ hb ⟨hw, by show 1 ≤ 1 + n; omega, by show 1 + n ≤ 14; omega, ?_⟩ (W.sub fun q hq => ?_)
        · rcases hcm with h | ⟨h1, h⟩
          · left; show msgT (1 + n) (c * m) = _; rw [h]
          · right; refine ⟨h1, ?_⟩; show msgT (1 + n) (c * m) = _; rw [h]
        · rcases List.mem_cons.mp hq with rfl | hq
          · exact List.mem_cons_self
          · simp [hq]
end
end My

namespace My
open PySem L2 Wb
local macro_rules | `(tactic| walk_at "has") => `(tactic| first | exact Wb.Has.int | exact Wb.Has.str | exact Wb.Has.bl | exact Wb.Has.non | exact Wb.Has.hd | assumption | (apply Wb.Has.tl; walk_at "has"))
local macro_rules | `(tactic| walk_at "ha") => `(tactic| first | exact Wb.HasA.nil | (refine Wb.HasA.cons ?_ ?_; (walk_at "has"); (walk_at "ha")))
local macro_rules | `(tactic| walk_at "ds") => `(tactic| dsimp only [cxOf, Cx.nox, Cx.wish, tVar, tC, tOp, tUn, tCons, tNil, tCall, tMeth, tMake, tCB, tAsg, gName, gSub, gTup, gCons, gNil, tPar, tAug, tRet, tRetN, tSeq, tNext, tIfS, tB, tTest, tAnd, tOr, tNot, tNotV, tAndV, tOrV, tIf, tDrop, tBM, tBM0, tTup, tLst, tFld, tM0, tM1, tDGet2, tDGet, tDIn, tDNotIn, tDNewT, tIfS, tDGet1, tDSetdT, tFor_e, tLc_e, tWhile, tYes, iList_e, iTup_e, iKeys, tLockE, tCKw, iZip, iRng1, iRng2, tSl, tPart, tNoPart, tTup, tLst, tIsN, tNotN, sFld, tCut, List.append_nil, List.nil_append, List.cons_append, tDrop, tCmp, t2I])


theorem toD_at {α : Type} [DecidableEq α] [PySem.W.Datum α] {xs : List α} {i : Nat} {d : PyData} (h : (xs.map toD)[i]? = some d) : ∃ a, xs[i]? = some a ∧ d = toD a := by
  rw [List.getElem?_map] at h
  cases q : xs[i]? with
  | none => rw [q] at h; cases h
  | some a => rw [q] at h; cases h; exact ⟨a, rfl, rfl⟩
theorem toD_mem {α : Type} [DecidableEq α] [PySem.W.Datum α] {xs : List α} {d : PyData} (h : d ∈ xs.map toD) : ∃ a ∈ xs, d = toD a := by
  obtain ⟨a, h1, h2⟩ := List.mem_map.mp h
  exact ⟨a, h1, h2.symm⟩
def spHeard (K : PySem.W.Frag) (C : Addr) : Sp := fun vs H Q _ => ∃ (L : Lk) (cs : Cs) (v : V) (rows : List MRow), vs = [v] ∧ Wd K H L cs ∧ Rdb L cs v (.list (rows.map toD)) ∧ rows.length ≤ 100 ∧ (∀ r ∈ rows, 1 ≤ r.b ∧ r.b ≤ 14) ∧
  ∀ H' p dx d R, wfR rows.length R → (∀ w n t, Hd R w n t ↔ (⟨w, n, t⟩ : MRow) ∈ rows) → Wd K H' L (radC C p dx d R ++ cs) → Q (.ref p) H'
theorem eraseIdx_perm {α : Type} : ∀ {l : List α} {i : Nat} {a : α}, l[i]? = some a → l.Perm (a :: l.eraseIdx i)
  | [], _, _, h => by simp at h
  | x :: l, 0, a, h => by simp at h; subst h; simp
  | x :: l, i + 1, a, h => by
    have h : l[i]? = some a := by simpa using h
    rw [List.eraseIdx_cons_succ]
    exact (List.Perm.cons x (eraseIdx_perm h)).trans (List.Perm.swap _ _ _)
theorem map_eraseIdx' {α β : Type} (f : α → β) : ∀ (l : List α) (i : Nat), (l.map f).eraseIdx i = (l.eraseIdx i).map f
  | [], _ => rfl
  | _ :: _, 0 => rfl
  | x :: l, i + 1 => by simp [map_eraseIdx' f l i]
section
variable {P : Program} {w : World} {K : PySem.W.Frag} {mg : Str → Option Value} {D : Ad} {base : Heap}

theorem ok__law_heard (T : Txt K mg D) : FnOk P w K mg base CX0 4 D.f__law_heard D.fd__law_heard ["_law_rows"] (spHeard K D.C_Radio) := by
  refine T.F__law_heard.ok sc__law_heard (fun vs H Q E h => ?_) (fun cdv A outer s H vs Q E hr h => ?_)
  · obtain ⟨L, cs, v, rows, rfl, _⟩ := h
    rfl
  · obtain ⟨L, cs, v, rows, rfl, W, hv, hl, hrow, k⟩ := h
    refine ⟨_, (pss_cons (ps_set (i := 1) sc__law_heard.nd rfl (by first | exact .inl rfl | exact .inr rfl) (pe_make0 T.mk_Radio (ok_Radio___init__ T) (hr.mono (by decide)) rfl T.mg_Radio (b_Radio___init__ T) .nil pass0))
    (pss_cons (ps_for PassesOwn.never rfl (pi_list (pv 0)) (pg_tup rfl (pgs_cons (pg_name (i := 2) sc__law_heard.nd rfl (by first | exact .inl rfl | exact .inr rfl)) (pgs_cons (pg_name (i := 3) sc__law_heard.nd rfl (by first | exact .inl rfl | exact .inr rfl)) (pgs_cons (pg_name (i := 4) sc__law_heard.nd rfl (by first | exact .inl rfl | exact .inr rfl)) pgs_nil)))) (pss_one (ps_expr (pe_meth (pv 1) T.cl_Radio T.me_Radio_hears (ok_Radio_hears T) (hr.mono (by decide)) (b_Radio_hears T) .nil pass0 (pa_cons (pv 2) (pa_cons (pv 3) (pa_cons (pv 4) pa_nil)))))))
    (pss_one (ps_ret (pv 1))))), ?_⟩
    walk_at "ds"
    refine fun p dx hp hdx hne => ⟨L, cs, p, dx, rfl, (W.newR hdx).newR (by rw [upd_ne (Ne.symm hne)]; exact hp), fun H d W => ⟨rfl, _, rfl, ?_⟩⟩
    refine w_forL rfl (x := v) (ds := rows.map toD) (fun i σ L' cs' => ∃ (R : List Ent) (a b c : Option V), L' = L ∧ cs' = radC D.C_Radio p dx d R ++ cs ∧ σ = [some v, some (.ref p), a, b, c] ∧ wfR i R ∧ ∀ w n t, Hd R w n t ↔ (⟨w, n, t⟩ : MRow) ∈ rows.take i) W
      ⟨[], none, none, none, rfl, rfl, rfl, ⟨List.nodup_nil, Nat.zero_le _, (fun e h => by cases h), (fun e h => by cases h)⟩, (fun w n t => ⟨(fun ⟨e, h, _⟩ => by cases h), (fun h => by simp at h)⟩)⟩
      (fun i σ L' cs' hs => by
        obtain ⟨R, a, b, c, rfl, rfl, _⟩ := hs
        exact hv.mono (fun _ h => h) fun x hx => List.mem_append_right _ hx) (fun i v1 d1 σ L' cs' H hi hs W => ?_) (fun σ L' cs' H hs W => ?_)
    · obtain ⟨R, a, b, c, rfl, rfl, rfl, hR, hh⟩ := hs
      obtain ⟨r, hr1, rfl⟩ := toD_at hi
      obtain ⟨q, rfl, hq⟩ := w_tup3 W .hd (x1 := .str r.a) (x2 := .int r.b) (x3 := .str r.c) rfl rfl rfl
      walk_at "ds"
      have hi : i < rows.length := (List.getElem?_eq_some_iff.mp hr1).1
      have hm : r ∈ rows := List.mem_of_getElem? hr1
      refine ⟨q, _, rfl, hq, rfl, _, _, rfl, _, _, rfl, _, _, rfl, rfl, ?_⟩
      refine ⟨_, rfl, p, dx, _, rfl, W.at List.mem_cons_self, rfl, _, rfl, _, rfl, _, rfl, _, cs, p, dx, d, R, i, r.a, r.b, r.c, rfl, W.tl, hR, by omega, hrow r hm, fun u H R' hR' W => ?_⟩
      refine ⟨_, _, ⟨R', _, _, _, rfl, rfl, rfl, hR'.wf, fun w n t => ?_⟩, W⟩
      rw [hR'.hd w n t, hh w n t, take_succ1 hr1, List.mem_append, List.mem_singleton]
      refine or_congr Iff.rfl ⟨fun ⟨h1, h2, h3⟩ => by rw [h1, h2, h3], fun h => by rw [← h]; exact ⟨rfl, rfl, rfl⟩⟩
    · obtain ⟨R, a, b, c, rfl, rfl, rfl, hR, hh⟩ := hs
      rw [List.length_map] at hR hh
      rw [List.take_length] at hh
      exact ⟨_, rfl, k _ p dx d R hR hh W⟩
theorem ok__law_mixed (T : Txt K mg D) : FnOk P w K mg base CX0 2 D.f__law_mixed D.fd__law_mixed ["_law_bag_here", "_law_rows"] (spMixed K) := by
  refine T.F__law_mixed.ok sc__law_mixed (fun vs H Q E h => ?_) (fun cdv A outer s H vs Q E hr h => ?_)
  · obtain ⟨L, cs, b, ds, v, rows, rfl, _⟩ := h
    rfl
  · obtain ⟨L, cs, b, ds, v, rows, rfl, W, hb, hv, l1, l2, k⟩ := h
    have hl0 : (rows.map (toD (α := MRow))).length = rows.length := List.length_map _
    refine ⟨_, (pss_cut (ps_set (i := 2) sc__law_mixed.nd rfl (by first | exact .inl rfl | exact .inr rfl) (pe_op op_catD (pv 1) (pe_lc (own := [("_law_k", 3)]) (tt := tYes) rfl sc__law_mixed.nd (pi_range1 rfl T.n_range (pa_cons (pe_call (ok__law_take T) (hr.mono (by decide)) rfl T.m__law_take T.F__law_take.kp (b__law_take T) .nil pass0 (pa_cons (pv 0) (pa_cons pe_int pa_nil))) pa_nil)) (blkOk_by (N := ["_law_bag_here", "_law_rows", "_law_left", "_law_k", "_law_found"]) (sc := (defScope s__law_mixed)) (by decide +kernel)) (fun _ _ _ _ _ => (pg_name (i := 3) sc__law_mixed.nd rfl (by first | exact .inl rfl | exact .inr rfl))) (fun _ _ _ _ _ => pts_nil) (fun _ _ _ _ _ => (pe_ix (ixL_K (K := K) rfl) (pv 1) (pe_call (ok__law_take T) (hr.mono (by decide)) rfl T.m__law_take T.F__law_take.kp (b__law_take T) .nil pass0 (pa_cons (pv 0) (pa_cons (pe_callB (len_K (K := K) rfl) rfl T.n_len B_len (pa_cons (pv 1) pa_nil)) pa_nil))) (fun _ _ => rfl))))))
    (pss_cons (ps_set (i := 4) sc__law_mixed.nd rfl (by first | exact .inl rfl | exact .inr rfl) (pe_lst pa_nil))
    (pss_cons (ps_for PassesOwn.never rfl (pi_range1 rfl T.n_range (pa_cons (pe_callB cr_len rfl T.n_len B_len (pa_cons (pv 2) pa_nil)) pa_nil)) (pg_name (i := 3) sc__law_mixed.nd rfl (by first | exact .inl rfl | exact .inr rfl)) (pss_one (ps_expr (pe_bm PySem.F.plainAttrs_list PySem.F.slot_list_append PySem.F.type_list_append mt_append (pv 4) (pa_cons (pe_bm PySem.F.plainAttrs_list PySem.F.slot_list_pop PySem.F.type_list_pop mt_popAt (pv 2) (pa_cons (pe_call (ok__law_take T) (hr.mono (by decide)) rfl T.m__law_take T.F__law_take.kp (b__law_take T) .nil pass0 (pa_cons (pv 0) (pa_cons (pe_callB cr_len rfl T.n_len B_len (pa_cons (pv 2) pa_nil)) pa_nil))) pa_nil)) pa_nil)))))
    (pss_one (ps_ret (pv 4)))))), ?_⟩
    walk_at "ds"
    refine ⟨fun σ' H' => ∃ (l : Addr) (ds' : List PyData) (lft : List MRow), σ' = [some (.ref b), some v, some (.ref l), none, none] ∧ Bag ds' ∧ (∀ r, r ∈ lft ↔ r ∈ rows) ∧ lft.length ≤ 60 ∧ Wd K H' L ((l, .dl (lft.map toD)) :: (b, .dl ds') :: cs), ?_, ?_⟩
    · refine ⟨_, rfl, _, rfl, L, cs, b, ds, 9, rfl, W, hb, by decide, by decide, fun H d ds d0 d1 hb W => ?_⟩
      refine ⟨d, rfl, by omega, by omega, ?_⟩
      refine w_lcR (fun i acc cs' => ∃ (ds' : List PyData) (out : List MRow), cs' = (b, .dl ds') :: cs ∧ Bag ds' ∧ acc = out.map toD ∧ out.length = i ∧ ∀ r ∈ out, r ∈ rows) W ⟨ds, [], rfl, hb, rfl, rfl, (fun r h => by cases h)⟩ (fun D' i acc cs' H hi hs W => ?_) (fun D' acc cs' H hs W => ?_)
      · obtain ⟨ds, out, rfl, hb, rfl, hlo, ho⟩ := hs
        walk_at "ds"
        refine ⟨rfl, iteT ⟨_, rfl, _, rfl, _, rfl, w_len W (.of hv) ?_⟩⟩
        refine ⟨L, (D', CO.dl (out.map toD)) :: cs, b, ds, _, rfl, W.swap, hb, by rw [hl0]; omega, by rw [hl0]; omega, fun H e ds e0 e1 hb W => ?_⟩
        obtain ⟨d1, hd1, hd2⟩ := atI_mem e0 e1
        obtain ⟨r, hr1, rfl⟩ := toD_mem hd2
        refine w_ixL W (.of hv) hd1 fun x W => ?_
        refine w_el W.swap (fun p hp => List.mem_cons_of_mem _ hp) .hd (by rw [List.length_map]; omega) ⟨ds, out ++ [r], rfl, hb, by rw [List.map_append]; rfl, by simp [hlo], fun r' h' => ?_⟩
        rcases List.mem_append.mp h' with h' | h'
        · exact ho r' h'
        · rw [List.mem_singleton.mp h']; exact hr1
      · obtain ⟨ds, out, rfl, hb, rfl, hlo, ho⟩ := hs
        refine w_cat W (.of hv) .c0 (by rw [List.length_map, List.length_map]; omega) (fun l H W => ⟨l, ds, rows ++ out, rfl, hb, fun r => ?_, ?_, ?_⟩)
        · rw [List.mem_append]
          exact ⟨fun h => h.elim id (ho r), .inl⟩
        · rw [List.length_append]; omega
        · rw [List.map_append]
          exact W.drop (((List.Sublist.refl _).cons _).cons₂ _)
    · rintro σ' H' ⟨l, ds, lft, rfl, hb, hm, hl, W⟩
      refine ⟨szl rfl, fun f hf => ?_⟩
      have W := W.newL hf (xs := []) (ds := []) .nil
      refine ⟨_, rfl, w_len W (Rdb.cell (ds := lft.map (toD (α := MRow))) (by simp)) ?_⟩
      rw [List.length_map]
      refine ⟨_, rfl, by omega, by omega, ?_⟩
      refine w_forR (fun i σ L' cs' => ∃ (ds' : List PyData) (l' f' : List MRow) (a : Option V), L' = L ∧ cs' = (f, .dl (f'.map toD)) :: (l, .dl (l'.map toD)) :: (b, .dl ds') :: cs ∧ σ = [some (.ref b), some v, some (.ref l), a, some (.ref f)] ∧ Bag ds' ∧ (f' ++ l').Perm lft ∧ f'.length = i) W ⟨ds, lft, [], none, rfl, rfl, rfl, hb, .refl _, rfl⟩ (fun i σ L' cs' H hi hs W => ?_) (fun σ L' cs' H hs W => ?_)
      · obtain ⟨ds, l', f', a, rfl, rfl, rfl, hb, hp, hfl⟩ := hs
        have hle := hp.length_eq
        rw [List.length_append] at hle
        have hi : i < lft.length := by simpa using hi
        have hl' : (l'.map (toD (α := MRow))).length = l'.length := List.length_map _
        walk_at "ds"
        refine ⟨_, rfl, tyv_c0 W, _, rfl, tyv_cell (ds := l'.map (toD (α := MRow))) W (by simp), _, rfl, _, rfl, w_len W (Rdb.cell (ds := l'.map (toD (α := MRow))) (by simp)) ?_⟩
        refine ⟨_, (f, CO.dl (f'.map toD)) :: (l, CO.dl (l'.map toD)) :: cs, b, ds, _, rfl, W.mv 2, hb, by rw [hl']; omega, by rw [hl']; omega, fun H e ds e0 e1 hb W => ?_⟩
        have W := W.mv 2
        obtain ⟨d1, hd1, hd2⟩ : ∃ d1, l'[e.toNat]? = some d1 ∧ True := by
          rw [hl'] at e1
          exact ⟨l'[e.toNat]'(by omega), by simp, trivial⟩
        refine w_popAt W (d := toD d1) e0 (by rw [List.getElem?_map, hd1]; rfl) (by rw [hl'] at e1; omega) (fun x H W => ?_)
        have W := W.mv 2
        refine w_app (ds := f'.map toD) W .hd (by rw [List.length_map]; omega) (fun H W => ?_)
        have W : Wd K H L' ((f, .dl ((f' ++ [d1]).map toD)) :: (l, .dl ((l'.eraseIdx e.toNat).map toD)) :: (b, .dl ds) :: cs) := by
          rw [List.map_append, ← map_eraseIdx']
          exact W.tl
        refine ⟨_, _, ⟨ds, _, _, _, rfl, rfl, rfl, hb, ?_, ?_⟩, W⟩
        · rw [List.append_assoc]
          exact (List.Perm.append_left f' (eraseIdx_perm hd1).symm).trans hp
        · rw [List.length_append, hfl]; rfl
      · obtain ⟨ds, l', f', a, rfl, rfl, rfl, hb, hp, hfl⟩ := hs
        have hle := hp.length_eq
        rw [List.length_append] at hle
        have hfl : f'.length = lft.length := by simpa using hfl
        have : l' = [] := List.eq_nil_of_length_eq_zero (by omega)
        subst this
        rw [List.append_nil] at hp
        refine ⟨_, rfl, k _ f ds f' hb (fun r => hp.mem_iff.trans (hm r)) (by omega) (W.drop (((List.Sublist.refl _).cons _).cons₂ _))⟩
end
end My

namespace My
open PySem L2 Wb
local macro_rules | `(tactic| walk_at "has") => `(tactic| first | exact Wb.Has.int | exact Wb.Has.str | exact Wb.Has.bl | exact Wb.Has.non | exact Wb.Has.hd | assumption | (apply Wb.Has.tl; walk_at "has"))
local macro_rules | `(tactic| walk_at "ha") => `(tactic| first | exact Wb.HasA.nil | (refine Wb.HasA.cons ?_ ?_; (walk_at "has"); (walk_at "ha")))
local macro_rules | `(tactic| walk_at "ds") => `(tactic| dsimp only [cxOf, Cx.nox, Cx.wish, tVar, tC, tOp, tUn, tCons, tNil, tCall, tMeth, tMake, tCB, tAsg, gName, gSub, gTup, gCons, gNil, tPar, tAug, tRet, tRetN, tSeq, tNext, tIfS, tB, tTest, tAnd, tOr, tNot, tNotV, tAndV, tOrV, tIf, tDrop, tBM, tBM0, tTup, tLst, tFld, tM0, tM1, tDGet2, tDGet, tDIn, tDNotIn, tDNewT, tIfS, tDGet1, tDSetdT, tFor_e, tLc_e, tWhile, tYes, iList_e, iTup_e, iKeys, tLockE, tCKw, iZip, iRng1, iRng2, tSl, tPart, tNoPart, tTup, tLst, tIsN, tNotN, sFld, tCut, List.append_nil, List.nil_append, List.cons_append, tDrop, tCmp, t2I])


open Classical in
noncomputable def grO (P : Pr) (w : Str) : Int := if h : ∃ g, Gr P w g then h.choose else 0
theorem gr_eq {P : Pr} {w : Str} {g : Int} (h : Gr P w g) : g = grO P w := by
  have h0 : ∃ g, Gr P w g := ⟨g, h⟩
  unfold grO
  rw [dif_pos h0]
  exact h.uniq h0.choose_spec
open Classical in
noncomputable def cnO (P : Pr) : Nat := if h : ∃ n, Cnt P n then h.choose else 0
theorem cn_eq {P : Pr} {n : Nat} (h : Cnt P n) : n = cnO P := by
  have h0 : ∃ n, Cnt P n := ⟨n, h⟩
  unfold cnO
  rw [dif_pos h0]
  exact h.uniq h0.choose_spec
noncomputable def rowP (P : Pr) (w : Str) : PyData := .tuple [.list ((rdP P w).map .str), .list ((misP P w (grO P w - 1).toNat).map .int)]
abbrev names3 : List Str := ["a", "b", "redone"]
noncomputable def toldP (P : Pr) : List PyData := (names3.map (rowP P)) ++ [.int (cnO P : Nat)]
def spTold (K : PySem.W.Frag) (C : Addr) : Sp := fun vs H Q _ => ∃ (L : Lk) (cs : Cs) (p dx d : Addr) (R : List Ent) (n : Nat), vs = [.ref p] ∧ Wd K H L cs ∧ Sub (radC C p dx d R) cs ∧ noTup cs ∧ wfR n R ∧ n ≤ 1000 ∧
  ∀ H' l, Wd K H' L ((l, .dl (toldP (Hd R))) :: cs) → Q (.ref l) H'
def spAlike (K : PySem.W.Frag) (C : Addr) : Sp := fun vs H Q _ => ∃ (L : Lk) (cs : Cs) (p dx d p' dx' d' : Addr) (R R' : List Ent) (n : Nat), vs = [.ref p, .ref p'] ∧ Wd K H L cs ∧ Sub (radC C p dx d R) cs ∧ Sub (radC C p' dx' d' R') cs ∧ noTup cs ∧ wfR n R ∧ wfR n R' ∧ n ≤ 1000 ∧ (∀ w m t, Hd R w m t ↔ Hd R' w m t) ∧
  ∀ H', Wd K H' L cs → Q (.bl true) H'
theorem str_at {ns : List Str} {i : Nat} {d : PyData} (h : (ns.map PyData.str)[i]? = some d) : ∃ t, ns[i]? = some t ∧ d = .str t := by
  rw [List.getElem?_map] at h
  cases q : ns[i]? with
  | none => rw [q] at h; cases h
  | some a => rw [q] at h; cases h; exact ⟨a, rfl, rfl⟩
section
variable {P : Program} {w : World} {K : PySem.W.Frag} {mg : Str → Option Value} {D : Ad} {base : Heap}

theorem ok__law_told (T : Txt K mg D) : FnOk P w K mg base CX0 4 D.f__law_told D.fd__law_told ["_law_radio"] (spTold K D.C_Radio) := by
  refine T.F__law_told.ok sc__law_told (fun vs H Q E h => ?_) (fun cdv A outer s H vs Q E hr h => ?_)
  · obtain ⟨L, cs, p, dx, d, R, n, rfl, _⟩ := h
    rfl
  · obtain ⟨L, cs, p, dx, d, R, n, rfl, W, hS, hN, hR, hn, k⟩ := h
    refine ⟨_, (pss_one (ps_ret (pe_op op_catD (pe_lc (own := [("_law_who", 1)]) (tt := tYes) rfl sc__law_told.nd (pi_tup (pe_tup (pa_cons pe_str (pa_cons pe_str (pa_cons pe_str pa_nil))))) (blkOk_by (N := ["_law_radio", "_law_who"]) (sc := (defScope s__law_told)) (by decide +kernel)) (fun _ _ _ _ _ => (pg_name (i := 1) sc__law_told.nd rfl (by first | exact .inl rfl | exact .inr rfl))) (fun _ _ _ _ _ => pts_nil) (fun _ _ _ _ _ => (pe_tup (pa_cons (pe_meth (pv 0) T.cl_Radio T.me_Radio_read (ok_Radio_read T) (hr.mono (by decide)) (b_Radio_read T) .nil pass0 (pa_cons (pv 1) pa_nil)) (pa_cons (pe_meth (pv 0) T.cl_Radio T.me_Radio_missing (ok_Radio_missing T) (hr.mono (by decide)) (b_Radio_missing T) .nil pass0 (pa_cons (pv 1) pa_nil)) pa_nil))))) (pe_lst (pa_cons (pe_callB (call_len_own (ok_Radio___len__ T) (hr.mono (by decide)) T.me_Radio___len__.1 T.me_Radio___len__.2 (b_Radio___len__ T) pass0) rfl T.n_len B_len (pa_cons (pv 0) pa_nil)) pa_nil))))), ?_⟩
    walk_at "ds"
    refine ⟨szl rfl, fun tp htp => ?_⟩
    have m0 : (p, CO.raw (.ins D.C_Radio dx [("known", .ref d)])) ∈ cs := hS _ List.mem_cons_self
    have W := W.newT htp (xs := [V.str "a", V.str "b", V.str "redone"]) (ds := names3.map .str) (by walk_at "ha")
    refine w_lcT rfl (ds := names3.map .str) (fun i acc cs' => cs' = cs ∧ acc = (names3.take i).map (rowP (Hd R))) W ⟨rfl, rfl⟩ .hd (fun D' i v d1 acc cs' H hi hs W => ?_) (fun D' acc cs' H hs W => ?_)
    · obtain ⟨rfl, rfl⟩ := hs
      obtain ⟨t, ht, rfl⟩ := str_at hi
      have ev := W.s
      subst ev
      walk_at "ds"
      refine ⟨rfl, iteT ⟨_, rfl, p, dx, _, rfl, W.at (List.mem_cons_of_mem _ m0), rfl, _, rfl, ?_⟩⟩
      refine ⟨_, _, p, dx, d, R, n, t, rfl, W, hS.cons, noTup.cons_dl hN, hR, hn, fun H l W => ?_⟩
      refine ⟨_, rfl, p, dx, _, rfl, W.at (List.mem_cons_of_mem _ (List.mem_cons_of_mem _ m0)), rfl, _, rfl, ?_⟩
      refine ⟨_, _, p, dx, d, R, n, t, rfl, W, hS.cons.cons, noTup.cons_dl (noTup.cons_dl hN), hR, hn, fun H l2 g hg W => ?_⟩
      refine ⟨szl rfl, fun q hq => ?_⟩
      have W := W.frz.frz.newT hq (xs := [.ref l, .ref l2]) (ds := [.list ((rdP (Hd R) t).map .str), .list ((misP (Hd R) t (g - 1).toNat).map .int)]) (by walk_at "ha")
      refine w_el W (fun p hp => by simp [hp]; right; right; right; right; exact List.mem_cons.mp hp) .hd ?_ ⟨rfl, ?_⟩
      · rw [List.length_map]
        exact Nat.lt_of_le_of_lt (List.length_take_le' _ _) (by decide)
      · rw [take_succ1 ht, List.map_append, gr_eq hg]
        rfl
    · obtain ⟨rfl, rfl⟩ := hs
      refine ⟨_, rfl, p, dx, _, rfl, W.at (List.mem_cons_of_mem _ m0), ?_⟩
      refine ⟨_, _, p, dx, d, R, n, rfl, W, hS.cons, noTup.cons_dl hN, hR, hn, fun H c hc hc2 W => ?_⟩
      refine ⟨_, rfl, by omega, by omega, szl rfl, fun l hl => ?_⟩
      have W := W.newL hl (xs := [.int c]) (ds := [.int c]) (by walk_at "ha")
      refine w_cat W (Rdb.cell (ds := (names3.map (rowP (Hd R)))) (by simp)) .c0 (by simp) (fun l2 H W => k _ l2 ?_)
      rw [cn_eq hc] at W
      exact (W.tl).drop (((List.Sublist.refl _).cons _).cons _ |>.cons₂ _)
theorem w_radcmp (T : Txt K mg D) {g : Bool → Bool} {H : Hp} {L : Lk} {cs : Cs} {p dx d p' dx' d' : Addr} {R R' : List Ent} {n : Nat} {Q : VK} (W : Wd K H L cs) (hS : Sub (radC D.C_Radio p dx d R) cs) (hS' : Sub (radC D.C_Radio p' dx' d' R') cs) (hN : noTup cs) (hR : wfR n R) (hR' : wfR n R') (hn : n ≤ 1000)
    (k : ∀ H' b, (b = true ↔ ∀ w m t, Hd R w m t ↔ Hd R' w m t) → Wd K H' L cs → Q (.bl (g b)) H') : rOwnCmp K D.C_Radio (spEq K D.C_Radio) E0 g (.ref p) (.ref p') H Q :=
  ⟨p, dx, _, .ref D.C_Radio, rfl, W.at (hS _ List.mem_cons_self), .base (.ins (W.at (hS' _ List.mem_cons_self)) T.cl_Radio T.ec T.eg T.et T.em_Radio), nf_own, L, cs, p, dx, d, R, n, W, hS, hN, hR, hn, .inl ⟨p', dx', d', R', rfl, hS', hR', fun H' b hb W => ⟨b, rfl, k H' b hb W⟩⟩⟩
theorem ok__law_alike (T : Txt K mg D) : FnOk P w K mg base CX0 4 D.f__law_alike D.fd__law_alike ["_law_one", "_law_other"] (spAlike K D.C_Radio) := by
  refine T.F__law_alike.ok sc__law_alike (fun vs H Q E h => ?_) (fun cdv A outer s H vs Q E hr h => ?_)
  · obtain ⟨L, cs, p, dx, d, p', dx', d', R, R', n, rfl, _⟩ := h
    rfl
  · obtain ⟨L, cs, p, dx, d, p', dx', d', R, R', n, rfl, W, hS, hS', hN, hR, hR', hn, he, k⟩ := h
    refine ⟨_, (pss_one (ps_ret (pe_and (pe_cmpR (op_eq_own (ok_Radio___eq__ T) (hr.mono (by decide)) T.me_Radio___eq__.1 T.me_Radio___eq__.2 (b_Radio___eq__ T) pass0) (pv 0) (pv 1) (nomark _)) (pe_and (pe_cmpR (op_eq_own (ok_Radio___eq__ T) (hr.mono (by decide)) T.me_Radio___eq__.1 T.me_Radio___eq__.2 (b_Radio___eq__ T) pass0) (pv 1) (pv 0) (nomark _)) (pe_and (pe_not (pe_cmpR (op_ne_own (ok_Radio___eq__ T) (hr.mono (by decide)) T.me_Radio___eq__.1 T.en_Radio T.em_Radio T.me_Radio___eq__.2 (b_Radio___eq__ T) pass0) (pv 0) (pv 1) (nomark _))) (pe_one (pe_cmpR (op_in_own (ok_Radio___eq__ T) (hr.mono (by decide)) T.me_Radio___eq__.1 T.me_Radio___eq__.2 (b_Radio___eq__ T) pass0) (pv 0) (pe_lst (pa_cons (pv 1) pa_nil)) (by rfl)))))))), ?_⟩
    walk_at "ds"
    have he' : ∀ w m t, Hd R' w m t ↔ Hd R w m t := fun w m t => (he w m t).symm
    refine ⟨_, rfl, _, rfl, w_radcmp T W hS hS' hN hR hR' hn fun H b hb W => ⟨b, rfl, ?_⟩⟩
    rw [hb.mpr he]
    refine iteT ⟨_, rfl, _, rfl, w_radcmp T W hS' hS hN hR' hR hn fun H b hb W => ⟨b, rfl, ?_⟩⟩
    rw [hb.mpr he']
    refine iteT ⟨_, rfl, _, rfl, w_radcmp T W hS hS' hN hR hR' hn fun H b hb W => ⟨_, rfl, _, rfl, ?_⟩⟩
    rw [hb.mpr he]
    refine iteT ⟨_, rfl, _, rfl, szl rfl, fun l hl => ?_⟩
    have W2 := W.newR hl (o := .lst [.ref p'])
    refine ⟨l, p', rfl, W2.c0, ?_⟩
    by_cases hpp : p = p'
    · subst hpp
      exact .inl ⟨rfl, k _ W2.drop1⟩
    · refine .inr ⟨⟨p, (fun q => hpp (by injection q)), rfl⟩, ?_⟩
      refine w_radcmp T W2 hS'.cons hS.cons (fun c hc xs => ?_) hR' hR hn fun H b hb W => ⟨b, rfl, W.c0, ?_⟩
      · rcases List.mem_cons.mp hc with rfl | hc
        · intro z; cases z
        · exact hN _ hc xs
      · rw [hb.mpr he']
        exact k _ W.drop1
end
end My

namespace My
open PySem L2 Wb
local macro_rules | `(tactic| walk_at "has") => `(tactic| first | exact Wb.Has.int | exact Wb.Has.str | exact Wb.Has.bl | exact Wb.Has.non | exact Wb.Has.hd | assumption | (apply Wb.Has.tl; walk_at "has"))
local macro_rules | `(tactic| walk_at "ha") => `(tactic| first | exact Wb.HasA.nil | (refine Wb.HasA.cons ?_ ?_; (walk_at "has"); (walk_at "ha")))
local macro_rules | `(tactic| walk_at "ds") => `(tactic| dsimp only [cxOf, Cx.nox, Cx.wish, tVar, tC, tOp, tUn, tCons, tNil, tCall, tMeth, tMake, tCB, tAsg, gName, gSub, gTup, gCons, gNil, tPar, tAug, tRet, tRetN, tSeq, tNext, tIfS, tB, tTest, tAnd, tOr, tNot, tNotV, tAndV, tOrV, tIf, tDrop, tBM, tBM0, tTup, tLst, tFld, tM0, tM1, tDGet2, tDGet, tDIn, tDNotIn, tDNewT, tIfS, tDGet1, tDSetdT, tFor_e, tLc_e, tWhile, tYes, iList_e, iTup_e, iKeys, tLockE, tCKw, iZip, iRng1, iRng2, tSl, tPart, tNoPart, tTup, tLst, tIsN, tNotN, sFld, tCut, List.append_nil, List.nil_append, List.cons_append, tDrop, tCmp, t2I])


def spLate (K : PySem.W.Frag) : Sp := fun vs H Q _ => ∃ (L : Lk) (cs : Cs) (v : V) (b : Addr) (ds : List PyData) (c : Int) (rows : List MRow), vs = [v, .ref b, .int c] ∧ Wd K H L ((b, .dl ds) :: cs) ∧ Bag ds ∧ Has L v (.list (rows.map toD)) ∧ (c = 0 ∨ c = 1) ∧ (∀ r ∈ rows, okRow c r) ∧ rows.length ≤ 40 ∧ noTup cs ∧
  ∀ H' ds', Bag ds' → Wd K H' L ((b, .dl ds') :: cs) → Q (.bl true) H'
theorem rdF_mem {f : Int → Option Str} : ∀ {n : Nat} {k : Int} {t : Str}, t ∈ rdF f n k → ∃ m, f m = some t
  | 0, _, _, h => by cases h
  | n + 1, k, t, h => by
    unfold rdF at h
    cases q : f k with
    | none => rw [q] at h; cases h
    | some u =>
      rw [q] at h
      rcases List.mem_cons.mp h with rfl | h
      · exact ⟨k, q⟩
      · exact rdF_mem h
theorem rdF_len {f : Int → Option Str} : ∀ (n : Nat) (k : Int), (rdF f n k).length ≤ n
  | 0, _ => Nat.le_refl _
  | n + 1, k => by
    unfold rdF
    split
    · exact Nat.zero_le _
    · rw [List.length_cons]; exact Nat.succ_le_succ (rdF_len n _)
theorem rdF_pre {f g : Int → Option Str} (h : ∀ k t, f k = some t → g k = some t) : ∀ (n : Nat) (k : Int), (rdF g n k).take (rdF f n k).length = rdF f n k
  | 0, _ => rfl
  | n + 1, k => by
    unfold rdF
    cases q : f k with
    | none => simp
    | some t =>
      rw [h k t q]
      simp only [List.length_cons, List.take_succ_cons]
      rw [rdF_pre h n (k + 1)]
theorem msgT_fin {n m : Int} (h1 : 1 ≤ n) (h2 : n ≤ 14) (hm : m = 0 ∨ m = 1) : PyData.strOk (msgT n m) = true ∧ (msgT n m).cps.size ≤ 24 ∧ msgT n m ≠ Str.ofString "y" := by
  have : n = 1 ∨ n = 2 ∨ n = 3 ∨ n = 4 ∨ n = 5 ∨ n = 6 ∨ n = 7 ∨ n = 8 ∨ n = 9 ∨ n = 10 ∨ n = 11 ∨ n = 12 ∨ n = 13 ∨ n = 14 := by omega
  rcases hm with rfl | rfl <;> rcases this with rfl | rfl | rfl | rfl | rfl | rfl | rfl | rfl | rfl | rfl | rfl | rfl | rfl | rfl <;> exact ⟨by decide +kernel, by decide +kernel, by decide +kernel⟩
theorem okRow_txt {c : Int} {r : MRow} (h : okRow c r) : PyData.strOk r.c = true ∧ r.c.cps.size ≤ 24 ∧ r.c ≠ Str.ofString "y" := by
  obtain ⟨_, h1, h2, h3 | ⟨_, h3⟩⟩ := h
  · rw [h3]; exact msgT_fin h1 h2 (.inl rfl)
  · rw [h3]; exact msgT_fin h1 h2 (.inr rfl)
noncomputable def aheadD (P : Pr) : List PyData := names3.map fun w => .list ((rdP P w).map .str)
def Tx (t : Str) : Prop := PyData.strOk t = true ∧ t.cps.size ≤ 24
theorem strs_weight : ∀ {ts : List Str}, (∀ t ∈ ts, Tx t) → PyData.weightAll (ts.map .str) ≤ ts.length * 25
  | [], _ => by simp [PyData.weightAll]
  | t :: ts, h => by
    have h1 := (h t List.mem_cons_self).2
    have h2 := strs_weight fun u hu => h u (List.mem_cons_of_mem _ hu)
    simp only [List.map_cons, PyData.weightAll, PyData.weight, List.length_cons]
    omega
theorem strs_short : ∀ ts : List Str, PyData.intsShortAll 13 (ts.map .str) = true
  | [] => rfl
  | t :: ts => by simp [PyData.intsShortAll, PyData.intsShort, strs_short ts]
theorem strs_showable : ∀ ts : List Str, PyData.showableAll (ts.map .str) = true
  | [] => rfl
  | t :: ts => by simp [PyData.showableAll, PyData.showable, strs_showable ts]
theorem strs_nodict : ∀ ts : List Str, PyData.hasDictAll (ts.map .str) = false
  | [] => rfl
  | t :: ts => by simp [PyData.hasDictAll, PyData.hasDict, strs_nodict ts]
theorem ahead_ok {P : Pr} (h : ∀ w n t, P w n t → Tx t) : (PyData.list (aheadD P)).showable = true ∧ (PyData.list (aheadD P)).hasDict = false ∧ (PyData.list (aheadD P)).depth ≤ 60 ∧ (PyData.list (aheadD P)).shown.length ≤ sizeLine := by
  have hx : ∀ w, ∀ t ∈ rdP P w, Tx t := fun w t ht => by
    obtain ⟨m, hm⟩ := rdF_mem ht
    exact h _ _ _ (of_sto hm).1
  have hw : ∀ w, PyData.weightAll ((rdP P w).map .str) ≤ 500 := fun w => by
    have h1 := strs_weight (hx w)
    have h2 := rdF_len (f := sto P w) 20 1
    have h2 : (rdP P w).length ≤ 20 := h2
    omega
  have hz : PyData.layable0 (PyData.list (aheadD P)) = true := by
    have w1 := hw "a"
    have w2 := hw "b"
    have w3 := hw "redone"
    unfold PyData.layable0
    simp only [Bool.and_eq_true, decide_eq_true_eq]
    refine ⟨⟨?_, ?_⟩, ?_⟩
    · simp only [aheadD, names3, List.map_cons, List.map_nil, PyData.canLay0, PyData.canLayAll0, Bool.and_true, Bool.and_eq_true]
      exact ⟨lay_strs fun t ht => (hx _ t ht).1, lay_strs fun t ht => (hx _ t ht).1, lay_strs fun t ht => (hx _ t ht).1⟩
    · simp [aheadD, PyData.depth, PyData.depthAll, dep_strs]
    · simp only [aheadD, names3, List.map_cons, List.map_nil, PyData.weight, PyData.weightAll]
      omega
  refine ⟨?_, ?_, ?_, Nat.le_trans (m := 15728653) (PyProof.Rows.shown_le13 hz ?_) (by decide)⟩
  · simp [aheadD, PyData.showable, PyData.showableAll, strs_showable]
  · simp [aheadD, PyData.hasDict, PyData.hasDictAll, strs_nodict]
  · simp [aheadD, PyData.depth, PyData.depthAll, dep_strs]
  · simp [aheadD, PyData.intsShort, PyData.intsShortAll, strs_short]
theorem wfR.mono {n m : Nat} {R : List Ent} (h : wfR n R) (hm : n ≤ m) : wfR m R := ⟨h.nd, Nat.le_trans h.len hm, fun e he => ⟨(h.txt e he).1, (h.txt e he).2.1, Nat.le_trans (h.txt e he).2.2 hm⟩, h.ok⟩
theorem noTup_rad {C p dx d : Addr} {R : List Ent} {cs : Cs} (h : noTup cs) : noTup (radC C p dx d R ++ cs) := fun c hc xs => by
  rcases List.mem_append.mp hc with hc | hc
  · unfold radC at hc
    rcases List.mem_cons.mp hc with rfl | hc
    · intro z; cases z
    · rcases List.mem_cons.mp hc with rfl | hc
      · intro z; cases z
      · rcases List.mem_cons.mp hc with rfl | hc
        · intro z; cases z
        · obtain ⟨e, _, rfl⟩ := List.mem_map.mp hc
          intro z; cases z
  · exact h c hc xs
theorem Sub.left {a b : Cs} : Sub a (a ++ b) := fun _ h => List.mem_append_left _ h
theorem Sub.right {a b c : Cs} (h : Sub a c) : Sub a (b ++ c) := fun x hx => List.mem_append_right _ (h x hx)
theorem pr_eq {P P' : Pr} (h : ∀ w n t, P w n t ↔ P' w n t) : P = P' := funext fun w => funext fun n => funext fun t => propext (h w n t)
section
variable {P : Program} {w : World} {K : PySem.W.Frag} {mg : Str → Option Value} {D : Ad} {base : Heap}

theorem w_reads (T : Txt K mg D) {A : Around} {k : Nat} {H : Hp} {L : Lk} {cs : Cs} {p dx d : Addr} {R : List Ent} {n : Nat} {x : V} {a0 a1 a2 a3 a4 a6 a7 a8 a9 a10 a11 a12 a13 : Option V} {Q : VK} (W : Wd K H L cs) (hS : Sub (radC D.C_Radio p dx d R) cs) (hN : noTup cs) (hR : wfR n R) (hn : n ≤ 1000)
    (hx : Has L x (.tuple (names3.map .str))) (k : ∀ D' H', Wd K H' L ((D', .dl (aheadD (Hd R))) :: cs) → Q (.ref D') H') :
    rTupIt K x H fun J H1 => lcBody J (gName 7) tYes (tMeth D.C_Radio (Str.ofString "read") (spRead K D.C_Radio) [] E0 (tVar 5) (tCons (tVar 7) tNil)) (List.map (fun x => x.snd) [(Str.ofString "_law_who", 7)]) [a0, a1, a2, a3, a4, some (.ref p), a6, a7, a8, a9, a10, a11, a12, a13] H1 Q := by
  have m0 : (p, CO.raw (.ins D.C_Radio dx [("known", .ref d)])) ∈ cs := hS _ List.mem_cons_self
  refine w_lcT rfl (ds := names3.map .str) (fun i acc cs' => cs' = cs ∧ acc = (names3.take i).map fun w => PyData.list ((rdP (Hd R) w).map .str)) W ⟨rfl, rfl⟩ hx (fun D' i v d1 acc cs' H hi hs W => ?_) (fun D' acc cs' H hs W => ?_)
  · obtain ⟨rfl, rfl⟩ := hs
    obtain ⟨t, ht, rfl⟩ := str_at hi
    have ev := W.s
    subst ev
    walk_at "ds"
    refine ⟨rfl, iteT ⟨_, rfl, p, dx, _, rfl, W.at (List.mem_cons_of_mem _ m0), rfl, _, rfl, ?_⟩⟩
    refine ⟨_, _, p, dx, d, R, n, t, rfl, W, hS.cons, noTup.cons_dl hN, hR, hn, fun H l W => ?_⟩
    refine w_el W.frz (fun p hp => List.mem_cons_of_mem _ (List.mem_cons_of_mem _ hp)) .hd ?_ ⟨rfl, ?_⟩
    · rw [List.length_map]
      exact Nat.lt_of_le_of_lt (List.length_take_le' _ _) (by decide)
    · rw [take_succ1 ht, List.map_append]
      rfl
  · obtain ⟨rfl, rfl⟩ := hs
    exact k _ _ W
theorem ok__law_late (T : Txt K mg D) : FnOkG P w K mg base CX0 6 D.f__law_late D.fd__law_late ["_law_rows", "_law_bag_here", "_law_clashes"] (spLate K) := by
  refine okG T.F__law_late sc__law_late (fun vs H Q E h => ?_) (fun cdv A outer s H vs Q E hgd hr h => ?_)
  · obtain ⟨L, cs, v, b, ds, c, rows, rfl, _⟩ := h
    rfl
  · obtain ⟨L, cs, v, b, ds, c, rows, rfl, W, hb, hv, hc, hrow, hl, hN, k⟩ := h
    refine ⟨_, (pss_cut (ps_set (i := 3) sc__law_late.nd rfl (by first | exact .inl rfl | exact .inr rfl) (pe_lc (own := [("_law_row", 4)]) rfl sc__law_late.nd (pi_list (pv 0)) (blkOk_by (N := ["_law_rows", "_law_bag_here", "_law_clashes", "_law_held", "_law_row", "_law_radio", "_law_ahead", "_law_who", "_law_kept", "_law_count", "_law_words", "_law_now", "_law_one", "_law_some"]) (sc := (defScope s__law_late)) (by decide +kernel)) (fun _ _ _ _ _ => (pg_name (i := 4) sc__law_late.nd rfl (by first | exact .inl rfl | exact .inr rfl))) (fun _ _ _ _ _ => (pts_one (pt_cmpR op_eq (pe_call (ok__law_take T) (hr.mono (by decide)) rfl T.m__law_take T.F__law_take.kp (b__law_take T) .nil pass0 (pa_cons (pv 1) (pa_cons pe_int pa_nil))) pe_int (nomark _)))) (fun _ _ _ _ _ => (pv 4))))
    (pss_cut (ps_set (i := 5) sc__law_late.nd rfl (by first | exact .inl rfl | exact .inr rfl) (pe_call (ok__law_heard T) (hr.mono (by decide)) rfl T.m__law_heard T.F__law_heard.kp (b__law_heard T) .nil pass0 (pa_cons (pe_lc (own := [("_law_row", 4)]) rfl sc__law_late.nd (pi_list (pv 0)) (blkOk_by (N := ["_law_rows", "_law_bag_here", "_law_clashes", "_law_held", "_law_row", "_law_radio", "_law_ahead", "_law_who", "_law_kept", "_law_count", "_law_words", "_law_now", "_law_one", "_law_some"]) (sc := (defScope s__law_late)) (by decide +kernel)) (fun _ _ _ _ _ => (pg_name (i := 4) sc__law_late.nd rfl (by first | exact .inl rfl | exact .inr rfl))) (fun _ _ _ _ _ => (pts_one (pt_cmpR (notInP_K (K := K) rfl (hu65 hr)) (pv 4) (pv 3) (by rfl)))) (fun _ _ _ _ _ => (pv 4))) pa_nil)))
    (pss_cut (ps_setLc (i := 6) (own := [("_law_who", 7)]) (tt := tYes) rfl sc__law_late.nd rfl rfl (sw_true rfl rfl rfl (by decide +kernel)) (pi_tup (pe_tup (pa_cons pe_str (pa_cons pe_str (pa_cons pe_str pa_nil))))) (blkOk_by (N := ["_law_rows", "_law_bag_here", "_law_clashes", "_law_held", "_law_row", "_law_radio", "_law_ahead", "_law_who", "_law_kept", "_law_count", "_law_words", "_law_now", "_law_one", "_law_some"]) (sc := (defScope s__law_late)) (by decide +kernel)) (fun _ _ _ _ _ => (pg_name (i := 7) sc__law_late.nd rfl (by first | exact .inl rfl | exact .inr rfl))) (fun _ _ _ _ _ => pts_nil) (fun _ _ _ _ _ => (pe_meth (pv 5) T.cl_Radio T.me_Radio_read (ok_Radio_read T) (hr.mono (by decide)) (b_Radio_read T) .nil pass0 (pa_cons (pv 7) pa_nil))))
    (pss_cons (ps_set (i := 8) sc__law_late.nd rfl (by first | exact .inl rfl | exact .inr rfl) (pe_callTy (cr_strD hgd hr) rfl T.n_str B_str (pa_cons (pv 6) pa_nil)))
    (pss_cut (ps_for PassesOwn.never rfl (pi_list (pv 3)) (pg_tup rfl (pgs_cons (pg_name (i := 7) sc__law_late.nd rfl (by first | exact .inl rfl | exact .inr rfl)) (pgs_cons (pg_name (i := 9) sc__law_late.nd rfl (by first | exact .inl rfl | exact .inr rfl)) (pgs_cons (pg_name (i := 10) sc__law_late.nd rfl (by first | exact .inl rfl | exact .inr rfl)) pgs_nil)))) (pss_one (ps_expr (pe_meth (pv 5) T.cl_Radio T.me_Radio_hears (ok_Radio_hears T) (hr.mono (by decide)) (b_Radio_hears T) .nil pass0 (pa_cons (pv 7) (pa_cons (pv 9) (pa_cons (pv 10) pa_nil)))))))
    (pss_cut (ps_setLc (i := 11) (own := [("_law_who", 7)]) (tt := tYes) rfl sc__law_late.nd rfl rfl (sw_true rfl rfl rfl (by decide +kernel)) (pi_tup (pe_tup (pa_cons pe_str (pa_cons pe_str (pa_cons pe_str pa_nil))))) (blkOk_by (N := ["_law_rows", "_law_bag_here", "_law_clashes", "_law_held", "_law_row", "_law_radio", "_law_ahead", "_law_who", "_law_kept", "_law_count", "_law_words", "_law_now", "_law_one", "_law_some"]) (sc := (defScope s__law_late)) (by decide +kernel)) (fun _ _ _ _ _ => (pg_name (i := 7) sc__law_late.nd rfl (by first | exact .inl rfl | exact .inr rfl))) (fun _ _ _ _ _ => pts_nil) (fun _ _ _ _ _ => (pe_meth (pv 5) T.cl_Radio T.me_Radio_read (ok_Radio_read T) (hr.mono (by decide)) (b_Radio_read T) .nil pass0 (pa_cons (pv 7) pa_nil))))
    (pss_cons (ps_if (PW.pt (pw_or (pt_cmpR op_ne (pe_callTy (cr_strD hgd hr) rfl T.n_str B_str (pa_cons (pv 6) pa_nil)) (pv 8) (nomark _)) (pw_or1 (pt_not (pt_val (pe_call (ok__law_alike T) (hr.mono (by decide)) rfl T.m__law_alike T.F__law_alike.kp (b__law_alike T) .nil pass0 (pa_cons (pv 5) (pa_cons (pe_call (ok__law_heard T) (hr.mono (by decide)) rfl T.m__law_heard T.F__law_heard.kp (b__law_heard T) .nil pass0 (pa_cons (pv 0) pa_nil)) pa_nil)))))))) (pss_one (ps_ret pe_bl))
      pss_nil)
    (pss_one (ps_ret (pe_or (pe_cmpR op_eq (pv 2) pe_int (nomark _)) (pe_one (pe_cmpR (op_eqP (hu64 hr)) (pe_lc (own := [("_law_one", 12), ("_law_some", 13)]) (g := (gTup K 2 (gCons (gName 12) (gCons (gName 13) gNil)))) (tt := tYes) rfl sc__law_late.nd (pi_zip rfl T.n_zip (pa_cons (pv 6) (pa_cons (pv 11) pa_nil))) (blkOk_by (N := ["_law_rows", "_law_bag_here", "_law_clashes", "_law_held", "_law_row", "_law_radio", "_law_ahead", "_law_who", "_law_kept", "_law_count", "_law_words", "_law_now", "_law_one", "_law_some"]) (sc := (defScope s__law_late)) (by decide +kernel)) (fun _ _ _ _ _ => (pg_tup rfl (pgs_cons (pg_name (i := 12) sc__law_late.nd rfl (by first | exact .inl rfl | exact .inr rfl)) (pgs_cons (pg_name (i := 13) sc__law_late.nd rfl (by first | exact .inl rfl | exact .inr rfl)) pgs_nil)))) (fun _ _ _ _ _ => pts_nil) (fun _ _ _ _ _ => (pe_slice (slL_K (K := K) rfl) (pv 13) po_none (po_some (pe_callB (len_K (K := K) rfl) rfl T.n_len B_len (pa_cons (pv 12) pa_nil)))))) (pv 6) (nomark _))))))))))))), ?_⟩
    walk_at "ds"
    refine ⟨fun σ' H' => ∃ (h : Addr) (ds' : List PyData) (held : List MRow), σ' = [some v, some (.ref b), some (.int c), some (.ref h), none, none, none, none, none, none, none, none, none, none] ∧ Bag ds' ∧ (∀ r ∈ held, r ∈ rows) ∧ held.length ≤ 40 ∧ Wd K H' ((.ref h, .list (held.map toD)) :: L) ((b, .dl ds') :: cs), ?_, ?_⟩
    · refine ⟨_, rfl, w_lcL rfl (ds := rows.map toD) (fun i acc cs' => ∃ (ds' : List PyData) (held : List MRow), cs' = (b, .dl ds') :: cs ∧ Bag ds' ∧ acc = held.map toD ∧ (∀ r ∈ held, r ∈ rows) ∧ held.length ≤ i) W ⟨ds, [], rfl, hb, rfl, (fun r h => by cases h), Nat.le_refl _⟩ (fun i acc cs' _ => .of hv) (fun D' i v d1 acc cs' H hi hs W => ?_) (fun D' acc cs' H hs W => ?_)⟩
      · obtain ⟨ds, held, rfl, hb, rfl, hh, hl2⟩ := hs
        obtain ⟨r, hr1, rfl⟩ := toD_at hi
        have hi : i < rows.length := (List.getElem?_eq_some_iff.mp hr1).1
        walk_at "ds"
        refine ⟨rfl, _, rfl, _, _, b, ds, 3, rfl, W.swap, hb, by decide, by decide, fun H e ds e0 e1 hb W => ?_⟩
        refine ⟨rfl, _, rfl, ite2 (fun _ => ?_) (fun _ => ?_)⟩
        · refine ⟨_, rfl, w_el W.swap (fun p hp => List.mem_cons_of_mem _ hp) .hd (by rw [List.length_map]; omega) ⟨ds, held ++ [r], rfl, hb, by rw [List.map_append]; rfl, fun r' h' => ?_, by rw [List.length_append, List.length_singleton]; omega⟩⟩
          rcases List.mem_append.mp h' with h' | h'
          · exact hh r' h'
          · rw [List.mem_singleton.mp h']; exact List.mem_of_getElem? hr1
        · exact w_no W.swap (fun p hp => List.mem_cons_of_mem _ hp) ⟨ds, held, rfl, hb, rfl, hh, by omega⟩
      · obtain ⟨ds, held, rfl, hb, rfl, hh, hl2⟩ := hs
        rw [List.length_map] at hl2
        exact ⟨D', ds, held, rfl, hb, hh, by omega, W.frz⟩
    rintro σ' H' ⟨h, ds, held, rfl, hb, hheld, hlh, W⟩
    have hrest : ∀ r, r ∈ rows.filter (fun r => !decide (r ∈ held)) ↔ r ∈ rows ∧ ¬ r ∈ held := fun r => by simp
    refine ⟨fun σ' H' => ∃ (p dx d : Addr) (R : List Ent), σ' = [some v, some (.ref b), some (.int c), some (.ref h), none, some (.ref p), none, none, none, none, none, none, none, none] ∧ wfR 40 R ∧ (∀ w n t, Hd R w n t ↔ (⟨w, n, t⟩ : MRow) ∈ rows ∧ ¬ (⟨w, n, t⟩ : MRow) ∈ held) ∧
      Wd K H' ((.ref h, .list (held.map toD)) :: L) (radC D.C_Radio p dx d R ++ ((b, .dl ds) :: cs)), ?_, ?_⟩
    · refine ⟨_, rfl, w_lcL rfl (ds := rows.map toD) (fun i acc cs' => cs' = (b, .dl ds) :: cs ∧ acc = ((rows.take i).filter (fun r => !decide (r ∈ held))).map toD) W ⟨rfl, rfl⟩ (fun i acc cs' _ => (Rdb.of hv).tl) (fun D' i v d1 acc cs' H hi hs W => ?_) (fun D' acc cs' H hs W => ?_)⟩
      · obtain ⟨rfl, rfl⟩ := hs
        obtain ⟨r, hr1, rfl⟩ := toD_at hi
        walk_at "ds"
        refine ⟨rfl, _, rfl, _, rfl, w_inT (a := r) (xs := held) W (.of .hd) (.of (Has.hd.tl)) (by decide) ⟨_, rfl, ite2 (fun hc => ?_) (fun hc => ?_)⟩⟩
        · have hc : (!decide (r ∈ held)) = true := hc
          refine ⟨_, rfl, w_el W (fun p hp => List.mem_cons_of_mem _ hp) .hd ?_ ⟨rfl, ?_⟩⟩
          · rw [List.length_map]
            have h1 : ((rows.take i).filter (fun r => !decide (r ∈ held))).length ≤ (rows.take i).length := List.length_filter_le _ _
            have h2 : (rows.take i).length ≤ rows.length := List.length_take_le' _ _
            omega
          · rw [take_succ1 hr1, List.filter_append, List.filter_cons, if_pos hc, List.map_append]
            rfl
        · have hc : ¬ (!decide (r ∈ held)) = true := hc
          refine w_no W (fun p hp => List.mem_cons_of_mem _ hp) ⟨rfl, ?_⟩
          rw [take_succ1 hr1, List.filter_append, List.filter_cons, if_neg hc, List.filter_nil, List.append_nil]
      · obtain ⟨rfl, rfl⟩ := hs
        rw [List.length_map, List.take_length] at W
        have hlr : (rows.filter (fun r => !decide (r ∈ held))).length ≤ 40 := Nat.le_trans (List.length_filter_le _ _) hl
        refine ⟨_, _, _, _, rfl, W, .c0, by omega, fun r hr => ⟨(hrow r ((hrest r).mp hr).1).2.1, (hrow r ((hrest r).mp hr).1).2.2.1⟩, fun H p dx d R hR hh W => ⟨p, dx, d, R, rfl, hR.mono hlr, fun w n t => (hh w n t).trans (hrest _), ?_⟩⟩
        exact W.drop (List.Sublist.append_left (List.sublist_cons_self _ _) _)
    rintro σ' H' ⟨p, dx, d, R, rfl, hR, hh, W⟩
    have hN2 : noTup ((b, CO.dl ds) :: cs) := noTup.cons_dl hN
    refine ⟨fun σ' H' => ∃ (q : Addr), σ' = [some v, some (.ref b), some (.int c), some (.ref h), none, some (.ref p), some (.ref q), none, none, none, none, none, none, none] ∧
      Wd K H' ((.ref q, .list (aheadD (Hd R))) :: (.ref h, .list (held.map toD)) :: L) (radC D.C_Radio p dx d R ++ ((b, .dl ds) :: cs)), ?_, ?_⟩
    · refine ⟨szl rfl, fun tp htp => ?_⟩
      have W := W.newT htp (xs := [V.str "a", V.str "b", V.str "redone"]) (ds := names3.map .str) (by walk_at "ha")
      exact w_reads T (k := 0) (A := A) W Sub.left (noTup_rad hN2) hR (by decide) .hd fun q H W => ⟨q, rfl, W.frz.sub fun z hz => by
        rcases List.mem_cons.mp hz with rfl | hz
        · simp
        · simp [hz]⟩
    rintro σ' H' ⟨q, rfl, W⟩
    have hTx : ∀ w n t, Hd R w n t → Tx t := fun w n t ht => by
      have := okRow_txt (hrow _ ((hh w n t).mp ht).1)
      exact ⟨this.1, this.2.1⟩
    obtain ⟨s1, s2, s3, s4⟩ := ahead_ok hTx
    refine ⟨_, rfl, q, _, rfl, W.now .hd, s1, s2, s3, s4, ?_⟩
    refine ⟨fun σ' H' => ∃ (R1 : List Ent) (x7 x9 x10 : Option V), σ' = [some v, some (.ref b), some (.int c), some (.ref h), none, some (.ref p), some (.ref q), x7, some (.str (PyData.list (aheadD (Hd R))).shown), x9, x10, none, none, none] ∧ wfR 80 R1 ∧ (∀ w n t, Hd R1 w n t ↔ (⟨w, n, t⟩ : MRow) ∈ rows) ∧
      Wd K H' ((.ref q, .list (aheadD (Hd R))) :: (.ref h, .list (held.map toD)) :: L) (radC D.C_Radio p dx d R1 ++ ((b, .dl ds) :: cs)), ?_, ?_⟩
    · refine ⟨_, rfl, w_forL rfl (ds := held.map toD) (fun i σ L' cs' => ∃ (R1 : List Ent) (x7 x9 x10 : Option V), L' = (.ref q, .list (aheadD (Hd R))) :: (.ref h, .list (held.map toD)) :: L ∧ cs' = radC D.C_Radio p dx d R1 ++ ((b, .dl ds) :: cs) ∧ σ = [some v, some (.ref b), some (.int c), some (.ref h), none, some (.ref p), some (.ref q), x7, some (.str (PyData.list (aheadD (Hd R))).shown), x9, x10, none, none, none] ∧ wfR (40 + i) R1 ∧ (∀ w n t, Hd R1 w n t ↔ Hd R w n t ∨ (⟨w, n, t⟩ : MRow) ∈ held.take i)) W
        ⟨R, none, none, none, rfl, rfl, rfl, hR, fun w n t => by simp⟩ (fun i σ L' cs' hs => by
          obtain ⟨R1, x7, x9, x10, rfl, rfl, _⟩ := hs
          exact .of (Has.hd.tl)) (fun i v1 d1 σ L' cs' H hi hs W => ?_) (fun σ L' cs' H hs W => ?_)⟩
      · obtain ⟨R1, x7, x9, x10, rfl, rfl, rfl, hR1, hh1⟩ := hs
        obtain ⟨r, hr1, rfl⟩ := toD_at hi
        obtain ⟨u, rfl, hu⟩ := w_tup3 W .hd (x1 := .str r.a) (x2 := .int r.b) (x3 := .str r.c) rfl rfl rfl
        walk_at "ds"
        have hi : i < held.length := (List.getElem?_eq_some_iff.mp hr1).1
        have hm : r ∈ held := List.mem_of_getElem? hr1
        have hrk := hrow r (hheld r hm)
        refine ⟨u, _, rfl, hu, rfl, _, _, rfl, _, _, rfl, _, _, rfl, rfl, ?_⟩
        refine ⟨_, rfl, p, dx, _, rfl, W.at List.mem_cons_self, rfl, _, rfl, _, rfl, _, rfl, _, _, p, dx, d, R1, 40 + i, r.a, r.b, r.c, rfl, W.tl, hR1, by omega, ⟨hrk.2.1, hrk.2.2.1⟩, fun u H R2 hR2 W => ?_⟩
        refine ⟨_, _, ⟨R2, _, _, _, rfl, rfl, rfl, hR2.wf, fun w n t => ?_⟩, W⟩
        rw [hR2.hd w n t, hh1 w n t, take_succ1 hr1, List.mem_append, List.mem_singleton, or_assoc]
        refine or_congr Iff.rfl (or_congr Iff.rfl ⟨fun ⟨h1, h2, h3⟩ => by rw [h1, h2, h3], fun h => by rw [← h]; exact ⟨rfl, rfl, rfl⟩⟩)
      · obtain ⟨R1, x7, x9, x10, rfl, rfl, rfl, hR1, hh1⟩ := hs
        rw [List.length_map] at hR1 hh1
        rw [List.take_length] at hh1
        refine ⟨R1, x7, x9, x10, rfl, hR1.mono (by omega), fun w n t => ?_, W⟩
        rw [hh1, hh]
        refine ⟨fun z => z.elim (·.1) (hheld _), fun z => ?_⟩
        by_cases y : (⟨w, n, t⟩ : MRow) ∈ held
        · exact .inr y
        · exact .inl ⟨z, y⟩
    rintro σ' H' ⟨R1, x7, x9, x10, rfl, hR1, hh1, W⟩
    refine ⟨fun σ' H' => ∃ (q2 : Addr), σ' = [some v, some (.ref b), some (.int c), some (.ref h), none, some (.ref p), some (.ref q), x7, some (.str (PyData.list (aheadD (Hd R))).shown), x9, x10, some (.ref q2), none, none] ∧
      Wd K H' ((.ref q2, .list (aheadD (Hd R1))) :: (.ref q, .list (aheadD (Hd R))) :: (.ref h, .list (held.map toD)) :: L) (radC D.C_Radio p dx d R1 ++ ((b, .dl ds) :: cs)), ?_, ?_⟩
    · refine ⟨szl rfl, fun tp htp => ?_⟩
      have W := W.newT htp (xs := [V.str "a", V.str "b", V.str "redone"]) (ds := names3.map .str) (by walk_at "ha")
      exact w_reads T (k := 0) (A := A) W Sub.left (noTup_rad hN2) hR1 (by decide) .hd fun q H W => ⟨q, rfl, W.frz.sub fun z hz => by
        rcases List.mem_cons.mp hz with rfl | hz
        · simp
        · simp [hz]⟩
    rintro σ' H' ⟨q2, rfl, W⟩
    refine ⟨_, rfl, q, _, rfl, W.now (Has.hd.tl), s1, s2, s3, s4, ?_⟩
    refine ⟨_, rfl, rfl, _, rfl, ?_⟩
    refine ite2 (fun hc => absurd hc (by simp)) (fun _ => ?_)
    refine ⟨_, rfl, _, rfl, _, _, _, rows, rfl, W, ((Rdb.of hv).tl.tl.tl), by omega, fun r hr => ⟨(hrow r hr).2.1, (hrow r hr).2.2.1⟩, fun H p2 dx2 d2 R2 hR2 hh2 W => ?_⟩
    refine ⟨_, _, p, dx, d, p2, dx2, d2, R1, R2, 80, rfl, W, Sub.right Sub.left, Sub.left, noTup_rad (noTup_rad hN2), hR1, hR2.mono (by omega), by decide, fun w n t => (hh1 w n t).trans (hh2 w n t).symm, fun H W => ?_⟩
    refine ⟨true, rfl, ite2 (fun z => absurd z (by simp)) (fun _ => ?_)⟩
    have Wk : Wd K H L ((b, .dl ds) :: cs) := (W.tl.tl.tl).drop ((List.sublist_append_right _ _).trans (List.sublist_append_right _ _))
    refine ⟨_, rfl, rfl, _, rfl, ite2 (fun _ => k _ ds hb Wk) (fun hc1 => ?_)⟩
    have hc0 : c = 0 := by
      rcases hc with h | h
      · exact h
      · exact absurd (by rw [h]; exact decide_eq_true rfl) hc1
    subst hc0
    have one : ∀ w n t, Hd R1 w n t → t = msgT n 0 := fun w n t ht => by
      obtain ⟨_, _, _, h | ⟨h, _⟩⟩ := hrow _ ((hh1 w n t).mp ht)
      · exact h
      · cases h
    have up : ∀ w n t, sto (Hd R) w n = some t → sto (Hd R1) w n = some t := fun w n t ht => by
      have h1 : Hd R1 w n t := (hh1 w n t).mpr ((hh w n t).mp (of_sto ht).1).1
      exact sto_some ⟨h1, fun t' h' => (one w n t' h').trans (one w n t h1).symm⟩
    obtain ⟨_, xs, e1, hx1, _, _⟩ := W.items (.of (Has.hd.tl))
    cases e1
    obtain ⟨_, ys, e1, hy1, _, _⟩ := W.items (.of (Has.hd))
    cases e1
    refine ⟨_, rfl, _, rfl, q, q2, xs, ys, rfl, hx1, hy1, ?_⟩
    refine w_lcZ (fun i acc cs' => cs' = radC D.C_Radio p2 dx2 d2 R2 ++ (radC D.C_Radio p dx d R1 ++ (b, CO.dl ds) :: cs) ∧ acc = (aheadD (Hd R)).take i) W ⟨rfl, rfl⟩ (fun _ _ _ _ => .of (Has.hd.tl)) (fun _ _ _ _ => .of Has.hd) rfl (fun D' i u d1 d2' acc cs' H h1 h2 hs W => ?_) (fun D' acc cs' H hs W => ?_)
    · obtain ⟨rfl, rfl⟩ := hs
      obtain ⟨nm, hn1, rfl⟩ : ∃ nm, names3[i]? = some nm ∧ d1 = .list ((rdP (Hd R) nm).map .str) := by
        unfold aheadD at h1
        rw [List.getElem?_map] at h1
        cases hq : names3[i]? with
        | none => rw [hq] at h1; cases h1
        | some a => rw [hq] at h1; cases h1; exact ⟨a, rfl, rfl⟩
      obtain rfl : d2' = .list ((rdP (Hd R1) nm).map .str) := by
        unfold aheadD at h2
        rw [List.getElem?_map, hn1] at h2
        cases h2
        rfl
      obtain ⟨pp, x, y, e2, hpp, W⟩ := w_pair W .hd
      walk_at "ds"
      cases e2
      refine ⟨_, _, rfl, hpp, rfl, _, _, rfl, _, _, rfl, rfl, rfl, iteT ⟨_, rfl, _, rfl, w_len W (.of .hd) ⟨_, rfl, ?_⟩⟩⟩
      refine w_slL W (.of (Has.hd.tl)) fun l H W => ?_
      refine w_el W.frz (fun p hp => List.mem_cons_of_mem _ (List.mem_cons_of_mem _ (List.mem_cons_of_mem _ (List.mem_cons_of_mem _ hp)))) .hd ?_ ⟨rfl, ?_⟩
      · exact Nat.lt_of_le_of_lt (List.length_take_le' _ _) (by simp [aheadD])
      · rw [take_succ1 h1, cutD_to, List.length_map, ← List.map_take, rdF_pre (fun k t => up nm k t)]
    · obtain ⟨rfl, rfl⟩ := hs
      rw [List.take_length] at W
      refine ⟨_, rfl, PyData.list (aheadD (Hd R)), PyData.list (aheadD (Hd R)), W.rd .c0, W.rd (.of (Has.hd.tl)), s3, ?_⟩
      rw [SeqAt.eqv_refl_plain _ (dp_plain _ _ (W.rd .c0))]
      exact k _ ds hb ((W.tl.tl.tl).drop (((List.sublist_append_right _ _).trans (List.sublist_append_right _ _)).cons _))
end
end My

namespace My
open PySem L2 Wb
local macro_rules | `(tactic| walk_at "has") => `(tactic| first | exact Wb.Has.int | exact Wb.Has.str | exact Wb.Has.bl | exact Wb.Has.non | exact Wb.Has.hd | assumption | (apply Wb.Has.tl; walk_at "has"))
local macro_rules | `(tactic| walk_at "ha") => `(tactic| first | exact Wb.HasA.nil | (refine Wb.HasA.cons ?_ ?_; (walk_at "has"); (walk_at "ha")))
local macro_rules | `(tactic| walk_at "ds") => `(tactic| dsimp only [cxOf, Cx.nox, Cx.wish, tVar, tC, tOp, tUn, tCons, tNil, tCall, tMeth, tMake, tCB, tAsg, gName, gSub, gTup, gCons, gNil, tPar, tAug, tRet, tRetN, tSeq, tNext, tIfS, tB, tTest, tAnd, tOr, tNot, tNotV, tAndV, tOrV, tIf, tDrop, tBM, tBM0, tTup, tLst, tFld, tM0, tM1, tDGet2, tDGet, tDIn, tDNotIn, tDNewT, tIfS, tDGet1, tDSetdT, tFor_e, tLc_e, tWhile, tYes, iList_e, iTup_e, iKeys, tLockE, tCKw, iZip, iRng1, iRng2, tSl, tPart, tNoPart, tTup, tLst, tIsN, tNotN, sFld, tCut, List.append_nil, List.nil_append, List.cons_append, tDrop, tCmp, t2I])


def spec_law (K : PySem.W.Frag) : Sp := fun vs H Q _ => ∃ (a : Addr) (ns : List Int), vs = [.ref a] ∧ SqL K H a (ns.map .int) ∧ ns.length ≤ 63 ∧ ∀ H', Q (.bl true) H'
section
variable {P : Program} {w : World} {K : PySem.W.Frag} {mg : Str → Option Value} {D : Ad} {base : Heap}

theorem w_radno (T : Txt K mg D) {g : Bool → Bool} {H : Hp} {L : Lk} {cs : Cs} {p dx d : Addr} {R : List Ent} {n : Nat} {Q : VK} {y : V} {nm : String} (W : Wd K H L cs) (hS : Sub (radC D.C_Radio p dx d R) cs) (hN : noTup cs) (hR : wfR n R) (hn : n ≤ 1000)
    (ty : TyX K H y (.type nm)) (hk : PySem.W.subIn K (.type nm) (.ref D.C_Radio) = some false) (k : ∀ H', Wd K H' L cs → Q (.bl (g false)) H') : rOwnCmp K D.C_Radio (spEq K D.C_Radio) E0 g (.ref p) y H Q :=
  ⟨p, dx, _, .type nm, rfl, W.at (hS _ List.mem_cons_self), ty, nf_sub hk, L, cs, p, dx, d, R, n, W, hS, hN, hR, hn, .inr ⟨y, .type nm, rfl, ty, kit_no T.kc T.kt hk, fun H' W => ⟨false, rfl, k H' W⟩⟩⟩
theorem noTup.cons_lst {cs : Cs} {l : Addr} {xs : List V} (h : noTup cs) : noTup ((l, .raw (.lst xs)) :: cs) := fun c hc ys => by
  rcases List.mem_cons.mp hc with rfl | hc
  · intro z; cases z
  · exact h c hc ys
theorem wfR_nil (n : Nat) : wfR n [] := ⟨List.nodup_nil, Nat.zero_le _, (fun e h => by cases h), (fun e h => by cases h)⟩
theorem hd_nil {w : Str} {m : Int} {t : Str} : ¬ Hd [] w m t := fun ⟨e, h, _⟩ => by cases h
theorem ok_law (T : Txt K mg D) : FnOkG P w K mg base CX0 7 D.f_law D.fd_law ["_law_script"] (spec_law K) := by
  refine okG T.F_law sc_law (fun vs H Q E h => ?_) (fun cdv A outer s H vs Q E hgd hr h => ?_)
  · obtain ⟨a, ns, rfl, _⟩ := h
    rfl
  · obtain ⟨a, ns, rfl, hS, hl, k⟩ := h
    refine ⟨_, (pss_cons (ps_set (i := 1) sc_law.nd rfl (by first | exact .inl rfl | exact .inr rfl) (pe_call (ok__law_bag T) (hr.mono (by decide)) rfl T.m__law_bag T.F__law_bag.kp (b__law_bag T) .nil pass0 (pa_cons (pv 0) (pa_cons pe_int pa_nil))))
    (pss_cut (ps_set (i := 2) sc_law.nd rfl (by first | exact .inl rfl | exact .inr rfl) (pe_callTy cr_intB rfl T.n_int B_int (pa_cons (pe_cmpR op_eq (pe_call (ok__law_take T) (hr.mono (by decide)) rfl T.m__law_take T.F__law_take.kp (b__law_take T) .nil pass0 (pa_cons (pv 1) (pa_cons pe_int pa_nil))) pe_int (nomark _)) pa_nil)))
    (pss_cut (ps_set (i := 3) sc_law.nd rfl (by first | exact .inl rfl | exact .inr rfl) (pe_lc (own := [("_law_k", 4)]) (tt := tYes) rfl sc_law.nd (pi_range1 rfl T.n_range (pa_cons (pe_callB (cr_max2 hr) rfl T.n_max B_max (pa_cons pe_int (pa_cons (pe_callB (cr_min2 hr) rfl T.n_min B_min (pa_cons pe_int (pa_cons (pe_op op_sub (pe_callB cr_len rfl T.n_len B_len (pa_cons (pv 0) pa_nil)) pe_int) pa_nil))) pa_nil))) pa_nil)) (blkOk_by (N := ["_law_script", "_law_bag_here", "_law_clashes", "_law_rows", "_law_k", "_law_radio", "_law_other", "_law_more", "_law_fewer", "_law_row", "_law_unlike", "_law_thing"]) (sc := (defScope s_law)) (by decide +kernel)) (fun _ _ _ _ _ => (pg_name (i := 4) sc_law.nd rfl (by first | exact .inl rfl | exact .inr rfl))) (fun _ _ _ _ _ => pts_nil) (fun _ _ _ _ _ => (pe_call (ok__law_message T) (hr.mono (by decide)) rfl T.m__law_message T.F__law_message.kp (b__law_message T) .nil pass0 (pa_cons (pe_call (ok__law_bag T) (hr.mono (by decide)) rfl T.m__law_bag T.F__law_bag.kp (b__law_bag T) .nil pass0 (pa_cons (pv 0) (pa_cons (pe_op op_add pe_int (pv 4)) pa_nil))) (pa_cons (pv 2) pa_nil))))))
    (pss_cons (ps_set (i := 5) sc_law.nd rfl (by first | exact .inl rfl | exact .inr rfl) (pe_call (ok__law_heard T) (hr.mono (by decide)) rfl T.m__law_heard T.F__law_heard.kp (b__law_heard T) .nil pass0 (pa_cons (pv 3) pa_nil)))
    (pss_cons (ps_set (i := 6) sc_law.nd rfl (by first | exact .inl rfl | exact .inr rfl) (pe_call (ok__law_heard T) (hr.mono (by decide)) rfl T.m__law_heard T.F__law_heard.kp (b__law_heard T) .nil pass0 (pa_cons (pe_call (ok__law_mixed T) (hr.mono (by decide)) rfl T.m__law_mixed T.F__law_mixed.kp (b__law_mixed T) .nil pass0 (pa_cons (pv 1) (pa_cons (pv 3) pa_nil))) pa_nil)))
    (pss_cut (ps_if (PW.pt (pw_or (pt_cmpR (op_neP (hu64 hr)) (pe_call (ok__law_told T) (hr.mono (by decide)) rfl T.m__law_told T.F__law_told.kp (b__law_told T) .nil pass0 (pa_cons (pv 5) pa_nil)) (pe_call (ok__law_told T) (hr.mono (by decide)) rfl T.m__law_told T.F__law_told.kp (b__law_told T) .nil pass0 (pa_cons (pv 6) pa_nil)) (nomark _)) (pw_or (pt_not (pt_val (pe_call (ok__law_alike T) (hr.mono (by decide)) rfl T.m__law_alike T.F__law_alike.kp (b__law_alike T) .nil pass0 (pa_cons (pv 5) (pa_cons (pv 6) pa_nil))))) (pw_or1 (pt_not (pt_val (pe_call (ok__law_alike T) (hr.mono (by decide)) rfl T.m__law_alike T.F__law_alike.kp (b__law_alike T) .nil pass0 (pa_cons (pv 5) (pa_cons (pv 5) pa_nil))))))))) (pss_one (ps_ret pe_bl))
      pss_nil)
    (pss_cut (ps_if (pt_not (pt_val (pe_callG (ok__law_late T) hgd (hr.mono (by decide)) rfl T.m__law_late T.F__law_late.kp (b__law_late T) pass0 (pa_cons (pv 3) (pa_cons (pv 1) (pa_cons (pv 2) pa_nil)))))) (pss_one (ps_ret pe_bl))
      pss_nil)
    (pss_cons (ps_set (i := 7) sc_law.nd rfl (by first | exact .inl rfl | exact .inr rfl) (pe_tup (pa_cons pe_str (pa_cons (pe_op op_add pe_int (pe_call (ok__law_take T) (hr.mono (by decide)) rfl T.m__law_take T.F__law_take.kp (b__law_take T) .nil pass0 (pa_cons (pv 1) (pa_cons pe_int pa_nil)))) (pa_cons pe_str pa_nil)))))
    (pss_cut (ps_setLc (i := 8) (own := [("_law_row", 9)]) rfl sc_law.nd rfl rfl (sw_true rfl rfl rfl (by decide +kernel)) (pi_list (pv 3)) (blkOk_by (N := ["_law_script", "_law_bag_here", "_law_clashes", "_law_rows", "_law_k", "_law_radio", "_law_other", "_law_more", "_law_fewer", "_law_row", "_law_unlike", "_law_thing"]) (sc := (defScope s_law)) (by decide +kernel)) (fun _ _ _ _ _ => (pg_name (i := 9) sc_law.nd rfl (by first | exact .inl rfl | exact .inr rfl))) (fun _ _ _ _ _ => (pts_one (pt_cmpR (neP_K (K := K) rfl (hu64 hr)) (pv 9) (pe_ix (ixL_K (K := K) rfl) (pv 3) pe_int (fun _ _ => rfl)) (nomark _)))) (fun _ _ _ _ _ => (pv 9)))
    (pss_cut (ps_for PassesOwn.never rfl (pi_list (pe_lst (pa_cons (pe_call (ok__law_heard T) (hr.mono (by decide)) rfl T.m__law_heard T.F__law_heard.kp (b__law_heard T) .nil pass0 (pa_cons (pe_op op_catD (pv 3) (pe_lst (pa_cons (pv 7) pa_nil))) pa_nil)) (pa_cons (pe_call (ok__law_heard T) (hr.mono (by decide)) rfl T.m__law_heard T.F__law_heard.kp (b__law_heard T) .nil pass0 (pa_cons (pv 8) pa_nil)) (pa_cons (pe_make0 T.mk_Radio (ok_Radio___init__ T) (hr.mono (by decide)) rfl T.mg_Radio (b_Radio___init__ T) .nil pass0) pa_nil))))) (pg_name (i := 10) sc_law.nd rfl (by first | exact .inl rfl | exact .inr rfl)) (pss_one (ps_if (PW.pt (pw_or (pt_cmpR (op_eq_own (ok_Radio___eq__ T) (hr.mono (by decide)) T.me_Radio___eq__.1 T.me_Radio___eq__.2 (b_Radio___eq__ T) pass0) (pv 5) (pv 10) (nomark _)) (pw_or (pt_cmpR (op_eq_own (ok_Radio___eq__ T) (hr.mono (by decide)) T.me_Radio___eq__.1 T.me_Radio___eq__.2 (b_Radio___eq__ T) pass0) (pv 10) (pv 5) (nomark _)) (pw_or1 (pt_not (pt_cmpR (op_ne_own (ok_Radio___eq__ T) (hr.mono (by decide)) T.me_Radio___eq__.1 T.en_Radio T.em_Radio T.me_Radio___eq__.2 (b_Radio___eq__ T) pass0) (pv 5) (pv 10) (nomark _))))))) (pss_one (ps_ret pe_bl))
          pss_nil)))
    (pss_one (ps_ret (pe_and (pe_cmpR (op_eqP (hu64 hr)) (pe_lc (own := [("_law_thing", 11)]) rfl sc_law.nd (pi_list (pe_lst (pa_cons pe_non (pa_cons pe_int (pa_cons pe_str (pa_cons (pv 3) (pa_cons (pe_lst (pa_cons (pv 5) pa_nil)) pa_nil))))))) (blkOk_by (N := ["_law_script", "_law_bag_here", "_law_clashes", "_law_rows", "_law_k", "_law_radio", "_law_other", "_law_more", "_law_fewer", "_law_row", "_law_unlike", "_law_thing"]) (sc := (defScope s_law)) (by decide +kernel)) (fun _ _ _ _ _ => (pg_name (i := 11) sc_law.nd rfl (by first | exact .inl rfl | exact .inr rfl))) (fun _ _ _ _ _ => (pts_one (pt_cmpR (op_eq_own_K (K := K) rfl (ok_Radio___eq__ T) (hr.mono (by decide)) T.me_Radio___eq__.1 T.me_Radio___eq__.2 (b_Radio___eq__ T) pass0) (pv 5) (pv 11) (nomark _)))) (fun _ _ _ _ _ => (pv 11))) (pe_lst pa_nil) (nomark _)) (pe_one (pe_cmpR (op_eq_own (ok_Radio___eq__ T) (hr.mono (by decide)) T.me_Radio___eq__.1 T.me_Radio___eq__.2 (b_Radio___eq__ T) pass0) (pe_make0 T.mk_Radio (ok_Radio___init__ T) (hr.mono (by decide)) rfl T.mg_Radio (b_Radio___init__ T) .nil pass0) (pe_make0 T.mk_Radio (ok_Radio___init__ T) (hr.mono (by decide)) rfl T.mg_Radio (b_Radio___init__ T) .nil pass0) (nomark _)))))))))))))))), ?_⟩
    walk_at "ds"
    have W0 : Wd K H [(.ref a, .list (ns.map .int))] [] := Wd.start (fun p hp => by rw [List.mem_singleton.mp hp]; exact .lst hS da_ints)
    refine ⟨_, rfl, _, [], .ref a, ns, 0, rfl, W0, .hd, hl, by decide, by decide, fun H b ds hb W => ?_⟩
    refine ⟨fun σ' H' => ∃ (ds' : List PyData) (c : Int), σ' = [some (.ref a), some (.ref b), some (.int c), none, none, none, none, none, none, none, none, none] ∧ Bag ds' ∧ (c = 0 ∨ c = 1) ∧ Wd K H' [(.ref a, .list (ns.map .int))] [(b, .dl ds')], ?_, ?_⟩
    · refine ⟨_, rfl, _, [], b, ds, 3, rfl, W, hb, by decide, by decide, fun H e ds e0 e1 hb W => ⟨rfl, _, rfl, ds, _, rfl, hb, ?_, W⟩⟩
      split
      · exact .inr rfl
      · exact .inl rfl
    rintro σ' H' ⟨ds, c, rfl, hb, hc, W⟩
    refine ⟨fun σ' H' => ∃ (r : Addr) (rows : List MRow), σ' = [some (.ref a), some (.ref b), some (.int c), some (.ref r), none, none, none, none, none, none, none, none] ∧ (∀ x ∈ rows, okRow c x) ∧ 12 ≤ rows.length ∧ rows.length ≤ 40 ∧
      Wd K H' ((.ref r, .list (rows.map toD)) :: [(.ref a, .list (ns.map .int))]) [(b, .dl ds)], ?_, ?_⟩
    · refine ⟨_, rfl, w_len W (.of .hd) ⟨_, _, rfl, rfl, _, _, rfl, _, _, rfl, _, rfl, ?_, ?_, ?_⟩⟩
      · split <;> split <;> omega
      · split <;> split <;> omega
      rw [List.length_map]
      generalize hj : (if (if ((ns.length : Nat) : Int) - 1 < 40 then ((ns.length : Nat) : Int) - 1 else 40) > 12 then (if ((ns.length : Nat) : Int) - 1 < 40 then ((ns.length : Nat) : Int) - 1 else 40) else 12) = j
      have hj2 : 12 ≤ j ∧ j ≤ 40 := by rw [← hj]; split <;> split <;> omega
      refine w_lcR (fun i acc cs' => ∃ rows : List MRow, cs' = [(b, .dl ds)] ∧ acc = rows.map toD ∧ rows.length = i ∧ ∀ x ∈ rows, okRow c x) W ⟨[], rfl, rfl, rfl, (fun x h => by cases h)⟩ (fun D' i acc cs' H hi hs W => ?_) (fun D' acc cs' H hs W => ?_)
      · obtain ⟨rows, rfl, rfl, hlr, hok⟩ := hs
        walk_at "ds"
        refine ⟨rfl, iteT ⟨_, rfl, _, rfl, _, _, rfl, rfl, _, _, .ref a, ns, _, rfl, W, .hd, hl, by omega, by omega, fun H bb ds2 hb2 W => ?_⟩⟩
        refine ⟨_, rfl, _, _, bb, ds2, c, rfl, W, hb2, hc, fun H v ds3 x hb3 hx W => ?_⟩
        refine w_el W.drop1 (fun p hp => List.mem_cons_of_mem _ hp) .hd (by rw [List.length_map]; omega) ⟨rows ++ [x], rfl, by rw [List.map_append]; rfl, by rw [List.length_append, hlr]; rfl, fun y hy => ?_⟩
        rcases List.mem_append.mp hy with hy | hy
        · exact hok y hy
        · rw [List.mem_singleton.mp hy]; exact hx
      · obtain ⟨rows, rfl, rfl, hlr, hok⟩ := hs
        exact ⟨D', rows, rfl, hok, by omega, by omega, W.frz⟩
    rintro σ' H' ⟨r, rows, rfl, hok, l12, l40, W⟩
    refine ⟨_, rfl, _, _, .ref r, rows, rfl, W, .of .hd, by omega, fun x hx => ⟨(hok x hx).2.1, (hok x hx).2.2.1⟩, fun H p1 dx1 d1 R1 hR1 hh1 W => ?_⟩
    have hR1 : wfR 60 R1 := hR1.mono (by omega)
    refine ⟨_, rfl, _, rfl, _, radC D.C_Radio p1 dx1 d1 R1, b, ds, .ref r, rows, rfl, W.perm List.perm_append_comm, hb, .hd, by omega, l40, fun H l ds out hb hout lo W => ?_⟩
    refine ⟨_, _, .ref l, out, rfl, W, .c0, by omega, fun x hx => ⟨(hok x ((hout x).mp hx)).2.1, (hok x ((hout x).mp hx)).2.2.1⟩, fun H p2 dx2 d2 R2 hR2 hh2 W => ?_⟩
    have hR2 : wfR 60 R2 := hR2.mono lo
    have hh2 : ∀ w n t, Hd R2 w n t ↔ (⟨w, n, t⟩ : MRow) ∈ rows := fun w n t => (hh2 w n t).trans (hout _)
    have W : Wd K H ((.ref r, .list (rows.map toD)) :: [(.ref a, .list (ns.map .int))]) (radC D.C_Radio p2 dx2 d2 R2 ++ ((b, .dl ds) :: radC D.C_Radio p1 dx1 d1 R1)) := W.drop (List.Sublist.append_left (List.sublist_cons_self _ _) _)
    have hN1 : noTup (radC D.C_Radio p1 dx1 d1 R1) := by
      have := noTup_rad (C := D.C_Radio) (p := p1) (dx := dx1) (d := d1) (R := R1) (cs := []) (fun c h => by cases h)
      rwa [List.append_nil] at this
    have hN2 : noTup (radC D.C_Radio p2 dx2 d2 R2 ++ ((b, CO.dl ds) :: radC D.C_Radio p1 dx1 d1 R1)) := noTup_rad (noTup.cons_dl hN1)
    have hS1 : Sub (radC D.C_Radio p1 dx1 d1 R1) (radC D.C_Radio p2 dx2 d2 R2 ++ ((b, CO.dl ds) :: radC D.C_Radio p1 dx1 d1 R1)) := Sub.right (fun x hx => List.mem_cons_of_mem _ hx)
    have hS2 : Sub (radC D.C_Radio p2 dx2 d2 R2) (radC D.C_Radio p2 dx2 d2 R2 ++ ((b, CO.dl ds) :: radC D.C_Radio p1 dx1 d1 R1)) := Sub.left
    have same : ∀ w n t, Hd R1 w n t ↔ Hd R2 w n t := fun w n t => (hh1 w n t).trans (hh2 w n t).symm
    refine ⟨fun σ' H' => σ' = [some (.ref a), some (.ref b), some (.int c), some (.ref r), none, some (.ref p1), some (.ref p2), none, none, none, none, none] ∧ Wd K H' ((.ref r, .list (rows.map toD)) :: [(.ref a, .list (ns.map .int))]) (radC D.C_Radio p2 dx2 d2 R2 ++ ((b, .dl ds) :: radC D.C_Radio p1 dx1 d1 R1)), ?_, ?_⟩
    · refine ⟨_, rfl, _, _, p1, dx1, d1, R1, 60, rfl, W, hS1, hN2, hR1, by decide, fun H l1 W => ?_⟩
      refine ⟨_, rfl, _, _, p2, dx2, d2, R2, 60, rfl, W, hS2.cons, noTup.cons_dl hN2, hR2, by decide, fun H l2 W => ?_⟩
      refine ⟨PyData.list (toldP (Hd R1)), PyData.list (toldP (Hd R2)), W.rd (.cell (by simp)), W.rd .c0, ?_, ?_⟩
      · have di : ∀ l : List Int, PyData.depthAll (l.map .int) = 0 := fun l => by
          induction l with
          | nil => simp [PyData.depthAll]
          | cons a r ih => simp [PyData.depthAll, PyData.depth, ih]
        simp [toldP, rowP, PyData.depth, PyData.depthAll, dep_strs, di]
      · rw [← pr_eq same, SeqAt.eqv_refl_plain _ (dp_plain _ _ (W.rd (Rdb.cell (a := l1) (ds := toldP (Hd R1)) (by simp))))]
        refine ⟨_, rfl, ite2 (fun z => absurd z (by simp)) (fun _ => ?_)⟩
        have W := W.drop1.drop1
        refine ⟨_, rfl, _, rfl, _, _, p1, dx1, d1, p2, dx2, d2, R1, R2, 60, rfl, W, hS1, hS2, hN2, hR1, hR2, by decide, same, fun H W => ?_⟩
        refine ⟨true, rfl, ite2 (fun z => absurd z (by simp)) (fun _ => ?_)⟩
        refine ⟨_, rfl, _, rfl, _, _, p1, dx1, d1, p1, dx1, d1, R1, R1, 60, rfl, W, hS1, hS1, hN2, hR1, hR1, by decide, fun _ _ _ => Iff.rfl, fun H W => ?_⟩
        refine ⟨true, rfl, ite2 (fun z => absurd z (by simp)) (fun _ => ⟨rfl, W⟩)⟩
    rintro σ' H' ⟨rfl, W⟩
    refine ⟨fun σ' H' => ∃ ds', Bag ds' ∧ σ' = [some (.ref a), some (.ref b), some (.int c), some (.ref r), none, some (.ref p1), some (.ref p2), none, none, none, none, none] ∧ Wd K H' ((.ref r, .list (rows.map toD)) :: [(.ref a, .list (ns.map .int))]) ((b, .dl ds') :: (radC D.C_Radio p2 dx2 d2 R2 ++ radC D.C_Radio p1 dx1 d1 R1)), ?_, ?_⟩
    · refine ⟨_, rfl, _, rfl, _, rfl, _, _, .ref r, b, ds, c, rows, rfl, W.perm List.perm_middle, hb, .hd, hc, hok, l40, noTup_rad hN1, fun H ds' hb W => ?_⟩
      exact ⟨true, rfl, ite2 (fun z => absurd z (by simp)) (fun _ => ⟨ds', hb, rfl, W⟩)⟩
    rintro σ' H' ⟨ds, hb, rfl, W⟩
    refine ⟨_, rfl, _, _, b, ds, 14, rfl, W, hb, by decide, by decide, fun H n ds n0 n1 hb W => ⟨_, _, rfl, rfl, szl rfl, fun mr hmr => ?_⟩⟩
    have W : Wd K _ ((.ref mr, toD (⟨"a", 1 + n, "y"⟩ : MRow)) :: (.ref r, .list (rows.map toD)) :: [(.ref a, .list (ns.map .int))]) _ := W.newT hmr (xs := [V.str "a", V.int (1 + n), V.str "y"]) (ds := [.str "a", .int (1 + n), .str "y"]) (by walk_at "ha")
    generalize hu : (⟨"a", 1 + n, "y"⟩ : MRow) = u at W
    have hu1 : 1 ≤ u.b ∧ u.b ≤ 14 := by rw [← hu]; exact ⟨by show 1 ≤ 1 + n; omega, by show 1 + n ≤ 14; omega⟩
    have hu2 : ¬ u ∈ rows := fun h => (okRow_txt (hok u h)).2.2 (by rw [← hu])
    obtain ⟨r0, hr0⟩ : ∃ r0, rows[0]? = some r0 := ⟨rows[0]'(by omega), List.getElem?_eq_getElem _⟩
    have hm0 : r0 ∈ rows := List.mem_of_getElem? hr0
    have hS1 : Sub (radC D.C_Radio p1 dx1 d1 R1) ((b, CO.dl ds) :: (radC D.C_Radio p2 dx2 d2 R2 ++ radC D.C_Radio p1 dx1 d1 R1)) := fun x hx => List.mem_cons_of_mem _ (List.mem_append_right _ hx)
    have hNC : noTup ((b, CO.dl ds) :: (radC D.C_Radio p2 dx2 d2 R2 ++ radC D.C_Radio p1 dx1 d1 R1)) := noTup.cons_dl (noTup_rad hN1)
    generalize hCC : ((b, CO.dl ds) :: (radC D.C_Radio p2 dx2 d2 R2 ++ radC D.C_Radio p1 dx1 d1 R1)) = CC at W hS1 hNC
    refine ⟨fun σ' H' => ∃ (f : Addr), σ' = [some (.ref a), some (.ref b), some (.int c), some (.ref r), none, some (.ref p1), some (.ref p2), some (.ref mr), some (.ref f), none, none, none] ∧
      Wd K H' ((.ref f, .list ((rows.filter fun x => !decide (x = r0)).map toD)) :: (.ref mr, toD u) :: (.ref r, .list (rows.map toD)) :: [(.ref a, .list (ns.map .int))]) CC, ?_, ?_⟩
    · refine ⟨_, rfl, w_lcL rfl (ds := rows.map toD) (fun i acc cs' => cs' = CC ∧ acc = ((rows.take i).filter (fun x => !decide (x = r0))).map toD) W ⟨rfl, rfl⟩ (fun i acc cs' _ => .of (Has.hd.tl)) (fun D' i v d1 acc cs' H hi hs W => ?_) (fun D' acc cs' H hs W => ?_)⟩
      · obtain ⟨rfl, rfl⟩ := hs
        obtain ⟨x, hr1, rfl⟩ := toD_at hi
        walk_at "ds"
        refine ⟨rfl, _, rfl, _, rfl, w_ixL (d := toD r0) W (.of (Has.hd.tl.tl)) (by show atI (rows.map toD) ((0 : Nat) : Int) = _; exact atI_nat (by rw [List.getElem?_map, hr0]; rfl)) fun v0 W => ?_⟩
        refine w_neT (a := x) (b := r0) W (.of (Has.hd.tl)) (.of .hd) (by decide) ⟨_, rfl, ite2 (fun hc => ?_) (fun hc => ?_)⟩
        · refine ⟨_, rfl, w_el W (fun p hp => List.mem_cons_of_mem _ (List.mem_cons_of_mem _ hp)) (Has.hd.tl) ?_ ⟨rfl, ?_⟩⟩
          · rw [List.length_map]
            have h1 : ((rows.take i).filter (fun x => !decide (x = r0))).length ≤ (rows.take i).length := List.length_filter_le _ _
            have h2 : (rows.take i).length ≤ rows.length := List.length_take_le' _ _
            omega
          · rw [take_succ1 hr1, List.filter_append, List.filter_cons, if_pos hc, List.map_append]
            rfl
        · refine w_no W (fun p hp => List.mem_cons_of_mem _ (List.mem_cons_of_mem _ hp)) ⟨rfl, ?_⟩
          rw [take_succ1 hr1, List.filter_append, List.filter_cons, if_neg hc, List.filter_nil, List.append_nil]
      · obtain ⟨rfl, rfl⟩ := hs
        rw [List.length_map, List.take_length] at W
        exact ⟨D', rfl, W.frz⟩
    rintro σ' H' ⟨f, rfl, W⟩
    have hfew : ∀ x, x ∈ rows.filter (fun x => !decide (x = r0)) ↔ x ∈ rows ∧ x ≠ r0 := fun x => by simp
    have hfl : (rows.filter (fun x => !decide (x = r0))).length ≤ 40 := Nat.le_trans (List.length_filter_le _ _) l40
    refine ⟨fun σ' H' => ∃ x10, σ' = [some (.ref a), some (.ref b), some (.int c), some (.ref r), none, some (.ref p1), some (.ref p2), some (.ref mr), some (.ref f), none, x10, none] ∧
      Wd K H' ((.ref f, .list ((rows.filter fun x => !decide (x = r0)).map toD)) :: (.ref mr, toD u) :: (.ref r, .list (rows.map toD)) :: [(.ref a, .list (ns.map .int))]) CC, ?_, ?_⟩
    · refine ⟨_, rfl, _, rfl, szl rfl, fun ml hml => ?_⟩
      have W1 := W.newL hml (xs := [.ref mr]) (ds := [toD u]) (by walk_at "ha")
      refine w_cat W1 (.of (Has.hd.tl.tl)) .c0 (by rw [List.length_map, List.length_singleton]; omega) (fun l3 H W => ?_)
      have W := W.drop (cs' := (l3, _) :: CC) (((List.Sublist.refl _).cons _).cons₂ _)
      refine ⟨_, _, .ref l3, rows ++ [u], rfl, W, by rw [List.map_append]; exact .c0, by rw [List.length_append, List.length_singleton]; omega, fun x hx => ?_, fun H p3 dx3 d3 R3 hR3 hh3 W => ?_⟩
      · rcases List.mem_append.mp hx with hx | hx
        · exact ⟨(hok x hx).2.1, (hok x hx).2.2.1⟩
        · rw [List.mem_singleton.mp hx]; exact hu1
      have W := W.drop (cs' := radC D.C_Radio p3 dx3 d3 R3 ++ CC) (List.Sublist.append_left (List.sublist_cons_self _ _) _)
      refine ⟨_, rfl, _, _, .ref f, _, rfl, W, .of .hd, by omega, fun x hx => ⟨(hok x ((hfew x).mp hx).1).2.1, (hok x ((hfew x).mp hx).1).2.2.1⟩, fun H p4 dx4 d4 R4 hR4 hh4 W => ?_⟩
      refine fun p5 dx5 hp hdx hne => ⟨_, _, p5, dx5, rfl, (W.newR hdx).newR (by rw [upd_ne (Ne.symm hne)]; exact hp), fun H d5 W => ⟨rfl, szl rfl, fun q hq => ?_⟩⟩
      have W := W.newR hq (o := .lst [.ref p3, .ref p4, .ref p5])
      have hNQ := noTup.cons_lst (l := q) (xs := [.ref p3, .ref p4, .ref p5]) (noTup_rad (C := D.C_Radio) (p := p5) (dx := dx5) (d := d5) (R := []) (noTup_rad (C := D.C_Radio) (p := p4) (dx := dx4) (d := d4) (R := R4) (noTup_rad (C := D.C_Radio) (p := p3) (dx := dx3) (d := d3) (R := R3) hNC)))
      have hS1q := Sub.cons (c := (q, CO.raw (.lst [.ref p3, .ref p4, .ref p5]))) (Sub.right (b := radC D.C_Radio p5 dx5 d5 []) (Sub.right (b := radC D.C_Radio p4 dx4 d4 R4) (Sub.right (b := radC D.C_Radio p3 dx3 d3 R3) hS1)))
      have each : ∀ v, v ∈ [V.ref p3, V.ref p4, V.ref p5] → ∃ px dxx dd RR, v = .ref px ∧ Sub (radC D.C_Radio px dxx dd RR) ((q, CO.raw (.lst [.ref p3, .ref p4, .ref p5])) :: (radC D.C_Radio p5 dx5 d5 [] ++ (radC D.C_Radio p4 dx4 d4 R4 ++ (radC D.C_Radio p3 dx3 d3 R3 ++ CC)))) ∧ wfR 60 RR ∧ ¬ ∀ w n t, Hd R1 w n t ↔ Hd RR w n t := fun v hv => by
        simp only [List.mem_cons, List.not_mem_nil, or_false] at hv
        rcases hv with rfl | rfl | rfl
        · refine ⟨p3, dx3, d3, R3, rfl, Sub.cons (Sub.right (Sub.right Sub.left)), hR3.mono (by rw [List.length_append, List.length_singleton]; omega), fun h => hu2 ((hh1 u.a u.b u.c).mp ((h _ _ _).mpr ((hh3 _ _ _).mpr (by simp))))⟩
        · exact ⟨p4, dx4, d4, R4, rfl, Sub.cons (Sub.right Sub.left), hR4.mono (by omega), fun h => ((hfew r0).mp ((hh4 r0.a r0.b r0.c).mp ((h _ _ _).mp ((hh1 _ _ _).mpr hm0)))).2 rfl⟩
        · exact ⟨p5, dx5, d5, [], rfl, Sub.cons Sub.left, wfR_nil _, fun h => hd_nil ((h r0.a r0.b r0.c).mp ((hh1 _ _ _).mpr hm0))⟩
      refine ⟨q, rfl, ⟨_, SqL.of W.c0⟩, for_it walk_list (fun i σ H => ∃ x10, σ = [some (.ref a), some (.ref b), some (.int c), some (.ref r), none, some (.ref p1), some (.ref p2), some (.ref mr), some (.ref f), none, x10, none] ∧ Wd K H _ _) ⟨none, rfl, W⟩ (fun i σ H _ ⟨_, _, W⟩ => SqL.of W.c0) (fun i v σ H H' hi ⟨x10, e, W⟩ y => ?_) (fun σ H ⟨x10, e, W⟩ => ?_)⟩
      · obtain ⟨rfl, hv⟩ := y
        subst e
        obtain ⟨px, dxx, dd, RR, rfl, hSx, hRx, hne⟩ := each v (List.mem_of_getElem? hv)
        walk_at "ds"
        have bf : ∀ b : Bool, (b = true ↔ ∀ w n t, Hd R1 w n t ↔ Hd RR w n t) → b = false := fun b hb => by
          cases b with
          | false => rfl
          | true => exact absurd (hb.mp rfl) hne
        have bf' : ∀ b : Bool, (b = true ↔ ∀ w n t, Hd RR w n t ↔ Hd R1 w n t) → b = false := fun b hb => by
          cases b with
          | false => rfl
          | true => exact absurd (fun w n t => (hb.mp rfl w n t).symm) hne
        refine ⟨_, rfl, _, rfl, w_radcmp T W hS1q hSx hNQ hR1 hRx (by decide) fun H b hb W => ⟨_, rfl, ite2 (fun z => absurd z (by rw [bf b hb]; simp)) (fun _ => ?_)⟩⟩
        refine ⟨_, rfl, _, rfl, w_radcmp T W hSx hS1q hNQ hRx hR1 (by decide) fun H b hb W => ⟨_, rfl, ite2 (fun z => absurd z (by rw [bf' b hb]; simp)) (fun _ => ?_)⟩⟩
        refine ⟨_, rfl, _, rfl, w_radcmp T W hS1q hSx hNQ hR1 hRx (by decide) fun H b hb W => ⟨_, rfl, ite2 (fun z => absurd z (by rw [bf b hb]; simp)) (fun _ => ?_)⟩⟩
        exact ⟨_, rfl, W⟩
      · subst e
        exact ⟨x10, rfl, W.drop (((List.sublist_append_right _ _).trans ((List.sublist_append_right _ _).trans (List.sublist_append_right _ _))).cons _)⟩
    rintro σ' H' ⟨x10, rfl, W⟩
    refine ⟨_, rfl, _, rfl, szl rfl, fun lr hlr => ⟨szl rfl, fun lt hlt => ?_⟩⟩
    have W := (W.newR hlr (o := .lst [.ref p1])).newR hlt (o := .lst [.non, .int 0, .str (Str.ofString ""), .ref r, .ref lr])
    have hNT := noTup.cons_lst (l := lt) (xs := [.non, .int 0, .str (Str.ofString ""), .ref r, .ref lr]) (noTup.cons_lst (l := lr) (xs := [.ref p1]) hNC)
    have hS1t := Sub.cons (c := (lt, CO.raw (.lst [.non, .int 0, .str (Str.ofString ""), .ref r, .ref lr]))) (Sub.cons (c := (lr, CO.raw (.lst [.ref p1]))) hS1)
    refine ⟨lt, rfl, ⟨_, SqL.of W.c0⟩, fun D' hD => ?_⟩
    refine lc_it (walk_list (xs := [V.non, V.int 0, V.str (Str.ofString ""), V.ref r, V.ref lr])) (fun i H => LcNo K _ D' (fun acc cs' => acc = [] ∧ cs' = _) H) ⟨[], _, ⟨rfl, rfl⟩, W.newL hD .nil⟩ (fun i H _ ⟨_, _, ⟨e1, e2⟩, W⟩ => ?_) (fun i v H H' hi ⟨_, _, ⟨e1, e2⟩, W⟩ y => ?_) (fun H ⟨_, _, ⟨e1, e2⟩, W⟩ => ?_)
    · subst e1 e2
      exact SqL.of (W.at (by simp))
    · subst e1 e2
      obtain ⟨rfl, hv⟩ := y
      have ty : ∃ nm, PySem.W.subIn K (.type nm) (.ref D.C_Radio) = some false ∧ TyX K H' v (.type nm) := by
        have hv := List.mem_of_getElem? hv
        simp only [List.mem_cons, List.not_mem_nil, or_false] at hv
        rcases hv with rfl | rfl | rfl | rfl | rfl
        · exact ⟨_, T.sN, .base .non⟩
        · exact ⟨_, T.sI, .base (.int _)⟩
        · exact ⟨_, T.sS, .base (.str _)⟩
        · exact ⟨_, T.sL, w_tyList W (ds := rows.map toD) (.of (Has.hd.tl.tl))⟩
        · exact ⟨_, T.sL, .base (.lst (W.at (o := .lst [.ref p1]) (by simp)))⟩
      obtain ⟨nm, hsub, ty⟩ := ty
      walk_at "ds"
      refine ⟨rfl, _, rfl, _, rfl, w_radno T W hS1t.cons (noTup.cons_dl hNT) hR1 (by decide) ty hsub fun H W => ⟨false, rfl, ?_⟩⟩
      exact iteF (w_no W (fun _ h => h) ⟨rfl, rfl⟩)
    · subst e1 e2
      refine ⟨szl rfl, fun e he => ?_⟩
      have W := W.newL he (xs := []) (ds := []) .nil
      refine ⟨.list [], .list [], W.rd (.cell (by simp)), W.rd .c0, by simp [PyData.depth, PyData.depthAll], ?_⟩
      refine ⟨true, by simp [PyData.eqv, PyData.eqvAll], iteT ?_⟩
      refine fun p5 dx5 hp hdx hne => ⟨_, _, p5, dx5, rfl, (W.newR hdx).newR (by rw [upd_ne (Ne.symm hne)]; exact hp), fun H d5 W => ⟨rfl, ?_⟩⟩
      refine fun p6 dx6 hp hdx hne => ⟨_, _, p6, dx6, rfl, (W.newR hdx).newR (by rw [upd_ne (Ne.symm hne)]; exact hp), fun H d6 W => ⟨rfl, ?_⟩⟩
      refine w_radcmp T (R := []) (R' := []) (n := 60) W (Sub.right Sub.left) Sub.left (noTup_rad (noTup_rad (noTup.cons_dl (noTup.cons_dl hNT)))) (wfR_nil _) (wfR_nil _) (by decide) fun H b hb W => ?_
      rw [hb.mpr fun _ _ _ => Iff.rfl]
      exact k _
end
end My

namespace My
open PySem L2 Wb
/-! ### the end -/
theorem all_mk {l : PySem.W.OpenLaw} {w : World} {K : PySem.W.Frag} {h : Heap} {mg : Str → Option Value} {fa : Addr} (X : K.In h) (G : h.Ns mainGlobals mg) (hfa : mg "law" = some (.ref fa))
    {f_Radio___init__ f_Radio___eq__ f_Radio___len__ f_Radio_hears f_Radio_standing f_Radio_greatest f_Radio_read f_Radio_missing f__law_bag f__law_take f__law_message f__law_mixed f__law_heard f__law_told f__law_alike f__law_late f_law C_Radio : Addr}
    {od_Radio___init__ an_Radio___init__ od_Radio___eq__ an_Radio___eq__ od_Radio___len__ an_Radio___len__ od_Radio_hears an_Radio_hears od_Radio_standing an_Radio_standing od_Radio_greatest an_Radio_greatest od_Radio_read an_Radio_read od_Radio_missing an_Radio_missing od__law_bag an__law_bag od__law_take an__law_take od__law_message an__law_message od__law_mixed an__law_mixed od__law_heard an__law_heard od__law_told an__law_told od__law_alike an__law_alike od__law_late an__law_late od_law an_law : Option Addr}
    {sl_Radio___init__ sl_Radio___eq__ sl_Radio___len__ sl_Radio_hears sl_Radio_standing sl_Radio_greatest sl_Radio_read sl_Radio_missing sl__law_bag sl__law_take sl__law_message sl__law_mixed sl__law_heard sl__law_told sl__law_alike sl__law_late sl_law : Array (Option Value)}
    {oc_Radio___init__ kV_Radio___init__ dc_Radio___init__ pm_Radio___init__ cd_Radio___init__ ct_Radio___init__ oc_Radio___eq__ kV_Radio___eq__ dc_Radio___eq__ pm_Radio___eq__ cd_Radio___eq__ ct_Radio___eq__ oc_Radio___len__ kV_Radio___len__ dc_Radio___len__ pm_Radio___len__ cd_Radio___len__ ct_Radio___len__ oc_Radio_hears kV_Radio_hears dc_Radio_hears pm_Radio_hears cd_Radio_hears ct_Radio_hears oc_Radio_standing kV_Radio_standing dc_Radio_standing pm_Radio_standing cd_Radio_standing ct_Radio_standing oc_Radio_greatest kV_Radio_greatest dc_Radio_greatest pm_Radio_greatest cd_Radio_greatest ct_Radio_greatest oc_Radio_read kV_Radio_read dc_Radio_read pm_Radio_read cd_Radio_read ct_Radio_read oc_Radio_missing kV_Radio_missing dc_Radio_missing pm_Radio_missing cd_Radio_missing ct_Radio_missing oc__law_bag kV__law_bag dc__law_bag pm__law_bag cd__law_bag ct__law_bag oc__law_take kV__law_take dc__law_take pm__law_take cd__law_take ct__law_take oc__law_message kV__law_message dc__law_message pm__law_message cd__law_message ct__law_message oc__law_mixed kV__law_mixed dc__law_mixed pm__law_mixed cd__law_mixed ct__law_mixed oc__law_heard kV__law_heard dc__law_heard pm__law_heard cd__law_heard ct__law_heard oc__law_told kV__law_told dc__law_told pm__law_told cd__law_told ct__law_told oc__law_alike kV__law_alike dc__law_alike pm__law_alike cd__law_alike ct__law_alike oc__law_late kV__law_late dc__law_late pm__law_late cd__law_late ct__law_late oc_law kV_law dc_law pm_law cd_law ct_law : Value}
    (xC_Radio : PySem.W.nsIn K mainGlobals "Radio" = some (some (.ref C_Radio)))
    (xa_Radio___init__ : PySem.W.findIn K (.ref C_Radio) "__init__" = some (some (.ref f_Radio___init__))) (xi_Radio___init__ : PySem.W.isFn K (.ref f_Radio___init__) = true)
    (xl_Radio___init__ : K.lookup f_Radio___init__ = some ⟨oc_Radio___init__, od_Radio___init__, .func (PySem.W.fnOf "__init__" "Radio.__init__" (defArgs s_Radio___init__) (defBody s_Radio___init__) (defScope s_Radio___init__) .none kV_Radio___init__ dc_Radio___init__ pm_Radio___init__ an_Radio___init__ cd_Radio___init__ ct_Radio___init__), sl_Radio___init__⟩)
    (xc_Radio___init__ : PySem.W.codeIn K cd_Radio___init__ "Radio.__init__" = true) (xk_Radio___init__ : PySem.W.keepIn K (.ref f_Radio___init__) = true)
    (xa_Radio___eq__ : PySem.W.findIn K (.ref C_Radio) "__eq__" = some (some (.ref f_Radio___eq__))) (xi_Radio___eq__ : PySem.W.isFn K (.ref f_Radio___eq__) = true)
    (xl_Radio___eq__ : K.lookup f_Radio___eq__ = some ⟨oc_Radio___eq__, od_Radio___eq__, .func (PySem.W.fnOf "__eq__" "Radio.__eq__" (defArgs s_Radio___eq__) (defBody s_Radio___eq__) (defScope s_Radio___eq__) .none kV_Radio___eq__ dc_Radio___eq__ pm_Radio___eq__ an_Radio___eq__ cd_Radio___eq__ ct_Radio___eq__), sl_Radio___eq__⟩)
    (xc_Radio___eq__ : PySem.W.codeIn K cd_Radio___eq__ "Radio.__eq__" = true) (xk_Radio___eq__ : PySem.W.keepIn K (.ref f_Radio___eq__) = true)
    (xa_Radio___len__ : PySem.W.findIn K (.ref C_Radio) "__len__" = some (some (.ref f_Radio___len__))) (xi_Radio___len__ : PySem.W.isFn K (.ref f_Radio___len__) = true)
    (xl_Radio___len__ : K.lookup f_Radio___len__ = some ⟨oc_Radio___len__, od_Radio___len__, .func (PySem.W.fnOf "__len__" "Radio.__len__" (defArgs s_Radio___len__) (defBody s_Radio___len__) (defScope s_Radio___len__) .none kV_Radio___len__ dc_Radio___len__ pm_Radio___len__ an_Radio___len__ cd_Radio___len__ ct_Radio___len__), sl_Radio___len__⟩)
    (xc_Radio___len__ : PySem.W.codeIn K cd_Radio___len__ "Radio.__len__" = true) (xk_Radio___len__ : PySem.W.keepIn K (.ref f_Radio___len__) = true)
    (xa_Radio_hears : PySem.W.findIn K (.ref C_Radio) "hears" = some (some (.ref f_Radio_hears))) (xi_Radio_hears : PySem.W.isFn K (.ref f_Radio_hears) = true)
    (xl_Radio_hears : K.lookup f_Radio_hears = some ⟨oc_Radio_hears, od_Radio_hears, .func (PySem.W.fnOf "hears" "Radio.hears" (defArgs s_Radio_hears) (defBody s_Radio_hears) (defScope s_Radio_hears) .none kV_Radio_hears dc_Radio_hears pm_Radio_hears an_Radio_hears cd_Radio_hears ct_Radio_hears), sl_Radio_hears⟩)
    (xc_Radio_hears : PySem.W.codeIn K cd_Radio_hears "Radio.hears" = true) (xk_Radio_hears : PySem.W.keepIn K (.ref f_Radio_hears) = true)
    (xa_Radio_standing : PySem.W.findIn K (.ref C_Radio) "standing" = some (some (.ref f_Radio_standing))) (xi_Radio_standing : PySem.W.isFn K (.ref f_Radio_standing) = true)
    (xl_Radio_standing : K.lookup f_Radio_standing = some ⟨oc_Radio_standing, od_Radio_standing, .func (PySem.W.fnOf "standing" "Radio.standing" (defArgs s_Radio_standing) (defBody s_Radio_standing) (defScope s_Radio_standing) .none kV_Radio_standing dc_Radio_standing pm_Radio_standing an_Radio_standing cd_Radio_standing ct_Radio_standing), sl_Radio_standing⟩)
    (xc_Radio_standing : PySem.W.codeIn K cd_Radio_standing "Radio.standing" = true) (xk_Radio_standing : PySem.W.keepIn K (.ref f_Radio_standing) = true)
    (xa_Radio_greatest : PySem.W.findIn K (.ref C_Radio) "greatest" = some (some (.ref f_Radio_greatest))) (xi_Radio_greatest : PySem.W.isFn K (.ref f_Radio_greatest) = true)
    (xl_Radio_greatest : K.lookup f_Radio_greatest = some ⟨oc_Radio_greatest, od_Radio_greatest, .func (PySem.W.fnOf "greatest" "Radio.greatest" (defArgs s_Radio_greatest) (defBody s_Radio_greatest) (defScope s_Radio_greatest) .none kV_Radio_greatest dc_Radio_greatest pm_Radio_greatest an_Radio_greatest cd_Radio_greatest ct_Radio_greatest), sl_Radio_greatest⟩)
    (xc_Radio_greatest : PySem.W.codeIn K cd_Radio_greatest "Radio.greatest" = true) (xk_Radio_greatest : PySem.W.keepIn K (.ref f_Radio_greatest) = true)
    (xa_Radio_read : PySem.W.findIn K (.ref C_Radio) "read" = some (some (.ref f_Radio_read))) (xi_Radio_read : PySem.W.isFn K (.ref f_Radio_read) = true)
    (xl_Radio_read : K.lookup f_Radio_read = some ⟨oc_Radio_read, od_Radio_read, .func (PySem.W.fnOf "read" "Radio.read" (defArgs s_Radio_read) (defBody s_Radio_read) (defScope s_Radio_read) .none kV_Radio_read dc_Radio_read pm_Radio_read an_Radio_read cd_Radio_read ct_Radio_read), sl_Radio_read⟩)
    (xc_Radio_read : PySem.W.codeIn K cd_Radio_read "Radio.read" = true) (xk_Radio_read : PySem.W.keepIn K (.ref f_Radio_read) = true)
    (xa_Radio_missing : PySem.W.findIn K (.ref C_Radio) "missing" = some (some (.ref f_Radio_missing))) (xi_Radio_missing : PySem.W.isFn K (.ref f_Radio_missing) = true)
    (xl_Radio_missing : K.lookup f_Radio_missing = some ⟨oc_Radio_missing, od_Radio_missing, .func (PySem.W.fnOf "missing" "Radio.missing" (defArgs s_Radio_missing) (defBody s_Radio_missing) (defScope s_Radio_missing) .none kV_Radio_missing dc_Radio_missing pm_Radio_missing an_Radio_missing cd_Radio_missing ct_Radio_missing), sl_Radio_missing⟩)
    (xc_Radio_missing : PySem.W.codeIn K cd_Radio_missing "Radio.missing" = true) (xk_Radio_missing : PySem.W.keepIn K (.ref f_Radio_missing) = true)
    (xa__law_bag : PySem.W.nsIn K mainGlobals "_law_bag" = some (some (.ref f__law_bag)))
    (xl__law_bag : K.lookup f__law_bag = some ⟨oc__law_bag, od__law_bag, .func (PySem.W.fnOf "_law_bag" "_law_bag" (defArgs s__law_bag) (defBody s__law_bag) (defScope s__law_bag) .none kV__law_bag dc__law_bag pm__law_bag an__law_bag cd__law_bag ct__law_bag), sl__law_bag⟩)
    (xc__law_bag : PySem.W.codeIn K cd__law_bag "_law_bag" = true) (xk__law_bag : PySem.W.keepIn K (.ref f__law_bag) = true)
    (xa__law_take : PySem.W.nsIn K mainGlobals "_law_take" = some (some (.ref f__law_take)))
    (xl__law_take : K.lookup f__law_take = some ⟨oc__law_take, od__law_take, .func (PySem.W.fnOf "_law_take" "_law_take" (defArgs s__law_take) (defBody s__law_take) (defScope s__law_take) .none kV__law_take dc__law_take pm__law_take an__law_take cd__law_take ct__law_take), sl__law_take⟩)
    (xc__law_take : PySem.W.codeIn K cd__law_take "_law_take" = true) (xk__law_take : PySem.W.keepIn K (.ref f__law_take) = true)
    (xa__law_message : PySem.W.nsIn K mainGlobals "_law_message" = some (some (.ref f__law_message)))
    (xl__law_message : K.lookup f__law_message = some ⟨oc__law_message, od__law_message, .func (PySem.W.fnOf "_law_message" "_law_message" (defArgs s__law_message) (defBody s__law_message) (defScope s__law_message) .none kV__law_message dc__law_message pm__law_message an__law_message cd__law_message ct__law_message), sl__law_message⟩)
    (xc__law_message : PySem.W.codeIn K cd__law_message "_law_message" = true) (xk__law_message : PySem.W.keepIn K (.ref f__law_message) = true)
    (xa__law_mixed : PySem.W.nsIn K mainGlobals "_law_mixed" = some (some (.ref f__law_mixed)))
    (xl__law_mixed : K.lookup f__law_mixed = some ⟨oc__law_mixed, od__law_mixed, .func (PySem.W.fnOf "_law_mixed" "_law_mixed" (defArgs s__law_mixed) (defBody s__law_mixed) (defScope s__law_mixed) .none kV__law_mixed dc__law_mixed pm__law_mixed an__law_mixed cd__law_mixed ct__law_mixed), sl__law_mixed⟩)
    (xc__law_mixed : PySem.W.codeIn K cd__law_mixed "_law_mixed" = true) (xk__law_mixed : PySem.W.keepIn K (.ref f__law_mixed) = true)
    (xa__law_heard : PySem.W.nsIn K mainGlobals "_law_heard" = some (some (.ref f__law_heard)))
    (xl__law_heard : K.lookup f__law_heard = some ⟨oc__law_heard, od__law_heard, .func (PySem.W.fnOf "_law_heard" "_law_heard" (defArgs s__law_heard) (defBody s__law_heard) (defScope s__law_heard) .none kV__law_heard dc__law_heard pm__law_heard an__law_heard cd__law_heard ct__law_heard), sl__law_heard⟩)
    (xc__law_heard : PySem.W.codeIn K cd__law_heard "_law_heard" = true) (xk__law_heard : PySem.W.keepIn K (.ref f__law_heard) = true)
    (xa__law_told : PySem.W.nsIn K mainGlobals "_law_told" = some (some (.ref f__law_told)))
    (xl__law_told : K.lookup f__law_told = some ⟨oc__law_told, od__law_told, .func (PySem.W.fnOf "_law_told" "_law_told" (defArgs s__law_told) (defBody s__law_told) (defScope s__law_told) .none kV__law_told dc__law_told pm__law_told an__law_told cd__law_told ct__law_told), sl__law_told⟩)
    (xc__law_told : PySem.W.codeIn K cd__law_told "_law_told" = true) (xk__law_told : PySem.W.keepIn K (.ref f__law_told) = true)
    (xa__law_alike : PySem.W.nsIn K mainGlobals "_law_alike" = some (some (.ref f__law_alike)))
    (xl__law_alike : K.lookup f__law_alike = some ⟨oc__law_alike, od__law_alike, .func (PySem.W.fnOf "_law_alike" "_law_alike" (defArgs s__law_alike) (defBody s__law_alike) (defScope s__law_alike) .none kV__law_alike dc__law_alike pm__law_alike an__law_alike cd__law_alike ct__law_alike), sl__law_alike⟩)
    (xc__law_alike : PySem.W.codeIn K cd__law_alike "_law_alike" = true) (xk__law_alike : PySem.W.keepIn K (.ref f__law_alike) = true)
    (xa__law_late : PySem.W.nsIn K mainGlobals "_law_late" = some (some (.ref f__law_late)))
    (xl__law_late : K.lookup f__law_late = some ⟨oc__law_late, od__law_late, .func (PySem.W.fnOf "_law_late" "_law_late" (defArgs s__law_late) (defBody s__law_late) (defScope s__law_late) .none kV__law_late dc__law_late pm__law_late an__law_late cd__law_late ct__law_late), sl__law_late⟩)
    (xc__law_late : PySem.W.codeIn K cd__law_late "_law_late" = true) (xk__law_late : PySem.W.keepIn K (.ref f__law_late) = true)
    (xa_law : PySem.W.nsIn K mainGlobals "law" = some (some (.ref f_law)))
    (xl_law : K.lookup f_law = some ⟨oc_law, od_law, .func (PySem.W.fnOf "law" "law" (defArgs s_law) (defBody s_law) (defScope s_law) .none kV_law dc_law pm_law an_law cd_law ct_law), sl_law⟩)
    (xc_law : PySem.W.codeIn K cd_law "law" = true) (xk_law : PySem.W.keepIn K (.ref f_law) = true)
    (xpg_Radio : PySem.W.plainGet K C_Radio Str.empty = true) (xhd_Radio : PySem.W.hasDictIn K C_Radio = true) (xpo_Radio : PySem.W.plainOver K C_Radio = true) (xsa_Radio : PySem.W.findIn K (.ref C_Radio) "__setattr__" = some (some (.builtin "object.__setattr__"))) (xmk_Radio : PySem.W.makesIn K C_Radio = true) (xkc_Radio : PySem.W.keepIn K (.ref C_Radio) = true)
    (xna_Radio_known : PySem.W.findIn K (.ref C_Radio) "known" = some none)
    (xn_len : PySem.W.nsIn K mainGlobals "len" = some none)
    (xn_abs : PySem.W.nsIn K mainGlobals "abs" = some none)
    (xn_range : PySem.W.nsIn K mainGlobals "range" = some none)
    (xn_max : PySem.W.nsIn K mainGlobals "max" = some none)
    (xn_min : PySem.W.nsIn K mainGlobals "min" = some none)
    (xn_int : PySem.W.nsIn K mainGlobals "int" = some none)
    (xn_str : PySem.W.nsIn K mainGlobals "str" = some none)
    (xn_sorted : PySem.W.nsIn K mainGlobals "sorted" = some none)
    (xn_isinstance : PySem.W.nsIn K mainGlobals "isinstance" = some none)
    (xn_zip : PySem.W.nsIn K mainGlobals "zip" = some none)
    (xe_ec : PySem.W.findIn K (.ref C_Radio) "__class__" = some (some (.builtin "object.__class__")))
    (xe_eg : PySem.W.specialIn K (.builtin "object.__class__") "__get__" = some (some (.builtin "getset_descriptor.__get__")))
    (xe_et : PySem.W.takesIn K (.builtin "object.__class__") = some true)
    (xe_em_Radio : PySem.W.mroIn K C_Radio (.type "object") = some true)
    (xe_en_Radio : PySem.W.findIn K (.ref C_Radio) "__ne__" = some (some (.builtin "object.__ne__")))
    (xe_kc : PySem.W.isClsIn K C_Radio = true)
    (xe_kt : PySem.W.typeIn K (.ref C_Radio) = some (.type "type"))
    (xe_sN : PySem.W.subIn K (.type "NoneType") (.ref C_Radio) = some false)
    (xe_sI : PySem.W.subIn K (.type "int") (.ref C_Radio) = some false)
    (xe_sS : PySem.W.subIn K (.type "str") (.ref C_Radio) = some false)
    (xe_sL : PySem.W.subIn K (.type "list") (.ref C_Radio) = some false)
    : ∃ fd : FuncData, (∀ (s : Shared) (v : Value), BindsTo s fd ⟨[v], []⟩ [("_law_script", v)]) ∧ ∀ base : Heap, K.In base → base.Ns mainGlobals mg → FnOkG l.prog w K mg base CX0 7 fa fd ["_law_script"] (spec_law K) := by
  have e := hfa.symm.trans (PySem.W.mg_of X G xa_law)
  cases e
  have F_Radio___init__ := fun_mk (st := s_Radio___init__) xl_Radio___init__ xc_Radio___init__ xk_Radio___init__
  have F_Radio___eq__ := fun_mk (st := s_Radio___eq__) xl_Radio___eq__ xc_Radio___eq__ xk_Radio___eq__
  have F_Radio___len__ := fun_mk (st := s_Radio___len__) xl_Radio___len__ xc_Radio___len__ xk_Radio___len__
  have F_Radio_hears := fun_mk (st := s_Radio_hears) xl_Radio_hears xc_Radio_hears xk_Radio_hears
  have F_Radio_standing := fun_mk (st := s_Radio_standing) xl_Radio_standing xc_Radio_standing xk_Radio_standing
  have F_Radio_greatest := fun_mk (st := s_Radio_greatest) xl_Radio_greatest xc_Radio_greatest xk_Radio_greatest
  have F_Radio_read := fun_mk (st := s_Radio_read) xl_Radio_read xc_Radio_read xk_Radio_read
  have F_Radio_missing := fun_mk (st := s_Radio_missing) xl_Radio_missing xc_Radio_missing xk_Radio_missing
  have F__law_bag := fun_mk (st := s__law_bag) xl__law_bag xc__law_bag xk__law_bag
  have F__law_take := fun_mk (st := s__law_take) xl__law_take xc__law_take xk__law_take
  have F__law_message := fun_mk (st := s__law_message) xl__law_message xc__law_message xk__law_message
  have F__law_mixed := fun_mk (st := s__law_mixed) xl__law_mixed xc__law_mixed xk__law_mixed
  have F__law_heard := fun_mk (st := s__law_heard) xl__law_heard xc__law_heard xk__law_heard
  have F__law_told := fun_mk (st := s__law_told) xl__law_told xc__law_told xk__law_told
  have F__law_alike := fun_mk (st := s__law_alike) xl__law_alike xc__law_alike xk__law_alike
  have F__law_late := fun_mk (st := s__law_late) xl__law_late xc__law_late xk__law_late
  have F_law := fun_mk (st := s_law) xl_law xc_law xk_law
  have T : Txt K mg ⟨f_Radio___init__, _, f_Radio___eq__, _, f_Radio___len__, _, f_Radio_hears, _, f_Radio_standing, _, f_Radio_greatest, _, f_Radio_read, _, f_Radio_missing, _, f__law_bag, _, f__law_take, _, f__law_message, _, f__law_mixed, _, f__law_heard, _, f__law_told, _, f__law_alike, _, f__law_late, _, fa, _, C_Radio⟩ := ⟨F_Radio___init__, ⟨xmk_Radio, xa_Radio___init__, xi_Radio___init__, xkc_Radio⟩, F_Radio___eq__, ⟨xa_Radio___eq__, xi_Radio___eq__, xk_Radio___eq__⟩, F_Radio___len__, ⟨xa_Radio___len__, xi_Radio___len__, xk_Radio___len__⟩, F_Radio_hears, ⟨xa_Radio_hears, xi_Radio_hears, xk_Radio_hears⟩, F_Radio_standing, ⟨xa_Radio_standing, xi_Radio_standing, xk_Radio_standing⟩, F_Radio_greatest, ⟨xa_Radio_greatest, xi_Radio_greatest, xk_Radio_greatest⟩, F_Radio_read, ⟨xa_Radio_read, xi_Radio_read, xk_Radio_read⟩, F_Radio_missing, ⟨xa_Radio_missing, xi_Radio_missing, xk_Radio_missing⟩, F__law_bag, PySem.W.mg_of X G xa__law_bag, F__law_take, PySem.W.mg_of X G xa__law_take, F__law_message, PySem.W.mg_of X G xa__law_message, F__law_mixed, PySem.W.mg_of X G xa__law_mixed, F__law_heard, PySem.W.mg_of X G xa__law_heard, F__law_told, PySem.W.mg_of X G xa__law_told, F__law_alike, PySem.W.mg_of X G xa__law_alike, F__law_late, PySem.W.mg_of X G xa__law_late, F_law, PySem.W.mg_of X G xa_law, ⟨xpg_Radio, xhd_Radio, xpo_Radio, xsa_Radio⟩, PySem.W.mg_of X G xC_Radio, xna_Radio_known, PySem.W.mg_none_of X G xn_len, PySem.W.mg_none_of X G xn_abs, PySem.W.mg_none_of X G xn_range, PySem.W.mg_none_of X G xn_max, PySem.W.mg_none_of X G xn_min, PySem.W.mg_none_of X G xn_int, PySem.W.mg_none_of X G xn_str, PySem.W.mg_none_of X G xn_sorted, PySem.W.mg_none_of X G xn_isinstance, PySem.W.mg_none_of X G xn_zip, xe_ec, xe_eg, xe_et, xe_em_Radio, xe_en_Radio, xe_kc, xe_kt, xe_sN, xe_sI, xe_sS, xe_sL⟩
  exact ⟨_, fun s v => .of_eq rfl, fun base _ _ => ok_law T⟩
theorem walk {l : PySem.W.OpenLaw} {q : Program} {loose : List Str} {XP : (Str → Option Value) → Heap → Prop} {YP : World → Heap → Prop} {d : DefRec} {K : Params → PySem.W.Frag} (hn : l.most = some 63) (hdf : d.params.defaults = [])
    (hY : ∀ (w : World) (h : Heap), YP w h → (K w.params).In h)
    (F : ∀ (w : World) (mg : Str → Option Value) (fa : Addr) (h : Heap), (K w.params).In h → h.Ns mainGlobals mg → mg d.name = some (.ref fa) →
      ∃ fd : FuncData, (∀ (s : Shared) (u : Value), BindsTo s fd ⟨[u], []⟩ [("_law_script", u)]) ∧ ∀ base : Heap, (K w.params).In base → base.Ns mainGlobals mg → FnOkG l.prog w (K w.params) mg base CX0 7 fa fd ["_law_script"] (spec_law (K w.params))) :
    PySem.W.WalkO q loose XP YP l.row.toRowW d [] (fun f vs => PySem.call f vs) :=
  Wb.walk_ofG (n := 63) (k := 7) (x := "_law_script") (CX := fun _ => CX0) (sp := fun w => spec_law (K w.params)) hn (by decide) hdf ⟨rfl, by decide, by decide⟩ hY F (fun _ _ a ns hl _ hS => ⟨a, ns, rfl, hS, hl, fun _ => rfl⟩) fun _ _ _ _ _ z => z
end My
open PySem PySem.W PyProof.Rows in
set_option maxRecDepth 100000 in
set_option maxHeartbeats 0 in
theorem PySem.Challenge.cw_whistleboard_k65_whole_radio_in_any_orde_holds : PySem.Challenge.rw_whistleboard_k65_whole_radio_in_any_orde.Holds := by
  w_on; o_law; k_head; (case hw => w_witness2)
  k_fill
  refine My.walk (l := PySem.Challenge.rw_whistleboard_k65_whole_radio_in_any_orde) rfl rfl (fun w h Y => PySem.W.kIn_of Y) ?F
  case F =>
    intro w mg fa h KX G hmg
    refine' My.all_mk KX G hmg ?xC_Radio ?xa_Radio___init__ ?xi_Radio___init__ ?xl_Radio___init__ ?xc_Radio___init__ ?xk_Radio___init__ ?xa_Radio___eq__ ?xi_Radio___eq__ ?xl_Radio___eq__ ?xc_Radio___eq__ ?xk_Radio___eq__ ?xa_Radio___len__ ?xi_Radio___len__ ?xl_Radio___len__ ?xc_Radio___len__ ?xk_Radio___len__ ?xa_Radio_hears ?xi_Radio_hears ?xl_Radio_hears ?xc_Radio_hears ?xk_Radio_hears ?xa_Radio_standing ?xi_Radio_standing ?xl_Radio_standing ?xc_Radio_standing ?xk_Radio_standing ?xa_Radio_greatest ?xi_Radio_greatest ?xl_Radio_greatest ?xc_Radio_greatest ?xk_Radio_greatest ?xa_Radio_read ?xi_Radio_read ?xl_Radio_read ?xc_Radio_read ?xk_Radio_read ?xa_Radio_missing ?xi_Radio_missing ?xl_Radio_missing ?xc_Radio_missing ?xk_Radio_missing ?xa__law_bag ?xl__law_bag ?xc__law_bag ?xk__law_bag ?xa__law_take ?xl__law_take ?xc__law_take ?xk__law_take ?xa__law_message ?xl__law_message ?xc__law_message ?xk__law_message ?xa__law_mixed ?xl__law_mixed ?xc__law_mixed ?xk__law_mixed ?xa__law_heard ?xl__law_heard ?xc__law_heard ?xk__law_heard ?xa__law_told ?xl__law_told ?xc__law_told ?xk__law_told ?xa__law_alike ?xl__law_alike ?xc__law_alike ?xk__law_alike ?xa__law_late ?xl__law_late ?xc__law_late ?xk__law_late ?xa_law ?xl_law ?xc_law ?xk_law ?xpg_Radio ?xhd_Radio ?xpo_Radio ?xsa_Radio ?xmk_Radio ?xkc_Radio ?xna_Radio_known ?xn_len ?xn_abs ?xn_range ?xn_max ?xn_min ?xn_int ?xn_str ?xn_sorted ?xn_isinstance ?xn_zip ?xe_ec ?xe_eg ?xe_et ?xe_em_Radio ?xe_en_Radio ?xe_kc ?xe_kt ?xe_sN ?xe_sI ?xe_sS ?xe_sL
    (case xC_Radio => k_is)
    (case xa_Radio___init__ => k_is)
    (case xi_Radio___init__ => k_is)
    (case xl_Radio___init__ => k_is)
    (case xc_Radio___init__ => k_is)
    (case xk_Radio___init__ => k_is)
    (case xa_Radio___eq__ => k_is)
    (case xi_Radio___eq__ => k_is)
    (case xl_Radio___eq__ => k_is)
    (case xc_Radio___eq__ => k_is)
    (case xk_Radio___eq__ => k_is)
    (case xa_Radio___len__ => k_is)
    (case xi_Radio___len__ => k_is)
    (case xl_Radio___len__ => k_is)
    (case xc_Radio___len__ => k_is)
    (case xk_Radio___len__ => k_is)
    (case xa_Radio_hears => k_is)
    (case xi_Radio_hears => k_is)
    (case xl_Radio_hears => k_is)
    (case xc_Radio_hears => k_is)
    (case xk_Radio_hears => k_is)
    (case xa_Radio_standing => k_is)
    (case xi_Radio_standing => k_is)
    (case xl_Radio_standing => k_is)
    (case xc_Radio_standing => k_is)
    (case xk_Radio_standing => k_is)
    (case xa_Radio_greatest => k_is)
    (case xi_Radio_greatest => k_is)
    (case xl_Radio_greatest => k_is)
    (case xc_Radio_greatest => k_is)
    (case xk_Radio_greatest => k_is)
    (case xa_Radio_read => k_is)
    (case xi_Radio_read => k_is)
    (case xl_Radio_read => k_is)
    (case xc_Radio_read => k_is)
    (case xk_Radio_read => k_is)
    (case xa_Radio_missing => k_is)
    (case xi_Radio_missing => k_is)
    (case xl_Radio_missing => k_is)
    (case xc_Radio_missing => k_is)
    (case xk_Radio_missing => k_is)
    (case xa__law_bag => k_is)
    (case xl__law_bag => k_is)
    (case xc__law_bag => k_is)
    (case xk__law_bag => k_is)
    (case xa__law_take => k_is)
    (case xl__law_take => k_is)
    (case xc__law_take => k_is)
    (case xk__law_take => k_is)
    (case xa__law_message => k_is)
    (case xl__law_message => k_is)
    (case xc__law_message => k_is)
    (case xk__law_message => k_is)
    (case xa__law_mixed => k_is)
    (case xl__law_mixed => k_is)
    (case xc__law_mixed => k_is)
    (case xk__law_mixed => k_is)
    (case xa__law_heard => k_is)
    (case xl__law_heard => k_is)
    (case xc__law_heard => k_is)
    (case xk__law_heard => k_is)
    (case xa__law_told => k_is)
    (case xl__law_told => k_is)
    (case xc__law_told => k_is)
    (case xk__law_told => k_is)
    (case xa__law_alike => k_is)
    (case xl__law_alike => k_is)
    (case xc__law_alike => k_is)
    (case xk__law_alike => k_is)
    (case xa__law_late => k_is)
    (case xl__law_late => k_is)
    (case xc__law_late => k_is)
    (case xk__law_late => k_is)
    (case xa_law => k_is)
    (case xl_law => k_is)
    (case xc_law => k_is)
    (case xk_law => k_is)
    (case xpg_Radio => k_is)
    (case xhd_Radio => k_is)
    (case xpo_Radio => k_is)
    (case xsa_Radio => k_is)
    (case xmk_Radio => k_is)
    (case xkc_Radio => k_is)
    (case xna_Radio_known => k_is)
    (case xn_len => k_is)
    (case xn_abs => k_is)
    (case xn_range => k_is)
    (case xn_max => k_is)
    (case xn_min => k_is)
    (case xn_int => k_is)
    (case xn_str => k_is)
    (case xn_sorted => k_is)
    (case xn_isinstance => k_is)
    (case xn_zip => k_is)
    (case xe_ec => k_is)
    (case xe_eg => k_is)
    (case xe_et => k_is)
    (case xe_em_Radio => k_is)
    (case xe_en_Radio => k_is)
    (case xe_kc => k_is)
    (case xe_kt => k_is)
    (case xe_sN => k_is)
    (case xe_sI => k_is)
    (case xe_sS => k_is)
    (case xe_sL => k_is)

