import PyProof.Rows.All
import Wide.All
import OpenK.AllK
import Wide.FinOn
import KE.KStateDown
import HandS.ForMost
import HandS.Wide
import HandS.Gcd
import HandS.IsInst
import HandS.Defaults
import HandS.TupAny
import HandS.Zip
import KE.GoesEnum
import HandS.HeadEnd
import HandS.Conv
import HandS.More
import PyProof.ZipIter
import PyProof.CollectWalk
import KE.GoesMore
import KE.GoesZip
import KE.KDictZip
import KE.KStar
import KE.KDictList
import HandS.Star
import HandS.SortRule
import HandS.SortInts
import HandS.SortOrd
import HandS.FStr
import PyProof.Rows.StrFirst
import HandS.Head0
import HandS.Head1
import HandS.Head2
import HandS.Head3
import HandS.HeadHook1
import HandS.HeadHook2
import PySem.Challenge.RW_leaprungs_k01_bounds_in_order
set_option Elab.async false
set_option linter.all false
set_option maxRecDepth 100000
set_option maxHeartbeats 4000000
/-! ZBase: a logic of plain data over the hand layer. A slot holds a datum (D), not an address; what was made and does not change any more is frozen in a hidden part of the heap (F),
what may still change stands in a list by its address (Mem). -/
namespace Z
open PySem PySem.Spec PyProof.Rows L2
abbrev Fg := PySem.W.Frag
/-! ### plain data -/
inductive D where
  | non | bl (b : Bool) | int (i : Int) | str (x : Str) | ty (n : String)
  /-- a tuple; a list that does not change any more; a list that is read alone (the script) -/
  | tup (ds : List D) | lst (ds : List D) | scr (ds : List D)
  /-- an instance that does not change any more -/
  | obj (C : Addr) (fs : List (Str × D))
  /-- what stands at a: a thing of Mem, a class, a def -/
  | at (a : Addr)
/-- the datum d lies at v -/
inductive Rp (K : Fg) (F : Hp) : V → D → Prop
  | non : Rp K F .non .non
  | bl (b : Bool) : Rp K F (.bl b) (.bl b)
  | int (i : Int) : Rp K F (.int i) (.int i)
  | str (x : Str) : Rp K F (.str x) (.str x)
  | ty (n : String) : Rp K F (.ty n) (.ty n)
  | tup {a : Addr} {vs : List V} {ds : List D} : SqT K F a vs → vs.length = ds.length → (∀ (i : Nat) (v : V) (d : D), vs[i]? = some v → ds[i]? = some d → Rp K F v d) → Rp K F (.ref a) (.tup ds)
  | lst {a : Addr} {vs : List V} {ds : List D} : F a = some (.lst vs) → vs.length = ds.length → (∀ (i : Nat) (v : V) (d : D), vs[i]? = some v → ds[i]? = some d → Rp K F v d) → Rp K F (.ref a) (.lst ds)
  | scr {a : Addr} {vs : List V} {ds : List D} : SqL K F a vs → vs.length = ds.length → (∀ (i : Nat) (v : V) (d : D), vs[i]? = some v → ds[i]? = some d → Rp K F v d) → Rp K F (.ref a) (.scr ds)
  | obj {a C dx : Addr} {vs : List (Str × V)} {fs : List (Str × D)} : F a = some (.ins C dx vs) → vs.length = fs.length → (∀ (i : Nat) (q : Str × V) (p : Str × D), vs[i]? = some q → fs[i]? = some p → q.1 = p.1) →
      (∀ (i : Nat) (q : Str × V) (p : Str × D), vs[i]? = some q → fs[i]? = some p → Rp K F q.2 p.2) → Rp K F (.ref a) (.obj C fs)
  | at (a : Addr) : Rp K F (.ref a) (.at a)
/-- a row of data -/
structure Rps (K : Fg) (F : Hp) (vs : List V) (ds : List D) : Prop where
  len : vs.length = ds.length
  at_ : ∀ (i : Nat) (v : V) (d : D), vs[i]? = some v → ds[i]? = some d → Rp K F v d
/-- a row of named data -/
structure Rpf (K : Fg) (F : Hp) (vs : List (Str × V)) (ds : List (Str × D)) : Prop where
  len : vs.length = ds.length
  nm : ∀ (i : Nat) (q : Str × V) (p : Str × D), vs[i]? = some q → ds[i]? = some p → q.1 = p.1
  at_ : ∀ (i : Nat) (q : Str × V) (p : Str × D), vs[i]? = some q → ds[i]? = some p → Rp K F q.2 p.2
def Ex (F F' : Hp) : Prop := ∀ a o, F a = some o → F' a = some o
theorem Ex.refl (F : Hp) : Ex F F := fun _ _ h => h
theorem Ex.trans {F F1 F2 : Hp} (a : Ex F F1) (b : Ex F1 F2) : Ex F F2 := fun x o h => b x o (a x o h)
section
variable {K : Fg} {F F' : Hp} {v : V} {d : D} {vs : List V} {ds : List D}
theorem ex_rd {a : Addr} {u : HO} (e : Ex F F') (h : Rd F a u) : Rd F' a u := by
  rcases h with h | ⟨o, h⟩
  · exact .inl (e a _ h)
  · exact .inr ⟨o, e a _ h⟩
theorem ex_l {a : Addr} {xs : List V} (e : Ex F F') (h : SqL K F a xs) : SqL K F' a xs := by
  rcases h with h | h
  · exact .inl (ex_rd e h)
  · exact .inr h
theorem ex_t {a : Addr} {xs : List V} (e : Ex F F') (h : SqT K F a xs) : SqT K F' a xs := by
  rcases h with h | h
  · exact .inl (ex_rd e h)
  · exact .inr h
theorem Rp.mono (e : Ex F F') (h : Rp K F v d) : Rp K F' v d := by
  induction h with
  | non => exact .non
  | bl b => exact .bl b
  | int i => exact .int i
  | str x => exact .str x
  | ty n => exact .ty n
  | tup hs hl _ ih => exact .tup (ex_t e hs) hl ih
  | lst hs hl _ ih => exact .lst (e _ _ hs) hl ih
  | scr hs hl _ ih => exact .scr (ex_l e hs) hl ih
  | obj hs hl hn _ ih => exact .obj (e _ _ hs) hl hn ih
  | «at» a => exact .at a
theorem Rps.mono (e : Ex F F') (h : Rps K F vs ds) : Rps K F' vs ds := ⟨h.len, fun i v d a b => (h.at_ i v d a b).mono e⟩
theorem Rpf.mono {vs : List (Str × V)} {ds : List (Str × D)} (e : Ex F F') (h : Rpf K F vs ds) : Rpf K F' vs ds := ⟨h.len, h.nm, fun i v d a b => (h.at_ i v d a b).mono e⟩
theorem Rps.nil : Rps K F [] [] := ⟨rfl, fun i v d h _ => by simp at h⟩
theorem Rps.cons (h : Rp K F v d) (t : Rps K F vs ds) : Rps K F (v :: vs) (d :: ds) := ⟨by rw [List.length_cons, List.length_cons, t.len], fun i x y a b => by
  cases i with
  | zero =>
    rw [List.getElem?_cons_zero] at a b
    cases a
    cases b
    exact h
  | succ i =>
    rw [List.getElem?_cons_succ] at a b
    exact t.at_ i x y a b⟩
theorem Rps.append {vs' : List V} {ds' : List D} (a : Rps K F vs ds) (b : Rps K F vs' ds') : Rps K F (vs ++ vs') (ds ++ ds') := ⟨by rw [List.length_append, List.length_append, a.len, b.len], fun i x y p q => by
  by_cases h : i < vs.length
  · rw [List.getElem?_append_left h] at p
    rw [List.getElem?_append_left (by rw [← a.len]; exact h)] at q
    exact a.at_ i x y p q
  · have h' : vs.length ≤ i := Nat.le_of_not_lt h
    rw [List.getElem?_append_right h'] at p
    rw [List.getElem?_append_right (by rw [← a.len]; exact h'), ← a.len] at q
    exact b.at_ _ x y p q⟩
theorem Rps.one (h : Rp K F v d) : Rps K F [v] [d] := .cons h .nil
theorem Rps.get (h : Rps K F vs ds) {i : Nat} {d : D} (e : ds[i]? = some d) : ∃ v, vs[i]? = some v ∧ Rp K F v d := by
  have hi : i < vs.length := by rw [h.len]; exact (List.getElem?_eq_some_iff.mp e).1
  exact ⟨vs[i], List.getElem?_eq_getElem hi, h.at_ i _ d (List.getElem?_eq_getElem hi) e⟩
theorem Rps.getV (h : Rps K F vs ds) {i : Nat} {v : V} (e : vs[i]? = some v) : ∃ d, ds[i]? = some d ∧ Rp K F v d := by
  have hi : i < ds.length := by rw [← h.len]; exact (List.getElem?_eq_some_iff.mp e).1
  exact ⟨ds[i], List.getElem?_eq_getElem hi, h.at_ i v _ e (List.getElem?_eq_getElem hi)⟩
theorem Rps.uncons (h : Rps K F vs (d :: ds)) : ∃ v vs', vs = v :: vs' ∧ Rp K F v d ∧ Rps K F vs' ds := by
  cases vs with
  | nil => exact absurd h.len (by simp)
  | cons v vs' =>
    refine ⟨v, vs', rfl, h.at_ 0 v d rfl rfl, ⟨by simpa using h.len, fun i x y a b => h.at_ (i + 1) x y (by simpa using a) (by simpa using b)⟩⟩
theorem Rps.unnil (h : Rps K F vs []) : vs = [] := List.eq_nil_of_length_eq_zero h.len
theorem Rps.take (h : Rps K F vs ds) (n : Nat) : Rps K F (vs.take n) (ds.take n) := ⟨by rw [List.length_take, List.length_take, h.len], fun i x y a b => by
  by_cases hi : i < n
  · rw [List.getElem?_take_of_lt hi] at a b
    exact h.at_ i x y a b
  · rw [List.getElem?_eq_none (by rw [List.length_take]; omega)] at a
    cases a⟩
theorem Rps.drop (h : Rps K F vs ds) (n : Nat) : Rps K F (vs.drop n) (ds.drop n) := ⟨by rw [List.length_drop, List.length_drop, h.len], fun i x y a b => by
  rw [List.getElem?_drop] at a b
  exact h.at_ _ x y a b⟩
theorem Rps.set (h : Rps K F vs ds) (i : Nat) (hv : Rp K F v d) : Rps K F (vs.set i v) (ds.set i d) := ⟨by rw [List.length_set, List.length_set, h.len], fun j x y a b => by
  by_cases hj : i = j
  · subst hj
    by_cases hl : i < vs.length
    · rw [List.getElem?_set_self hl] at a
      rw [List.getElem?_set_self (by rw [← h.len]; exact hl)] at b
      cases a
      cases b
      exact hv
    · rw [List.getElem?_eq_none (by rw [List.length_set]; omega)] at a
      cases a
  · rw [List.getElem?_set_ne hj] at a b
    exact h.at_ j x y a b⟩
theorem Rps.reverse (h : Rps K F vs ds) : Rps K F vs.reverse ds.reverse := ⟨by rw [List.length_reverse, List.length_reverse, h.len], fun i x y a b => by
  by_cases hi : i < vs.length
  · rw [List.getElem?_reverse hi] at a
    rw [List.getElem?_reverse (by rw [← h.len]; exact hi), ← h.len] at b
    exact h.at_ _ x y a b
  · rw [List.getElem?_eq_none (by rw [List.length_reverse]; omega)] at a
    cases a⟩
theorem Rps.dropLast (h : Rps K F vs ds) : Rps K F vs.dropLast ds.dropLast := by
  rw [List.dropLast_eq_take, List.dropLast_eq_take, h.len]
  exact h.take _
theorem Rps.eraseIdx (h : Rps K F vs ds) (n : Nat) : Rps K F (vs.eraseIdx n) (ds.eraseIdx n) := by
  rw [List.eraseIdx_eq_take_drop_succ, List.eraseIdx_eq_take_drop_succ]
  exact (h.take n).append (h.drop (n + 1))
theorem Rps.of_map {α : Type} {xs : List α} {f : α → V} {g : α → D} (h : ∀ x ∈ xs, Rp K F (f x) (g x)) : Rps K F (xs.map f) (xs.map g) := ⟨by rw [List.length_map, List.length_map], fun i v d a b => by
  rw [List.getElem?_map] at a b
  cases e : xs[i]? with
  | none =>
    rw [e] at a
    cases a
  | some x =>
    rw [e] at a b
    cases a
    cases b
    exact h x (List.mem_of_getElem? e)⟩
/-! inversions -/
theorem Rp.of_int {i : Int} (h : Rp K F v (.int i)) : v = .int i := by cases h; rfl
theorem Rp.of_bl {b : Bool} (h : Rp K F v (.bl b)) : v = .bl b := by cases h; rfl
theorem Rp.of_str {x : Str} (h : Rp K F v (.str x)) : v = .str x := by cases h; rfl
theorem Rp.of_ty {x : String} (h : Rp K F v (.ty x)) : v = .ty x := by cases h; rfl
theorem Rp.of_non (h : Rp K F v .non) : v = .non := by cases h; rfl
theorem Rp.of_at {a : Addr} (h : Rp K F v (.at a)) : v = .ref a := by cases h; rfl
theorem Rp.of_tup (h : Rp K F v (.tup ds)) : ∃ a vs, v = .ref a ∧ SqT K F a vs ∧ Rps K F vs ds := by
  cases h with
  | tup hs hl ha => exact ⟨_, _, rfl, hs, hl, ha⟩
theorem Rp.of_lst (h : Rp K F v (.lst ds)) : ∃ a vs, v = .ref a ∧ F a = some (.lst vs) ∧ Rps K F vs ds := by
  cases h with
  | lst hs hl ha => exact ⟨_, _, rfl, hs, hl, ha⟩
theorem Rp.of_scr (h : Rp K F v (.scr ds)) : ∃ a vs, v = .ref a ∧ SqL K F a vs ∧ Rps K F vs ds := by
  cases h with
  | scr hs hl ha => exact ⟨_, _, rfl, hs, hl, ha⟩
theorem Rp.of_obj {C : Addr} {fs : List (Str × D)} (h : Rp K F v (.obj C fs)) : ∃ a dx vs, v = .ref a ∧ F a = some (.ins C dx vs) ∧ Rpf K F vs fs := by
  cases h with
  | obj hs hl hn ha => exact ⟨_, _, _, rfl, hs, hl, hn, ha⟩
theorem Rp.mk_tup {a : Addr} (h : SqT K F a vs) (r : Rps K F vs ds) : Rp K F (.ref a) (.tup ds) := .tup h r.len r.at_
theorem Rp.mk_lst {a : Addr} (h : F a = some (.lst vs)) (r : Rps K F vs ds) : Rp K F (.ref a) (.lst ds) := .lst h r.len r.at_
theorem Rp.mk_scr {a : Addr} (h : SqL K F a vs) (r : Rps K F vs ds) : Rp K F (.ref a) (.scr ds) := .scr h r.len r.at_
end
/-! ### what may change -/
inductive MO where
  | lst (ds : List D) | ins (C : Addr) (fs : List (Str × D)) | dK (kvs : List (Key × D))
abbrev Mem := List (Addr × MO)
def MoOk (K : Fg) (F H : Hp) (a : Addr) : MO → Prop
  | .lst ds => ∃ vs, H a = some (.lst vs) ∧ Rps K F vs ds
  | .ins C fs => ∃ dx vs, H a = some (.ins C dx vs) ∧ Rpf K F vs fs
  | .dK kvs => ∃ ws : List (Key × V), H a = some (.dK ws) ∧ ws.map (·.1) = kvs.map (·.1) ∧ Rps K F (ws.map (·.2)) (kvs.map (·.2))
structure Lay (K : Fg) (F : Hp) (M : Mem) (H : Hp) : Prop where
  fr : ∀ a o, F a = some o → H a = some o
  nd : (M.map (·.1)).Nodup
  ap : ∀ p ∈ M, F p.1 = none
  mu : ∀ p ∈ M, MoOk K F H p.1 p.2
section
variable {K : Fg} {F F' H H' : Hp} {M : Mem} {a p : Addr} {mo mo' : MO} {o : HO}
theorem MoOk.mono (e : Ex F F') (h : H' a = H a) (x : MoOk K F H a mo) : MoOk K F' H' a mo := by
  cases mo with
  | lst ds =>
    obtain ⟨vs, q, r⟩ := x
    exact ⟨vs, h.trans q, r.mono e⟩
  | ins C fs =>
    obtain ⟨dx, vs, q, r⟩ := x
    exact ⟨dx, vs, h.trans q, r.mono e⟩
  | dK kvs =>
    obtain ⟨ws, q, e1, r⟩ := x
    exact ⟨ws, h.trans q, e1, r.mono e⟩
theorem MoOk.there (x : MoOk K F H a mo) : ∃ o, H a = some o := by
  cases mo with
  | lst ds =>
    obtain ⟨vs, q, r⟩ := x
    exact ⟨_, q⟩
  | ins C fs =>
    obtain ⟨dx, vs, q, r⟩ := x
    exact ⟨_, q⟩
  | dK kvs =>
    obtain ⟨ws, q, _⟩ := x
    exact ⟨_, q⟩
theorem Lay.free (L : Lay K F M H) (h : H p = none) : F p = none := by
  cases e : F p with
  | none => rfl
  | some o =>
    rw [L.fr p o e] at h
    cases h
theorem Lay.notin (L : Lay K F M H) (h : H p = none) : p ∉ M.map (·.1) := fun hm => by
  obtain ⟨q, hq, rfl⟩ := List.mem_map.mp hm
  obtain ⟨o, e⟩ := (L.mu q hq).there
  rw [e] at h
  cases h
theorem ex_upd (h : F p = none) : Ex F (upd F p o) := fun a u e => by
  rw [upd_ne (ne_of_none e h)]
  exact e
/-- the heap has grown, all else stands -/
theorem Lay.grow (L : Lay K F M H) (h : ∀ a o, H a = some o → H' a = some o) : Lay K F M H' where
  fr := fun a o e => h a o (L.fr a o e)
  nd := L.nd
  ap := L.ap
  mu := fun q hq => by
    obtain ⟨o, e⟩ := (L.mu q hq).there
    exact (L.mu q hq).mono (Ex.refl F) (by rw [e, h _ _ e])
/-- a new thing that will not change -/
theorem Lay.new (L : Lay K F M H) (h : H p = none) : Lay K (upd F p o) M (upd H p o) where
  fr := fun a u e => by
    by_cases ha : a = p
    · subst ha
      rw [upd_same] at e ⊢
      exact e
    · rw [upd_ne ha] at e ⊢
      exact L.fr a u e
  nd := L.nd
  ap := fun q hq => by
    obtain ⟨u, e⟩ := (L.mu q hq).there
    rw [upd_ne (ne_of_none e h)]
    exact L.ap q hq
  mu := fun q hq => by
    obtain ⟨u, e⟩ := (L.mu q hq).there
    exact (L.mu q hq).mono (ex_upd (L.free h)) (upd_ne (ne_of_none e h))
/-- a new thing that may change -/
theorem Lay.newM (L : Lay K F M H) (h : H p = none) (m : MoOk K F (upd H p o) p mo) : Lay K F ((p, mo) :: M) (upd H p o) where
  fr := fun a u e => by
    rw [upd_ne (fun z => by rw [z, L.free h] at e; cases e)]
    exact L.fr a u e
  nd := List.nodup_cons.mpr ⟨L.notin h, L.nd⟩
  ap := fun q hq => by
    rcases List.mem_cons.mp hq with rfl | hq
    · exact L.free h
    · exact L.ap q hq
  mu := fun q hq => by
    rcases List.mem_cons.mp hq with rfl | hq
    · exact m
    · obtain ⟨u, e⟩ := (L.mu q hq).there
      exact (L.mu q hq).mono (Ex.refl F) (upd_ne (ne_of_none e h))
theorem nodup_at {M : Mem} (hN : (M.map (·.1)).Nodup) {i j : Nat} {p q : Addr × MO} (a : M[i]? = some p) (b : M[j]? = some q) (e : p.1 = q.1) : i = j := by
  refine nd_ix hN (x := p.1) (by rw [List.getElem?_map, a]; rfl) ?_
  rw [List.getElem?_map, b, e]
  rfl
/-- a thing changes -/
theorem Lay.set (L : Lay K F M H) {i : Nat} (hi : M[i]? = some (p, mo)) (m : MoOk K F (upd H p o) p mo') : Lay K F (M.set i (p, mo')) (upd H p o) where
  fr := fun a u e => by
    rw [upd_ne (fun z => by rw [z, L.ap _ (List.mem_of_getElem? hi)] at e; cases e)]
    exact L.fr a u e
  nd := by
    have e : (M.set i (p, mo')).map (·.1) = M.map (·.1) := by
      rw [List.map_set]
      apply List.ext_getElem?
      intro j
      by_cases hj : i = j
      · subst hj
        have hl : i < (M.map (·.1)).length := by
          rw [List.length_map]
          exact (List.getElem?_eq_some_iff.mp hi).1
        rw [List.getElem?_set_self hl, List.getElem?_map, hi]
        rfl
      · rw [List.getElem?_set_ne hj]
    rw [e]
    exact L.nd
  ap := fun q hq => by
    rcases List.mem_or_eq_of_mem_set hq with hq | rfl
    · exact L.ap q hq
    · exact L.ap (p, mo) (List.mem_of_getElem? hi)
  mu := fun q hq => by
    obtain ⟨j, hj⟩ := List.mem_iff_getElem?.mp hq
    by_cases hij : i = j
    · subst hij
      rw [List.getElem?_set_self (List.getElem?_eq_some_iff.mp hi).1] at hj
      cases hj
      exact m
    · rw [List.getElem?_set_ne hij] at hj
      refine (L.mu q (List.mem_of_getElem? hj)).mono (Ex.refl F) (upd_ne fun z => hij ?_)
      exact nodup_at L.nd hi hj z.symm
/-- a thing is forgotten -/
theorem Lay.drop (L : Lay K F M H) (i : Nat) : Lay K F (M.eraseIdx i) H where
  fr := L.fr
  nd := by
    have h := L.nd.sublist ((List.eraseIdx_sublist M i).map (·.1))
    exact h
  ap := fun q hq => L.ap q (List.mem_of_mem_eraseIdx hq)
  mu := fun q hq => L.mu q (List.mem_of_mem_eraseIdx hq)
/-- a thing changes no more -/
theorem Lay.frz (L : Lay K F M H) {i : Nat} (hi : M[i]? = some (p, mo)) (hp : H p = some o) : Lay K (upd F p o) (M.eraseIdx i) H ∧ Ex F (upd F p o) := by
  have hF := L.ap _ (List.mem_of_getElem? hi)
  have ex : Ex F (upd F p o) := ex_upd hF
  refine ⟨⟨fun a u e => ?_, (L.drop i).nd, fun q hq => ?_, fun q hq => ((L.drop i).mu q hq).mono ex rfl⟩, ex⟩
  · by_cases ha : a = p
    · subst ha
      rw [upd_same] at e
      rw [← e]
      exact hp
    · rw [upd_ne ha] at e
      exact L.fr a u e
  · rw [upd_ne]
    · exact (L.drop i).ap q hq
    · intro z
      obtain ⟨j, hj⟩ := List.mem_iff_getElem?.mp hq
      rw [List.getElem?_eraseIdx] at hj
      split at hj
      · have := nodup_at L.nd hi hj z.symm
        omega
      · have := nodup_at L.nd hi hj z.symm
        omega
theorem Lay.at_ (L : Lay K F M H) {i : Nat} (hi : M[i]? = some (p, mo)) : MoOk K F H p mo := L.mu _ (List.mem_of_getElem? hi)
end
/-! ### slots -/
abbrev Gm := List (Option D)
structure Has (K : Fg) (F : Hp) (σ : L2.St) (Γ : Gm) : Prop where
  len : σ.length = Γ.length
  at_ : ∀ (i : Nat) (d : D), Γ[i]? = some (some d) → ∃ v, σ[i]? = some (some v) ∧ Rp K F v d
theorem Has.mono {K : Fg} {F F' : Hp} {σ : L2.St} {Γ : Gm} (e : Ex F F') (h : Has K F σ Γ) : Has K F' σ Γ := ⟨h.len, fun i d q => by
  obtain ⟨v, a, b⟩ := h.at_ i d q
  exact ⟨v, a, b.mono e⟩⟩
theorem Has.set {K : Fg} {F : Hp} {σ : L2.St} {Γ : Gm} {v : V} {d : D} (h : Has K F σ Γ) (i : Nat) (r : Rp K F v d) : Has K F (σ.set i (some v)) (Γ.set i (some d)) := ⟨by rw [List.length_set, List.length_set, h.len], fun j x q => by
  by_cases hj : i = j
  · subst hj
    by_cases hl : i < Γ.length
    · rw [List.getElem?_set_self hl] at q
      cases q
      exact ⟨v, List.getElem?_set_self (by rw [h.len]; exact hl), r⟩
    · rw [List.getElem?_eq_none (by rw [List.length_set]; omega)] at q
      cases q
  · rw [List.getElem?_set_ne hj] at q ⊢
    exact h.at_ j x q⟩
/-- a slot's datum told otherwise, or forgotten -/
theorem Has.weak {K : Fg} {F : Hp} {σ : L2.St} {Γ Γ' : Gm} (h : Has K F σ Γ) (hl : Γ'.length = Γ.length) (w : ∀ (i : Nat) (d : D), Γ'[i]? = some (some d) → ∃ d0, Γ[i]? = some (some d0) ∧ ∀ v, Rp K F v d0 → Rp K F v d) : Has K F σ Γ' := ⟨h.len.trans hl.symm, fun i d q => by
  obtain ⟨d0, a, b⟩ := w i d q
  obtain ⟨v, c, e⟩ := h.at_ i d0 a
  exact ⟨v, c, b v e⟩⟩
def zwipe (Γ : Gm) : List Nat → Gm
  | [] => Γ
  | v :: vs => (zwipe Γ vs).set v none
theorem Has.unset {K : Fg} {F : Hp} {σ : L2.St} {Γ : Gm} (h : Has K F σ Γ) (i : Nat) : Has K F (σ.set i none) (Γ.set i none) := ⟨by rw [List.length_set, List.length_set, h.len], fun j x q => by
  by_cases hj : i = j
  · subst hj
    by_cases hl : i < Γ.length
    · rw [List.getElem?_set_self hl] at q
      cases q
    · rw [List.getElem?_eq_none (by rw [List.length_set]; omega)] at q
      cases q
  · rw [List.getElem?_set_ne hj] at q ⊢
    exact h.at_ j x q⟩
theorem Has.wipe {K : Fg} {F : Hp} {σ : L2.St} {Γ : Gm} (h : Has K F σ Γ) : ∀ vs : List Nat, Has K F (L2.wipe σ vs) (zwipe Γ vs)
  | [] => h
  | v :: vs => (h.wipe vs).unset v
/-! ### judgements over readings -/
/-- the text's written part; what is wanted of an exception, in the layer's words and of data -/
structure Cz where
  K : Fg
  W : Value → Option Addr → L2.St → Hp → Prop := fun _ _ _ _ => False
  ke : Value → Option (List (Str × D)) → Gm → Mem → Prop := fun _ _ _ _ => False
/-- an exception's own fields lie at d -/
def XfOk (K : Fg) (F H : Hp) (d : Option Addr) : Option (List (Str × D)) → Prop
  | none => d = none
  | some fs => ∃ dd vs, d = some dd ∧ H dd = some (.xd vs) ∧ Rpf K F vs fs
variable {c : Cz}
def XOk (c : Cz) (R : Mem) (F : Hp) : Prop := ∀ (cls : Value) (d : Option Addr) (F' : Hp) (σ' : L2.St) (H' : Hp) (Γ' : Gm) (M' : Mem) (fs : Option (List (Str × D))), Ex F F' → Has c.K F' σ' Γ' → Lay c.K F' (M' ++ R) H' → XfOk c.K F' H' d fs → c.ke cls fs Γ' M' → c.W cls d σ' H'
def KOk {α β : Type} (rel : Hp → β → α → Prop) (K : Fg) (R : Mem) (F : Hp) (k : α → Mem → Prop) (Q : β → Hp → Prop) : Prop := ∀ (v : β) (F' H' : Hp) (M' : Mem) (d : α), Ex F F' → Lay K F' (M' ++ R) H' → rel F' v d → k d M' → Q v H'
abbrev EOk (K : Fg) := KOk (fun F v d => Rp K F v d) K
abbrev AOk (K : Fg) := KOk (fun F v d => Rps K F v d) K
abbrev TOk (K : Fg) := KOk (fun _ (b : Bool) b' => b = b') K
abbrev GOk (K : Fg) := KOk (fun F σ Γ => Has K F σ Γ) K
theorem KOk.mono {α β : Type} {rel : Hp → β → α → Prop} {K : Fg} {R : Mem} {F F' : Hp} {k : α → Mem → Prop} {Q : β → Hp → Prop} (e : Ex F F') (h : KOk rel K R F k Q) : KOk rel K R F' k Q := fun v F1 H1 M1 d e1 => h v F1 H1 M1 d (e.trans e1)
theorem XOk.mono {R : Mem} {F F' : Hp} (e : Ex F F') (h : XOk c R F) : XOk c R F' := fun cls d F1 σ' H' Γ' M' fs e1 => h cls d F1 σ' H' Γ' M' fs (e.trans e1)
def ZE (c : Cz) (t : TE) (Γ : Gm) (M : Mem) (k : D → Mem → Prop) : Prop :=
  ∀ (R : Mem) (F : Hp) (σ : L2.St) (H : Hp) (Q : VK), Has c.K F σ Γ → Lay c.K F (M ++ R) H → XOk c R F → EOk c.K R F k Q → t σ H Q
def ZA (c : Cz) (t : TA) (Γ : Gm) (M : Mem) (k : List D → Mem → Prop) : Prop :=
  ∀ (R : Mem) (F : Hp) (σ : L2.St) (H : Hp) (Q : List V → Hp → Prop), Has c.K F σ Γ → Lay c.K F (M ++ R) H → XOk c R F → AOk c.K R F k Q → t σ H Q
def ZT (c : Cz) (t : TT) (Γ : Gm) (M : Mem) (k : Bool → Mem → Prop) : Prop :=
  ∀ (R : Mem) (F : Hp) (σ : L2.St) (H : Hp) (Q : Bool → Hp → Prop), Has c.K F σ Γ → Lay c.K F (M ++ R) H → XOk c R F → TOk c.K R F k Q → t σ H Q
/-- a target takes d -/
def ZG (c : Cz) (g : TG) (d : D) (Γ : Gm) (M : Mem) (k : Gm → Mem → Prop) : Prop :=
  ∀ (R : Mem) (F : Hp) (σ : L2.St) (H : Hp) (v : V) (Q : L2.St → Hp → Prop), Has c.K F σ Γ → Lay c.K F (M ++ R) H → XOk c R F → Rp c.K F v d → GOk c.K R F k Q → g v σ H Q
def ZGs (c : Cz) (g : TGs) (ds : List D) (Γ : Gm) (M : Mem) (k : Gm → Mem → Prop) : Prop :=
  ∀ (R : Mem) (F : Hp) (σ : L2.St) (H : Hp) (vs : List V) (Q : L2.St → Hp → Prop), Has c.K F σ Γ → Lay c.K F (M ++ R) H → XOk c R F → Rps c.K F vs ds → GOk c.K R F k Q → g vs σ H Q
structure ZEnds where
  nx : Gm → Mem → Prop
  rt : D → Mem → Prop
  bk : Gm → Mem → Prop := fun _ _ => False
  ct : Gm → Mem → Prop := fun _ _ => False
structure DOk (K : Fg) (R : Mem) (F : Hp) (DD : ZEnds) (D : Ends) : Prop where
  nx : GOk K R F DD.nx D.nx
  rt : EOk K R F DD.rt D.rt
  bk : GOk K R F DD.bk D.bk
  ct : GOk K R F DD.ct D.ct
theorem DOk.mono {K : Fg} {R : Mem} {F F' : Hp} {DD : ZEnds} {D : Ends} (e : Ex F F') (h : DOk K R F DD D) : DOk K R F' DD D := ⟨h.nx.mono e, h.rt.mono e, h.bk.mono e, h.ct.mono e⟩
def ZS (c : Cz) (t : TS) (Γ : Gm) (M : Mem) (DD : ZEnds) : Prop :=
  ∀ (R : Mem) (F : Hp) (σ : L2.St) (H : Hp) (D : Ends), Has c.K F σ Γ → Lay c.K F (M ++ R) H → XOk c R F → DOk c.K R F DD D → t D σ H
/-- an iterator that walks ds -/
def Walks (K : Fg) (F : Hp) (J : It) (ds : List D) : Prop := ∀ (F1 : Hp) (M1 : Mem) (H1 : Hp), Ex F F1 → Lay K F1 M1 H1 →
  (∀ i, i < ds.length → J.go i H1) ∧ (∀ i, ds.length ≤ i → J.stop i H1) ∧ ∀ (i : Nat) (d : D) (x : V) (H2 : Hp), ds[i]? = some d → J.yld i H1 x H2 → ∃ F2, Ex F1 F2 ∧ Lay K F2 M1 H2 ∧ Rp K F2 x d
def ZI (c : Cz) (w : TI) (Γ : Gm) (M : Mem) (k : List D → Mem → Prop) : Prop :=
  ∀ (R : Mem) (F : Hp) (σ : L2.St) (H : Hp) (Q : It → Hp → Prop), Has c.K F σ Γ → Lay c.K F (M ++ R) H → XOk c R F → (∀ (J : It) (F' H' : Hp) (M' : Mem) (ds : List D), Ex F F' → Lay c.K F' (M' ++ R) H' → Walks c.K F' J ds → k ds M' → Q J H') → w σ H Q
/-! ### rules of every kind -/
section
variable {Γ : Gm} {M : Mem} {k : D → Mem → Prop} {ta tb : TE} {DD : ZEnds}
theorem z_var {i : Nat} {d : D} (h : Γ[i]? = some (some d)) (hk : k d M) : ZE c (tVar i) Γ M k := fun R F σ H Q hs L _ q => by
  obtain ⟨v, e, r⟩ := hs.at_ i d h
  exact ⟨v, e, q v F H M d (Ex.refl F) L r hk⟩
theorem z_glb {v : V} {d : D} (h : ∀ F, Rp c.K F v d) (hk : k d M) : ZE c (tC v) Γ M k := fun R F σ H Q hs L _ q => q v F H M d (Ex.refl F) L (h F) hk
theorem z_int {i : Int} (hk : k (.int i) M) : ZE c (tC (.int i)) Γ M k := z_glb (fun _ => .int i) hk
theorem z_bl {i : Bool} (hk : k (.bl i) M) : ZE c (tC (.bl i)) Γ M k := z_glb (fun _ => .bl i) hk
theorem z_non (hk : k .non M) : ZE c (tC .non) Γ M k := z_glb (fun _ => .non) hk
theorem z_str {x : Str} (hk : k (.str x) M) : ZE c (tC (.str x)) Γ M k := z_glb (fun _ => .str x) hk
theorem z_ty {x : String} (hk : k (.ty x) M) : ZE c (tC (.ty x)) Γ M k := z_glb (fun _ => .ty x) hk
theorem z_at {a : Addr} (hk : k (.at a) M) : ZE c (tC (.ref a)) Γ M k := z_glb (fun _ => .at a) hk
/-- weaken the end -/
theorem ZE.imp {k' : D → Mem → Prop} (h : ZE c ta Γ M k) (i : ∀ d M', k d M' → k' d M') : ZE c ta Γ M k' := fun R F σ H Q hs L X q => h R F σ H Q hs L X fun v F' H' M' d e L' r kk => q v F' H' M' d e L' r (i d M' kk)
theorem ZA.imp {ta : TA} {k k' : List D → Mem → Prop} (h : ZA c ta Γ M k) (i : ∀ d M', k d M' → k' d M') : ZA c ta Γ M k' := fun R F σ H Q hs L X q => h R F σ H Q hs L X fun v F' H' M' d e L' r kk => q v F' H' M' d e L' r (i d M' kk)
theorem ZT.imp {ta : TT} {k k' : Bool → Mem → Prop} (h : ZT c ta Γ M k) (i : ∀ d M', k d M' → k' d M') : ZT c ta Γ M k' := fun R F σ H Q hs L X q => h R F σ H Q hs L X fun v F' H' M' d e L' r kk => q v F' H' M' d e L' r (i d M' kk)
/-- two operands, then an operation on values -/
def ZR (c : Cz) (r : R2) (x y : D) (M : Mem) (k : D → Mem → Prop) : Prop := ∀ (R : Mem) (F H : Hp) (v w : V) (Q : VK), Lay c.K F (M ++ R) H → Rp c.K F v x → Rp c.K F w y → EOk c.K R F k Q → r v w H Q
theorem z_op {r : R2} (h : ZE c ta Γ M fun x M1 => ZE c tb Γ M1 fun y M2 => ZR c r x y M2 k) : ZE c (tOp r ta tb) Γ M k := fun R F σ H Q hs L X q =>
  h R F σ H _ hs L X fun v F1 H1 M1 x e1 L1 r1 h1 => h1 R F1 σ H1 _ (hs.mono e1) L1 (X.mono e1) fun w F2 H2 M2 y e2 L2 r2 h2 => h2 R F2 H2 v w Q L2 (r1.mono e2) r2 (q.mono (e1.trans e2))
def ZU (c : Cz) (r : V → Hp → VK → Prop) (x : D) (M : Mem) (k : D → Mem → Prop) : Prop := ∀ (R : Mem) (F H : Hp) (v : V) (Q : VK), Lay c.K F (M ++ R) H → Rp c.K F v x → EOk c.K R F k Q → r v H Q
theorem z_un {r : V → Hp → VK → Prop} (h : ZE c ta Γ M fun x M1 => ZU c r x M1 k) : ZE c (tUn r ta) Γ M k := fun R F σ H Q hs L X q =>
  h R F σ H _ hs L X fun v F1 H1 M1 x e1 L1 r1 h1 => h1 R F1 H1 v Q L1 r1 (q.mono e1)
/-- arguments -/
theorem za_nil {k : List D → Mem → Prop} (hk : k [] M) : ZA c tNil Γ M k := fun R F σ H Q hs L _ q => q [] F H M [] (Ex.refl F) L .nil hk
theorem za_cons {tr : TA} {k : List D → Mem → Prop} (h : ZE c ta Γ M fun x M1 => ZA c tr Γ M1 fun xs M2 => k (x :: xs) M2) : ZA c (tCons ta tr) Γ M k := fun R F σ H Q hs L X q =>
  h R F σ H _ hs L X fun v F1 H1 M1 x e1 L1 r1 h1 => h1 R F1 σ H1 _ (hs.mono e1) L1 (X.mono e1) fun ws F2 H2 M2 xs e2 L2 r2 h2 => q (v :: ws) F2 H2 M2 (x :: xs) (e1.trans e2) L2 (.cons (r1.mono e2) r2) h2
/-- a call on values (a built-in) -/
def ZC (c : Cz) (r : List V → Hp → VK → Prop) (ds : List D) (M : Mem) (k : D → Mem → Prop) : Prop := ∀ (R : Mem) (F H : Hp) (vs : List V) (Q : VK), Lay c.K F (M ++ R) H → Rps c.K F vs ds → EOk c.K R F k Q → r vs H Q
theorem z_cb {r : List V → Hp → VK → Prop} {ta : TA} (h : ZA c ta Γ M fun ds M1 => ZC c r ds M1 k) : ZE c (tCB r ta) Γ M k := fun R F σ H Q hs L X q =>
  h R F σ H _ hs L X fun vs F1 H1 M1 ds e1 L1 r1 h1 => h1 R F1 H1 vs Q L1 r1 (q.mono e1)
/-- displays -/
theorem z_tup {ta : TA} (h : ZA c ta Γ M fun ds M1 => ds.length ≤ sizeLine ∧ k (.tup ds) M1) : ZE c (tTup ta) Γ M k := fun R F σ H Q hs L X q =>
  h R F σ H _ hs L X fun vs F1 H1 M1 ds e1 L1 r1 ⟨hl, hk⟩ => ⟨by rw [r1.len]; exact hl, fun p hp => q (.ref p) (upd F1 p (.tup vs)) _ M1 (.tup ds) (e1.trans (ex_upd (L1.free hp))) (L1.new hp) (.mk_tup (SqT.of upd_same) (r1.mono (ex_upd (L1.free hp)))) hk⟩
theorem z_lst {ta : TA} (h : ZA c ta Γ M fun ds M1 => ds.length ≤ sizeLine ∧ k (.lst ds) M1) : ZE c (tLst ta) Γ M k := fun R F σ H Q hs L X q =>
  h R F σ H _ hs L X fun vs F1 H1 M1 ds e1 L1 r1 ⟨hl, hk⟩ => ⟨by rw [r1.len]; exact hl, fun p hp => q (.ref p) (upd F1 p (.lst vs)) _ M1 (.lst ds) (e1.trans (ex_upd (L1.free hp))) (L1.new hp) (.mk_lst upd_same (r1.mono (ex_upd (L1.free hp)))) hk⟩
/-- a list that may change -/
def mk (t : TE) : TE := t
theorem z_lstM {ta : TA} (h : ZA c ta Γ M fun ds M1 => ds.length ≤ sizeLine ∧ ∀ p, k (.at p) ((p, .lst ds) :: M1)) : ZE c (mk (tLst ta)) Γ M k := fun R F σ H Q hs L X q =>
  h R F σ H _ hs L X fun vs F1 H1 M1 ds e1 L1 r1 ⟨hl, hk⟩ => ⟨by rw [r1.len]; exact hl, fun p hp => q (.ref p) F1 _ ((p, .lst ds) :: M1) (.at p) e1 (L1.newM hp ⟨vs, upd_same, r1⟩) (.at p) (hk p)⟩
/-- a list that may change made of a frozen one is not to be had; a changing one is frozen where it is handed on -/
def FrzK (k : D → Mem → Prop) (d : D) (M : Mem) : Prop := match d, M with
  | .at a, (b, .lst ds) :: M1 => a = b ∧ k (.lst ds) M1
  | _, _ => False
def fz (t : TE) : TE := t
theorem z_fz (h : ZE c ta Γ M (FrzK k)) : ZE c (fz ta) Γ M k := fun R F σ H Q hs L X q =>
  h R F σ H Q hs L X fun v F1 H1 M1 d e1 L1 r1 h1 => by
    cases d with
    | «at» a =>
      cases M1 with
      | nil => exact h1.elim
      | cons q1 M2 =>
        obtain ⟨b, mo⟩ := q1
        cases mo with
        | lst ds =>
          obtain ⟨rfl, h1⟩ := h1
          obtain ⟨vs, hv, rv⟩ := L1.at_ (i := 0) rfl
          obtain ⟨L2, e2⟩ := L1.frz (i := 0) rfl hv
          rw [r1.of_at]
          exact q _ _ H1 M2 (.lst ds) (e1.trans e2) L2 (.mk_lst upd_same (rv.mono e2)) h1
        | ins C fs => exact h1.elim
        | dK kvs => exact h1.elim
    | _ => exact h1.elim
/-- tests -/
theorem zt_test {k : Bool → Mem → Prop} (h : ZE c ta Γ M fun d M1 => ∃ b, d = .bl b ∧ k b M1) : ZT c (tTest ta) Γ M k := fun R F σ H Q hs L X q =>
  h R F σ H _ hs L X fun v F1 H1 M1 d e1 L1 r1 ⟨b, e, h1⟩ => by
    subst e
    exact ⟨b, r1.of_bl, q b F1 H1 M1 b e1 L1 rfl h1⟩
theorem zt_B {k : Bool → Mem → Prop} (h : ZE c ta Γ M fun d M1 => ∃ b, d = .bl b ∧ k b M1) : ZT c (tB ta) Γ M k := zt_test h
theorem zt_and {t u : TT} {k : Bool → Mem → Prop} (h : ZT c t Γ M fun b M1 => (b = true → ZT c u Γ M1 k) ∧ (b = false → k false M1)) : ZT c (tAnd t u) Γ M k := fun R F σ H Q hs L X q =>
  h R F σ H _ hs L X fun b F1 H1 M1 b' e1 L1 r1 ⟨h1, h2⟩ => by
    subst r1
    cases b with
    | true => exact h1 rfl R F1 σ H1 Q (hs.mono e1) L1 (X.mono e1) (q.mono e1)
    | false => exact q false F1 H1 M1 false e1 L1 rfl (h2 rfl)
theorem zt_or {t u : TT} {k : Bool → Mem → Prop} (h : ZT c t Γ M fun b M1 => (b = true → k true M1) ∧ (b = false → ZT c u Γ M1 k)) : ZT c (tOr t u) Γ M k := fun R F σ H Q hs L X q =>
  h R F σ H _ hs L X fun b F1 H1 M1 b' e1 L1 r1 ⟨h1, h2⟩ => by
    subst r1
    cases b with
    | false => exact h2 rfl R F1 σ H1 Q (hs.mono e1) L1 (X.mono e1) (q.mono e1)
    | true => exact q true F1 H1 M1 true e1 L1 rfl (h1 rfl)
theorem zt_not {t : TT} {k : Bool → Mem → Prop} (h : ZT c t Γ M fun b M1 => k (!b) M1) : ZT c (tNot t) Γ M k := fun R F σ H Q hs L X q =>
  h R F σ H _ hs L X fun b F1 H1 M1 b' e1 L1 r1 h1 => q (!b) F1 H1 M1 (!b') e1 L1 (by rw [r1]) h1
theorem z_andV (h : ZE c ta Γ M fun d M1 => ∃ b, d = .bl b ∧ (b = true → ZE c tb Γ M1 k) ∧ (b = false → k (.bl false) M1)) : ZE c (tAndV ta tb) Γ M k := fun R F σ H Q hs L X q =>
  h R F σ H _ hs L X fun v F1 H1 M1 d e1 L1 r1 ⟨b, e, h1, h2⟩ => by
    subst e
    refine ⟨b, r1.of_bl, ?_⟩
    cases b with
    | true => exact h1 rfl R F1 σ H1 Q (hs.mono e1) L1 (X.mono e1) (q.mono e1)
    | false => exact q (.bl false) F1 H1 M1 (.bl false) e1 L1 (.bl _) (h2 rfl)
theorem z_orV (h : ZE c ta Γ M fun d M1 => ∃ b, d = .bl b ∧ (b = true → k (.bl true) M1) ∧ (b = false → ZE c tb Γ M1 k)) : ZE c (tOrV ta tb) Γ M k := fun R F σ H Q hs L X q =>
  h R F σ H _ hs L X fun v F1 H1 M1 d e1 L1 r1 ⟨b, e, h1, h2⟩ => by
    subst e
    refine ⟨b, r1.of_bl, ?_⟩
    cases b with
    | false => exact h2 rfl R F1 σ H1 Q (hs.mono e1) L1 (X.mono e1) (q.mono e1)
    | true => exact q (.bl true) F1 H1 M1 (.bl true) e1 L1 (.bl _) (h1 rfl)
theorem z_notV (h : ZE c ta Γ M fun d M1 => ∃ b, d = .bl b ∧ k (.bl (!b)) M1) : ZE c (tNotV ta) Γ M k := fun R F σ H Q hs L X q =>
  h R F σ H _ hs L X fun v F1 H1 M1 d e1 L1 r1 ⟨b, e, h1⟩ => by
    subst e
    exact ⟨b, r1.of_bl, q (.bl (!b)) F1 H1 M1 (.bl (!b)) e1 L1 (.bl _) h1⟩
theorem z_if {t : TT} (h : ZT c t Γ M fun b M1 => (b = true → ZE c ta Γ M1 k) ∧ (b = false → ZE c tb Γ M1 k)) : ZE c (tIf t ta tb) Γ M k := fun R F σ H Q hs L X q =>
  h R F σ H _ hs L X fun b F1 H1 M1 b' e1 L1 r1 ⟨h1, h2⟩ => by
    subst r1
    cases b with
    | true => exact h1 rfl R F1 σ H1 Q (hs.mono e1) L1 (X.mono e1) (q.mono e1)
    | false => exact h2 rfl R F1 σ H1 Q (hs.mono e1) L1 (X.mono e1) (q.mono e1)
/-- targets -/
theorem zg_name {i : Nat} {d : D} {k : Gm → Mem → Prop} (hk : k (Γ.set i (some d)) M) : ZG c (gName i) d Γ M k := fun R F σ H v Q hs L _ r q => q (σ.set i (some v)) F H M (Γ.set i (some d)) (Ex.refl F) L (hs.set i r) hk
theorem zgs_nil {k : Gm → Mem → Prop} (hk : k Γ M) : ZGs c gNil [] Γ M k := fun R F σ H vs Q hs L _ r q => ⟨r.unnil, q σ F H M Γ (Ex.refl F) L hs hk⟩
theorem zgs_cons {g : TG} {gs : TGs} {d : D} {ds : List D} {k : Gm → Mem → Prop} (h : ZG c g d Γ M fun Γ1 M1 => ZGs c gs ds Γ1 M1 k) : ZGs c (gCons g gs) (d :: ds) Γ M k := fun R F σ H vs Q hs L X r q => by
  obtain ⟨v, vs', rfl, r1, r2⟩ := r.uncons
  exact ⟨v, vs', rfl, h R F σ H v _ hs L X r1 fun σ' F1 H1 M1 Γ1 e1 L1 hs1 h1 => h1 R F1 σ' H1 vs' Q hs1 L1 (X.mono e1) (r2.mono e1) (q.mono e1)⟩
theorem zg_tup {gs : TGs} {n : Nat} {ds : List D} {k : Gm → Mem → Prop} (hn : ds.length = n) (h : ZGs c gs ds Γ M k) : ZG c (gTup c.K n gs) (.tup ds) Γ M k := fun R F σ H v Q hs L X r q => by
  obtain ⟨a, vs, rfl, s, rs⟩ := r.of_tup
  exact ⟨a, vs, rfl, ex_t L.fr s, by rw [rs.len]; exact hn, h R F σ H vs Q hs L X rs q⟩
/-- statements -/
theorem zs_nil (h : DD.nx Γ M) : ZS c tNext Γ M DD := fun R F σ H D hs L _ q => q.nx σ F H M Γ (Ex.refl F) L hs h
theorem zs_seq {t u : TS} (h : ZS c t Γ M { DD with nx := fun Γ' M' => ZS c u Γ' M' DD }) : ZS c (tSeq t u) Γ M DD := fun R F σ H D hs L X q =>
  h R F σ H { D with nx := u D } hs L X ⟨fun σ' F1 H1 M1 Γ1 e1 L1 hs1 h1 => h1 R F1 σ' H1 D hs1 L1 (X.mono e1) (q.mono e1), q.rt, q.bk, q.ct⟩
theorem zs_asg {g : TG} (h : ZE c ta Γ M fun d M1 => ZG c g d Γ M1 DD.nx) : ZS c (tAsg ta g) Γ M DD := fun R F σ H D hs L X q =>
  h R F σ H _ hs L X fun v F1 H1 M1 d e1 L1 r1 h1 => h1 R F1 σ H1 v _ (hs.mono e1) L1 (X.mono e1) r1 (q.nx.mono e1)
theorem zs_drop (h : ZE c ta Γ M fun _ M1 => DD.nx Γ M1) : ZS c (tDrop ta) Γ M DD := fun R F σ H D hs L X q =>
  h R F σ H _ hs L X fun v F1 H1 M1 d e1 L1 r1 h1 => q.nx σ F1 H1 M1 Γ e1 L1 (hs.mono e1) h1
theorem zs_ret (h : ZE c ta Γ M DD.rt) : ZS c (tRet ta) Γ M DD := fun R F σ H D hs L X q => h R F σ H _ hs L X q.rt
theorem zs_retN (h : DD.rt .non M) : ZS c tRetN Γ M DD := fun R F σ H D hs L X q => q.rt .non F H M .non (Ex.refl F) L .non h
theorem zs_break (h : DD.bk Γ M) : ZS c tBreak Γ M DD := fun R F σ H D hs L _ q => q.bk σ F H M Γ (Ex.refl F) L hs h
theorem zs_cont (h : DD.ct Γ M) : ZS c tCont Γ M DD := fun R F σ H D hs L _ q => q.ct σ F H M Γ (Ex.refl F) L hs h
theorem zs_if {t : TT} {u w : TS} (h : ZT c t Γ M fun b M1 => (b = true → ZS c u Γ M1 DD) ∧ (b = false → ZS c w Γ M1 DD)) : ZS c (tIfS t u w) Γ M DD := fun R F σ H D hs L X q =>
  h R F σ H _ hs L X fun b F1 H1 M1 b' e1 L1 r1 ⟨h1, h2⟩ => by
    subst r1
    cases b with
    | true => exact h1 rfl R F1 σ H1 D (hs.mono e1) L1 (X.mono e1) (q.mono e1)
    | false => exact h2 rfl R F1 σ H1 D (hs.mono e1) L1 (X.mono e1) (q.mono e1)
theorem ZS.imp {t : TS} {DD' : ZEnds} (h : ZS c t Γ M DD) (n : ∀ Γ' M', DD.nx Γ' M' → DD'.nx Γ' M') (r : ∀ d M', DD.rt d M' → DD'.rt d M') (b : ∀ Γ' M', DD.bk Γ' M' → DD'.bk Γ' M') (ct : ∀ Γ' M', DD.ct Γ' M' → DD'.ct Γ' M') : ZS c t Γ M DD' := fun R F σ H D hs L X q =>
  h R F σ H D hs L X ⟨fun v F' H' M' d e L' rr kk => q.nx v F' H' M' d e L' rr (n _ _ kk), fun v F' H' M' d e L' rr kk => q.rt v F' H' M' d e L' rr (r _ _ kk), fun v F' H' M' d e L' rr kk => q.bk v F' H' M' d e L' rr (b _ _ kk), fun v F' H' M' d e L' rr kk => q.ct v F' H' M' d e L' rr (ct _ _ kk)⟩
/-- a changing list of Mem changes no more: the slot j told as a frozen list -/
theorem zs_frz {t : TS} {i j : Nat} {a : Addr} {ds : List D} (hi : M[i]? = some (a, .lst ds)) (hj : Γ[j]? = some (some (.at a))) (h : ZS c t (Γ.set j (some (.lst ds))) (M.eraseIdx i) DD) : ZS c t Γ M DD := fun R F σ H D hs L X q => by
  have hl : i < M.length := (List.getElem?_eq_some_iff.mp hi).1
  have hi' : (M ++ R)[i]? = some (a, .lst ds) := by rw [List.getElem?_append_left hl]; exact hi
  obtain ⟨vs, hv, rv⟩ := L.at_ hi'
  obtain ⟨L2, e2⟩ := L.frz hi' hv
  rw [List.eraseIdx_append_of_lt_length hl] at L2
  refine h R _ σ H D ((hs.mono e2).weak (by rw [List.length_set]) fun n d hd => ?_) L2 (X.mono e2) (q.mono e2)
  by_cases hn : j = n
  · subst hn
    rw [List.getElem?_set_self (List.getElem?_eq_some_iff.mp hj).1] at hd
    cases hd
    refine ⟨_, hj, fun v hv => ?_⟩
    rw [hv.of_at]
    exact .mk_lst upd_same (rv.mono e2)
  · rw [List.getElem?_set_ne hn] at hd
    exact ⟨d, hd, fun _ h => h⟩
/-- a thing of Mem is forgotten -/
theorem zs_forget {t : TS} {i : Nat} (h : ZS c t Γ (M.eraseIdx i) DD) : ZS c t Γ M DD := fun R F σ H D hs L X q => by
  by_cases hl : i < M.length
  · have L2 := L.drop i
    rw [List.eraseIdx_append_of_lt_length hl] at L2
    exact h R F σ H D hs L2 X q
  · rw [List.eraseIdx_of_length_le (Nat.le_of_not_lt hl)] at h
    exact h R F σ H D hs L X q
/-- while: by a word and a measure -/
theorem zs_while {t : TT} {u : TS} (W : Nat → Gm → Mem → Prop) (m0 : Nat) (h0 : W m0 Γ M)
    (hs : ∀ m Γ1 M1, W m Γ1 M1 → ZT c t Γ1 M1 fun b M2 => (b = true → ZS c u Γ1 M2 { DD with nx := fun Γ' M' => ∃ m', m' < m ∧ W m' Γ' M', ct := fun Γ' M' => ∃ m', m' < m ∧ W m' Γ' M', bk := DD.nx }) ∧ (b = false → DD.nx Γ1 M2)) : ZS c (tWhile t u) Γ M DD := fun R F σ H D hσ L X q => by
  refine ⟨fun m σ' H' => ∃ F' Γ' M', Ex F F' ∧ Has c.K F' σ' Γ' ∧ Lay c.K F' (M' ++ R) H' ∧ W m Γ' M', ⟨m0, F, Γ, M, Ex.refl F, hσ, L, h0⟩, fun m σ' H' ⟨F1, Γ1, M1, e1, hs1, L1, w1⟩ => ?_⟩
  refine hs m Γ1 M1 w1 R F1 σ' H' _ hs1 L1 (X.mono e1) fun b F2 H2 M2 b' e2 L2 r2 ⟨h1, h2⟩ => ?_
  subst r2
  cases b with
  | true =>
    refine ⟨fun σ3 H3 => ∃ m', m' < m ∧ ∃ F' Γ' M', Ex F F' ∧ Has c.K F' σ3 Γ' ∧ Lay c.K F' (M' ++ R) H3 ∧ W m' Γ' M', fun σ3 H3 h => h, ?_⟩
    refine h1 rfl R F2 σ' H2 _ (hs1.mono e2) L2 (X.mono (e1.trans e2)) ⟨fun σ3 F3 H3 M3 Γ3 e3 L3 hs3 ⟨m', hm, w'⟩ => ⟨m', hm, F3, Γ3, M3, (e1.trans e2).trans e3, hs3, L3, w'⟩, q.rt.mono (e1.trans e2), q.nx.mono (e1.trans e2), fun σ3 F3 H3 M3 Γ3 e3 L3 hs3 ⟨m', hm, w'⟩ => ⟨m', hm, F3, Γ3, M3, (e1.trans e2).trans e3, hs3, L3, w'⟩⟩
  | false => exact q.nx σ' F2 H2 M2 Γ1 (e1.trans e2) L2 (hs1.mono e2) (h2 rfl)
/-- for: by a word of the turn -/
def ForK (c : Cz) (g : TG) (tb : TS) (Γ : Gm) (DD : ZEnds) (ds : List D) (M : Mem) : Prop := ∃ I : Nat → Gm → Mem → Prop, I 0 Γ M ∧
  (∀ i d Γ1 M1, ds[i]? = some d → I i Γ1 M1 → ZG c g d Γ1 M1 fun Γ2 M2 => ZS c tb Γ2 M2 { DD with nx := I (i + 1), ct := I (i + 1), bk := DD.nx }) ∧ ∀ Γ1 M1, I ds.length Γ1 M1 → DD.nx Γ1 M1
theorem zs_for {wi : TI} {g : TG} {tb : TS} (h : ZI c wi Γ M (ForK c g tb Γ DD)) : ZS c (tFor wi g tb) Γ M DD := fun R F σ H D hσ L X q => by
  refine h R F σ H _ hσ L X fun J F1 H1 M1 ds e1 L1 wk ⟨I, h0, hs, hd⟩ => ?_
  refine ⟨fun i m σ' H' => m = ds.length - i ∧ i ≤ ds.length ∧ ∃ F' Γ' M', Ex F1 F' ∧ Has c.K F' σ' Γ' ∧ Lay c.K F' (M' ++ R) H' ∧ I i Γ' M', ⟨ds.length, by simp, Nat.zero_le _, F1, Γ, M1, Ex.refl _, hσ.mono e1, L1, h0⟩, ?_⟩
  rintro i m σ' H' ⟨rfl, hi, F2, Γ2, M2, e2, hs2, L2, w2⟩
  obtain ⟨g1, g2, g3⟩ := wk F2 _ H' e2 L2
  by_cases hlt : i < ds.length
  · refine .inr ⟨g1 i hlt, fun σ3 H3 => ∃ F' Γ' M', Ex F1 F' ∧ Has c.K F' σ3 Γ' ∧ Lay c.K F' (M' ++ R) H3 ∧ I (i + 1) Γ' M', fun σ3 H3 z => ⟨ds.length - (i + 1), by omega, rfl, hlt, z⟩, fun x H3 y => ?_⟩
    obtain ⟨F3, e3, L3, r3⟩ := g3 i _ x H3 (List.getElem?_eq_getElem hlt) y
    have e13 : Ex F F3 := (e1.trans e2).trans e3
    refine hs i _ Γ2 M2 (List.getElem?_eq_getElem hlt) w2 R F3 σ' H3 x _ (hs2.mono e3) L3 (X.mono e13) r3 fun σ4 F4 H4 M4 Γ4 e4 L4 hs4 h4 => ?_
    exact h4 R F4 σ4 H4 _ hs4 L4 (X.mono (e13.trans e4)) ⟨fun σ5 F5 H5 M5 Γ5 e5 L5 hs5 w5 => ⟨F5, Γ5, M5, ((e2.trans e3).trans e4).trans e5, hs5, L5, w5⟩, q.rt.mono (e13.trans e4), q.nx.mono (e13.trans e4), fun σ5 F5 H5 M5 Γ5 e5 L5 hs5 w5 => ⟨F5, Γ5, M5, ((e2.trans e3).trans e4).trans e5, hs5, L5, w5⟩⟩
  · have e : i = ds.length := by omega
    subst e
    exact .inl ⟨g2 _ (Nat.le_refl _), q.nx σ' F2 H' M2 Γ2 (e1.trans e2) L2 hs2 (hd _ _ w2)⟩
/-- comprehensions -/
def Own (g : TG) (vs : List Nat) : Prop := ∀ (x : V) (σ : L2.St) (H : Hp) (Q : L2.St → Hp → Prop), g x σ H Q → g x σ H fun σ2 H2 => L2.wipe σ2 vs = L2.wipe σ vs ∧ Q σ2 H2
def Owns (g : TGs) (vs : List Nat) : Prop := ∀ (x : List V) (σ : L2.St) (H : Hp) (Q : L2.St → Hp → Prop), g x σ H Q → g x σ H fun σ2 H2 => L2.wipe σ2 vs = L2.wipe σ vs ∧ Q σ2 H2
theorem wipe_set_mem {σ : L2.St} {j : Nat} {x : Option V} : ∀ {vs : List Nat}, j ∈ vs → L2.wipe (σ.set j x) vs = L2.wipe σ vs
  | [], h => by simp at h
  | v :: vs, h => by
    unfold L2.wipe
    by_cases hv : j = v
    · subst hv
      have e : ∀ (ws : List Nat) (τ : L2.St), (L2.wipe (τ.set j x) ws).set j none = (L2.wipe τ ws).set j none := by
        intro ws
        induction ws with
        | nil =>
          intro τ
          exact List.set_set ..
        | cons w ws ih =>
          intro τ
          unfold L2.wipe
          by_cases hw : w = j
          · subst hw
            rw [ih τ]
          · rw [List.set_comm _ _ hw, ih τ, List.set_comm _ _ hw]
      exact e vs σ
    · rw [wipe_set_mem (vs := vs) ((List.mem_cons.mp h).resolve_left hv)]
theorem own_name {j : Nat} {vs : List Nat} (h : j ∈ vs) : Own (gName j) vs := fun x σ H Q q => ⟨wipe_set_mem h, q⟩
theorem owns_nil {vs : List Nat} : Owns gNil vs := fun x σ H Q ⟨e, q⟩ => ⟨e, rfl, q⟩
theorem owns_cons {g : TG} {gs : TGs} {vs : List Nat} (mono : ∀ (x : V) (σ : L2.St) (H : Hp) (Q Q' : L2.St → Hp → Prop), (∀ a b, Q a b → Q' a b) → g x σ H Q → g x σ H Q') (monos : ∀ (x : List V) (σ : L2.St) (H : Hp) (Q Q' : L2.St → Hp → Prop), (∀ a b, Q a b → Q' a b) → gs x σ H Q → gs x σ H Q') (h : Own g vs) (hs : Owns gs vs) : Owns (gCons g gs) vs := fun x σ H Q ⟨v, r, e, q⟩ => by
  refine ⟨v, r, e, mono _ _ _ _ _ (fun σ1 H1 ⟨e1, q1⟩ => ?_) (h v σ H _ q)⟩
  exact monos _ _ _ _ _ (fun σ2 H2 ⟨e2, q2⟩ => ⟨e2.trans e1, q2⟩) (hs r σ1 H1 Q q1)
theorem mono_name {j : Nat} (x : V) (σ : L2.St) (H : Hp) (Q Q' : L2.St → Hp → Prop) (i : ∀ a b, Q a b → Q' a b) (h : gName j x σ H Q) : gName j x σ H Q' := i _ _ h
theorem mono_nil (x : List V) (σ : L2.St) (H : Hp) (Q Q' : L2.St → Hp → Prop) (i : ∀ a b, Q a b → Q' a b) (h : gNil x σ H Q) : gNil x σ H Q' := ⟨h.1, i _ _ h.2⟩
theorem mono_cons {g : TG} {gs : TGs} (mono : ∀ (x : V) (σ : L2.St) (H : Hp) (Q Q' : L2.St → Hp → Prop), (∀ a b, Q a b → Q' a b) → g x σ H Q → g x σ H Q') (monos : ∀ (x : List V) (σ : L2.St) (H : Hp) (Q Q' : L2.St → Hp → Prop), (∀ a b, Q a b → Q' a b) → gs x σ H Q → gs x σ H Q')
    (x : List V) (σ : L2.St) (H : Hp) (Q Q' : L2.St → Hp → Prop) (i : ∀ a b, Q a b → Q' a b) (h : gCons g gs x σ H Q) : gCons g gs x σ H Q' := by
  obtain ⟨v, r, e, q⟩ := h
  exact ⟨v, r, e, mono _ _ _ _ _ (fun σ1 H1 q1 => monos _ _ _ _ _ i q1) q⟩
theorem mono_tup {K : Fg} {n : Nat} {gs : TGs} (monos : ∀ (x : List V) (σ : L2.St) (H : Hp) (Q Q' : L2.St → Hp → Prop), (∀ a b, Q a b → Q' a b) → gs x σ H Q → gs x σ H Q') (x : V) (σ : L2.St) (H : Hp) (Q Q' : L2.St → Hp → Prop) (i : ∀ a b, Q a b → Q' a b) (h : gTup K n gs x σ H Q) : gTup K n gs x σ H Q' := by
  obtain ⟨a, xs, e, s, hl, q⟩ := h
  exact ⟨a, xs, e, s, hl, monos _ _ _ _ _ i q⟩
theorem own_tup {K : Fg} {n : Nat} {gs : TGs} {vs : List Nat} (hs : Owns gs vs) : Own (gTup K n gs) vs := fun x σ H Q ⟨a, xs, e, s, hl, q⟩ => ⟨a, xs, e, s, hl, hs xs σ H Q q⟩
def LcK (c : Cz) (g : TG) (tt : TT) (te : TE) (vs : List Nat) (Γ : Gm) (k : List D → Mem → Prop) (ds : List D) (M : Mem) : Prop := ds.length ≤ sizeLine ∧ ∃ I : Nat → List D → Mem → Prop, I 0 [] M ∧
  (∀ i d acc M1, ds[i]? = some d → acc.length ≤ i → I i acc M1 → ZG c g d (zwipe Γ vs) M1 fun Γ2 M2 => ZT c tt Γ2 M2 fun b M3 => (b = true → ZE c te Γ2 M3 fun y M4 => I (i + 1) (acc ++ [y]) M4) ∧ (b = false → I (i + 1) acc M3)) ∧ ∀ acc M1, I ds.length acc M1 → k acc M1
/-- what a block's exceptions may be: none -/
abbrev Cz.blk (c : Cz) : Cz := ⟨c.K, fun _ _ _ _ => False, fun _ _ _ _ => False⟩
theorem xok_blk {R : Mem} {F : Hp} : XOk c.blk R F := fun _ _ _ _ _ _ _ _ _ _ _ _ h => h
theorem wipe_wipe {σ : L2.St} {vs : List Nat} : L2.wipe (L2.wipe σ vs) vs = L2.wipe σ vs := by
  have : ∀ (us : List Nat) (τ : L2.St), (∀ u ∈ us, ∀ z, τ[u]? = some z → z = none) → L2.wipe τ us = τ := by
    intro us
    induction us with
    | nil => intro τ _; rfl
    | cons u us ih =>
      intro τ ht
      unfold L2.wipe
      rw [ih τ fun v hv => ht v (List.mem_cons_of_mem _ hv)]
      apply List.ext_getElem?
      intro n
      by_cases hn : u = n
      · subst hn
        by_cases hl : u < τ.length
        · rw [List.getElem?_set_self hl]
          have := ht u List.mem_cons_self τ[u] (List.getElem?_eq_getElem hl)
          rw [List.getElem?_eq_getElem hl, this]
        · rw [List.getElem?_eq_none (by rw [List.length_set]; omega), List.getElem?_eq_none (by omega)]
      · rw [List.getElem?_set_ne hn]
  refine this vs _ fun u hu z hz => ?_
  cases z with
  | none => rfl
  | some y => exact absurd hu (L2.wipe_some hz).2
theorem lc_gen {wi : TI} {g : TG} {tt : TT} {te : TE} {vs : List Nat} {k : List D → Mem → Prop} {R : Mem} {F : Hp} {σ : L2.St} {H : Hp} {Q : VK} (ho : Own g vs) (h : ZI c wi Γ M (LcK c.blk g tt te vs Γ k)) (hσ : Has c.K F σ Γ) (L : Lay c.K F (M ++ R) H) (X : XOk c R F)
    (q : ∀ p ws F' H' M' ds, Ex F F' → Lay c.K F' (M' ++ (p, .lst ds) :: R) H' → H' p = some (.lst ws) → Rps c.K F' ws ds → k ds M' → Q (.ref p) H') : tLc wi g tt te vs σ H Q := by
  refine h R F σ H _ hσ L X fun J F1 H1 M1 ds e1 L1 wk ⟨hz, I, h0, hs, hd⟩ => ?_
  intro p hp
  refine ⟨fun i m H' => m = ds.length - i ∧ i ≤ ds.length ∧ ∃ F' M' acc, acc.length ≤ i ∧ Ex F1 F' ∧ Lay c.K F' (M' ++ (p, .lst acc) :: R) H' ∧ I i acc M', ⟨ds.length, by simp, Nat.zero_le _, F1, M1, [], Nat.le_refl _, Ex.refl _, ?_, h0⟩, ?_⟩
  · have L2 := L1.newM hp (o := .lst []) (mo := .lst []) ⟨[], upd_same, .nil⟩
    refine ⟨L2.fr, ?_, fun r hr => L2.ap r ?_, fun r hr => L2.mu r ?_⟩
    · have e : List.Perm (M1 ++ (p, MO.lst []) :: R) ((p, MO.lst []) :: (M1 ++ R)) := List.perm_middle
      exact ((e.map (·.1)).nodup_iff).mpr L2.nd
    · rcases List.mem_append.mp hr with hr | hr
      · exact List.mem_cons_of_mem _ (List.mem_append_left _ hr)
      · rcases List.mem_cons.mp hr with rfl | hr
        · exact List.mem_cons_self
        · exact List.mem_cons_of_mem _ (List.mem_append_right _ hr)
    · rcases List.mem_append.mp hr with hr | hr
      · exact List.mem_cons_of_mem _ (List.mem_append_left _ hr)
      · rcases List.mem_cons.mp hr with rfl | hr
        · exact List.mem_cons_self
        · exact List.mem_cons_of_mem _ (List.mem_append_right _ hr)
  · rintro i m H' ⟨rfl, hi, F2, M2, acc, hacc, e2, Lb, w2⟩
    obtain ⟨g1, g2, g3⟩ := wk F2 _ H' e2 Lb
    by_cases hlt : i < ds.length
    · refine .inr ⟨g1 i hlt, fun H3 => ∃ F' M' acc, acc.length ≤ i + 1 ∧ Ex F1 F' ∧ Lay c.K F' (M' ++ (p, .lst acc) :: R) H3 ∧ I (i + 1) acc M', fun H3 z => ⟨ds.length - (i + 1), by omega, rfl, hlt, z⟩, fun x H3 y => ?_⟩
      obtain ⟨F3, e3, L3, r3⟩ := g3 i _ x H3 (List.getElem?_eq_getElem hlt) y
      have e13 : Ex F F3 := (e1.trans e2).trans e3
      have z : g x (L2.wipe σ vs) H3 (fun σ2 H2 => tt σ2 H2 fun b H3 => if b = true then te σ2 H3 fun y H4 => ∃ acc, H4 p = some (.lst acc) ∧ acc.length < sizeLine ∧ ∃ F' M' acc', acc'.length ≤ i + 1 ∧ Ex F1 F' ∧ Lay c.K F' (M' ++ (p, .lst acc') :: R) (upd H4 p (.lst (acc ++ [y]))) ∧ I (i + 1) acc' M' else ∃ F' M' acc, acc.length ≤ i + 1 ∧ Ex F1 F' ∧ Lay c.K F' (M' ++ (p, .lst acc) :: R) H3 ∧ I (i + 1) acc M') := by
        refine hs i _ acc M2 (List.getElem?_eq_getElem hlt) hacc w2 ((p, .lst acc) :: R) F3 (L2.wipe σ vs) H3 x _ ((hσ.mono e13).wipe vs) L3 xok_blk r3 fun σ4 F4 H4 M4 Γ4 e4 L4 hs4 h4 => ?_
        refine h4 ((p, .lst acc) :: R) F4 σ4 H4 _ hs4 L4 xok_blk fun b F5 H5 M5 b' e5 L5 r5 ⟨h5, h6⟩ => ?_
        subst r5
        cases b with
        | true =>
          refine h5 rfl ((p, .lst acc) :: R) F5 σ4 H5 _ (hs4.mono e5) L5 xok_blk fun y F6 H6 M6 d6 e6 L6 r6 w6 => ?_
          have hat : (M6 ++ (p, MO.lst acc) :: R)[M6.length]? = some (p, .lst acc) := by
            rw [List.getElem?_append_right (Nat.le_refl _), Nat.sub_self]
            rfl
          obtain ⟨ws, hw, rw_⟩ := L6.at_ hat
          refine ⟨ws, hw, by rw [rw_.len]; omega, F6, M6, acc ++ [d6], by rw [List.length_append]; exact Nat.succ_le_succ hacc, (((e2.trans e3).trans e4).trans e5).trans e6, ?_, w6⟩
          have L7 := L6.set (o := .lst (ws ++ [y])) (mo' := .lst (acc ++ [d6])) hat ⟨_, upd_same, rw_.append (.one r6)⟩
          rw [List.set_append_right _ _ (Nat.le_refl _), Nat.sub_self] at L7
          exact L7
        | false => exact ⟨F5, M5, acc, Nat.le_succ_of_le hacc, ((e2.trans e3).trans e4).trans e5, L5, h6 rfl⟩
      have z2 := ho x _ H3 _ z
      rw [wipe_wipe] at z2
      exact z2
    · have e : i = ds.length := by omega
      subst e
      have hat : (M2 ++ (p, MO.lst acc) :: R)[M2.length]? = some (p, .lst acc) := by
        rw [List.getElem?_append_right (Nat.le_refl _), Nat.sub_self]
        rfl
      obtain ⟨ws, hw, rw_⟩ := Lb.at_ hat
      exact .inl ⟨g2 _ (Nat.le_refl _), q p ws F2 H' M2 acc (e1.trans e2) Lb hw rw_ (hd _ _ w2)⟩
end
end Z
set_option Elab.async false
set_option linter.all false
set_option maxRecDepth 100000
set_option maxHeartbeats 4000000
/-! ZRules: rules for operators, calls, sequences over ZBase. p_..: a rule of the hand layer with a reading of one name; z.., zr_.., zc_..: what such a reading asks of data. -/
namespace Z
open PySem PySem.Spec PyProof.Rows L2
variable {c : Cz}
/-! ### sequences -/
inductive Sf : D → List D → Prop
  | tup {ds} : Sf (.tup ds) ds
  | lst {ds} : Sf (.lst ds) ds
  | scr {ds} : Sf (.scr ds) ds
inductive Sq (M : Mem) : D → List D → Prop
  | tup {ds} : Sq M (.tup ds) ds
  | lst {ds} : Sq M (.lst ds) ds
  | scr {ds} : Sq M (.scr ds) ds
  | «at» {a : Addr} {ds} (i : Nat) (h : M[i]? = some (a, .lst ds)) : Sq M (.at a) ds
section
variable {K : Fg} {F H : Hp} {M R : Mem} {v : V} {d : D} {ds : List D}
theorem Lay.memAt {i : Nat} {a : Addr} {mo : MO} (L : Lay K F (M ++ R) H) (h : M[i]? = some (a, mo)) : MoOk K F H a mo := L.at_ (i := i) (by rw [List.getElem?_append_left (List.getElem?_eq_some_iff.mp h).1]; exact h)
theorem Lay.memSet {i : Nat} {a : Addr} {mo mo' : MO} {o : HO} (L : Lay K F (M ++ R) H) (h : M[i]? = some (a, mo)) (m : MoOk K F (upd H a o) a mo') : Lay K F (M.set i (a, mo') ++ R) (upd H a o) := by
  have hl : i < M.length := (List.getElem?_eq_some_iff.mp h).1
  have x := L.set (i := i) (by rw [List.getElem?_append_left hl]; exact h) m
  rw [List.set_append_left _ _ hl] at x
  exact x
theorem Sq.read (s : Sq M d ds) (L : Lay K F (M ++ R) H) (r : Rp K F v d) : ∃ a vs, v = .ref a ∧ (SqL K H a vs ∨ SqT K H a vs) ∧ Rps K F vs ds := by
  cases s with
  | tup =>
    obtain ⟨a, vs, e, h, q⟩ := r.of_tup
    exact ⟨a, vs, e, .inr (ex_t L.fr h), q⟩
  | lst =>
    obtain ⟨a, vs, e, h, q⟩ := r.of_lst
    exact ⟨a, vs, e, .inl (SqL.of (L.fr _ _ h)), q⟩
  | scr =>
    obtain ⟨a, vs, e, h, q⟩ := r.of_scr
    exact ⟨a, vs, e, .inl (ex_l L.fr h), q⟩
  | «at» i h =>
    obtain ⟨vs, e, q⟩ := L.memAt h
    exact ⟨_, vs, r.of_at, .inl (SqL.of e), q⟩
theorem Rps.atI {vs : List V} {i : Int} {e : D} (r : Rps K F vs ds) (h : L2.atI ds i = some e) : ∃ x, L2.atI vs i = some x ∧ Rp K F x e := by
  unfold L2.atI at h ⊢
  rw [r.len]
  cases q : L2.ixN ds.length i with
  | none =>
    rw [q] at h
    cases h
  | some j =>
    rw [q] at h
    exact r.get (show ds[j]? = some e from h)
end
/-- a list, however it stands -/
inductive Sl (M : Mem) : D → List D → Prop
  | lst {ds} : Sl M (.lst ds) ds
  | scr {ds} : Sl M (.scr ds) ds
  | «at» {a : Addr} {ds} (i : Nat) (h : M[i]? = some (a, .lst ds)) : Sl M (.at a) ds
theorem Sl.read {K : Fg} {F H : Hp} {M R : Mem} {v : V} {d : D} {ds : List D} (s : Sl M d ds) (L : Lay K F (M ++ R) H) (r : Rp K F v d) : ∃ a vs, v = .ref a ∧ SqL K H a vs ∧ Rps K F vs ds := by
  cases s with
  | lst =>
    obtain ⟨a, vs, e, h, q⟩ := r.of_lst
    exact ⟨a, vs, e, SqL.of (L.fr _ _ h), q⟩
  | scr =>
    obtain ⟨a, vs, e, h, q⟩ := r.of_scr
    exact ⟨a, vs, e, ex_l L.fr h, q⟩
  | «at» i h =>
    obtain ⟨vs, e, q⟩ := L.memAt h
    exact ⟨_, vs, r.of_at, SqL.of e, q⟩
/-! ### integers -/
def MulOk (i j : Int) : Prop := IntMulOk i j
theorem MulOk.of {i j : Int} (h : i.natAbs.log2 + j.natAbs.log2 < 1000000) : MulOk i j := CMulW.ok h
theorem bits_small {i : Int} (h : i.natAbs < 2 ^ 64) : Builtin.Int.intBits i ≤ 64 := by
  unfold Builtin.Int.intBits
  split
  · omega
  · rename_i h0
    have : i.natAbs.log2 < 64 := (Nat.log2_lt (by intro e; apply h0; simp [Int.natAbs_eq_zero.mp e])).mpr h
    omega
theorem MulOk.left {i j : Int} (h : i.natAbs < 2 ^ 64) : MulOk i j := IntMulOk.of_left (bits_small h)
theorem MulOk.right {i j : Int} (h : j.natAbs < 2 ^ 64) : MulOk i j := IntMulOk.of_right (bits_small h)
def DivOk (i j : Int) : Prop := j ≠ 0 ∧ Builtin.divisionGoesByPylong i j = false
section
variable {X : Cx}
theorem op_mulZ : OpR X (binaryOp .Mult) (rI MulOk fun i j => .int (i * j)) := opI fun _ _ _ _ _ _ _ hc q => mul_int q hc
theorem op_fdivZ : OpR X (binaryOp .FloorDiv) (rI DivOk fun i j => .int (i.fdiv j)) := opI fun _ _ _ _ _ _ _ hc q => floordiv_int hc.1 q (.inl hc.2)
end
def rAddS : R2 := fun x y H Q => ∃ i j, x = .str i ∧ y = .str j ∧ i.length + j.length ≤ sizeLine ∧ Q (.str (i ++ j)) H
def rAddZ (K : Fg) : R2 := fun x y H Q => rI0 (fun i j => .int (i + j)) x y H Q ∨ rCatA K x y H Q ∨ rCat x y H Q ∨ rAddS x y H Q
def rSubZ : R2 := rI0 fun i j => .int (i - j)
def rMulZ : R2 := fun x y H Q => rI MulOk (fun i j => .int (i * j)) x y H Q ∨ rRep x y H Q
def rModZ : R2 := rI (fun _ j => 0 < j) fun i j => .int (i % j)
def rDivZ : R2 := rI DivOk fun i j => .int (i.fdiv j)
def rPowZ : R2 := rI CPow fun i j => .int (i ^ j.toNat)
def rLtZ : R2 := rI0 fun i j => .bl (decide (i < j))
def rLeZ : R2 := rI0 fun i j => .bl (decide (i ≤ j))
def rGtZ : R2 := rI0 fun i j => .bl (decide (j < i))
def rGeZ : R2 := rI0 fun i j => .bl (decide (j ≤ i))
def rEqZ (K : Fg) : R2 := fun x y H Q => rEq x y H Q ∨ rEqD K x y H Q
def rNeZ (K : Fg) : R2 := fun x y H Q => rNe x y H Q ∨ rNeD K x y H Q
def rIsNZ : R2 := fun x y H Q => y = .non ∧ Q (.bl (decide (x = .non))) H
def rNotNZ : R2 := fun x y H Q => y = .non ∧ Q (.bl (!decide (x = .non))) H
def uNegZ : V → Hp → VK → Prop := rU fun i => .int (-i)
section
variable {X : Cx} {a b : Expr} {ta tb : TE} {pos : Pos}
theorem p_add (ha : PE X a ta) (hb : PE X b tb) : PE X (.BinOp a .Add b pos) (tOp (rAddZ X.K) ta tb) := pe_op (op_add.or (op_catA.or (op_cat.or op_add_str))) ha hb
theorem p_sub (ha : PE X a ta) (hb : PE X b tb) : PE X (.BinOp a .Sub b pos) (tOp rSubZ ta tb) := pe_op op_sub ha hb
theorem p_mul (ha : PE X a ta) (hb : PE X b tb) : PE X (.BinOp a .Mult b pos) (tOp rMulZ ta tb) := pe_op (op_mulZ.or op_rep) ha hb
theorem p_mod (ha : PE X a ta) (hb : PE X b tb) : PE X (.BinOp a .Mod b pos) (tOp rModZ ta tb) := pe_op op_mod ha hb
theorem p_fdiv (ha : PE X a ta) (hb : PE X b tb) : PE X (.BinOp a .FloorDiv b pos) (tOp rDivZ ta tb) := pe_op op_fdivZ ha hb
theorem p_pow (ha : PE X a ta) (hb : PE X b tb) : PE X (.BinOp a .Pow b pos) (tOp rPowZ ta tb) := pe_op op_pow ha hb
theorem p_neg (ha : PE X a ta) : PE X (.UnaryOp .USub a pos) (tUn uNegZ ta) := pe_un un_neg ha
theorem p_lt (ha : PE X a ta) (hb : PE X b tb) : PE X (.Compare a [.Lt] [b] pos) (tOp rLtZ ta tb) := pe_cmpR op_lt ha hb (nomark _)
theorem p_le (ha : PE X a ta) (hb : PE X b tb) : PE X (.Compare a [.LtE] [b] pos) (tOp rLeZ ta tb) := pe_cmpR op_le ha hb (nomark _)
theorem p_gt (ha : PE X a ta) (hb : PE X b tb) : PE X (.Compare a [.Gt] [b] pos) (tOp rGtZ ta tb) := pe_cmpR op_gt ha hb (nomark _)
theorem p_ge (ha : PE X a ta) (hb : PE X b tb) : PE X (.Compare a [.GtE] [b] pos) (tOp rGeZ ta tb) := pe_cmpR op_ge ha hb (nomark _)
theorem p_eq (hu : X.A.units + 64 < cLine) (ha : PE X a ta) (hb : PE X b tb) : PE X (.Compare a [.Eq] [b] pos) (tOp (rEqZ X.K) ta tb) := pe_cmpR (op_eq.or (op_eqD hu)) ha hb (nomark _)
theorem p_ne (hu : X.A.units + 64 < cLine) (ha : PE X a ta) (hb : PE X b tb) : PE X (.Compare a [.NotEq] [b] pos) (tOp (rNeZ X.K) ta tb) := pe_cmpR (op_ne.or (op_neD hu)) ha hb (nomark _)
theorem p_isN (ha : PE X a ta) (hb : PE X b tb) : PE X (.Compare a [.Is] [b] pos) (tOp rIsNZ ta tb) := pe_cmpR op_isN ha hb (nomark _)
theorem p_notN (ha : PE X a ta) (hb : PE X b tb) : PE X (.Compare a [.IsNot] [b] pos) (tOp rNotNZ ta tb) := pe_cmpR op_notN ha hb (nomark _)
/-- the same as tests -/
theorem q_lt (ha : PE X a ta) (hb : PE X b tb) : PT X (.Compare a [.Lt] [b] pos) (tTest (tOp rLtZ ta tb)) := pt_cmpR op_lt ha hb (nomark _)
theorem q_le (ha : PE X a ta) (hb : PE X b tb) : PT X (.Compare a [.LtE] [b] pos) (tTest (tOp rLeZ ta tb)) := pt_cmpR op_le ha hb (nomark _)
theorem q_gt (ha : PE X a ta) (hb : PE X b tb) : PT X (.Compare a [.Gt] [b] pos) (tTest (tOp rGtZ ta tb)) := pt_cmpR op_gt ha hb (nomark _)
theorem q_ge (ha : PE X a ta) (hb : PE X b tb) : PT X (.Compare a [.GtE] [b] pos) (tTest (tOp rGeZ ta tb)) := pt_cmpR op_ge ha hb (nomark _)
theorem q_eq (hu : X.A.units + 64 < cLine) (ha : PE X a ta) (hb : PE X b tb) : PT X (.Compare a [.Eq] [b] pos) (tTest (tOp (rEqZ X.K) ta tb)) := pt_cmpR (op_eq.or (op_eqD hu)) ha hb (nomark _)
theorem q_ne (hu : X.A.units + 64 < cLine) (ha : PE X a ta) (hb : PE X b tb) : PT X (.Compare a [.NotEq] [b] pos) (tTest (tOp (rNeZ X.K) ta tb)) := pt_cmpR (op_ne.or (op_neD hu)) ha hb (nomark _)
theorem q_isN (ha : PE X a ta) (hb : PE X b tb) : PT X (.Compare a [.Is] [b] pos) (tTest (tOp rIsNZ ta tb)) := pt_cmpR op_isN ha hb (nomark _)
theorem q_notN (ha : PE X a ta) (hb : PE X b tb) : PT X (.Compare a [.IsNot] [b] pos) (tTest (tOp rNotNZ ta tb)) := pt_cmpR op_notN ha hb (nomark _)
theorem p_mk {e : Expr} {t : TE} (h : PE X e t) : PE X e (mk t) := h
theorem p_fz {e : Expr} {t : TE} (h : PE X e t) : PE X e (fz t) := h
end
section
variable {M : Mem} {k : D → Mem → Prop} {i j : Int}
theorem zr_I0 {g : Int → Int → Int} (h : k (.int (g i j)) M) : ZR c (rI0 fun i j => .int (g i j)) (.int i) (.int j) M k := fun R F H v w Q L r1 r2 q => ⟨i, j, r1.of_int, r2.of_int, q _ F H M _ (Ex.refl F) L (.int _) h⟩
theorem zr_I {C : Int → Int → Prop} {g : Int → Int → Int} (hc : C i j) (h : k (.int (g i j)) M) : ZR c (rI C fun i j => .int (g i j)) (.int i) (.int j) M k := fun R F H v w Q L r1 r2 q => ⟨i, j, r1.of_int, r2.of_int, hc, q _ F H M _ (Ex.refl F) L (.int _) h⟩
theorem zr_B0 {g : Int → Int → Bool} (h : k (.bl (g i j)) M) : ZR c (rI0 fun i j => .bl (g i j)) (.int i) (.int j) M k := fun R F H v w Q L r1 r2 q => ⟨i, j, r1.of_int, r2.of_int, q _ F H M _ (Ex.refl F) L (.bl _) h⟩
theorem zr_addI (h : k (.int (i + j)) M) : ZR c (rAddZ c.K) (.int i) (.int j) M k := fun R F H v w Q L r1 r2 q => .inl (zr_I0 (c := c) (g := fun i j => i + j) h R F H v w Q L r1 r2 q)
theorem zr_sub (h : k (.int (i - j)) M) : ZR c rSubZ (.int i) (.int j) M k := zr_I0 (g := fun i j => i - j) h
theorem zr_mulI (hc : MulOk i j) (h : k (.int (i * j)) M) : ZR c rMulZ (.int i) (.int j) M k := fun R F H v w Q L r1 r2 q => .inl (zr_I (c := c) (C := MulOk) (g := fun i j => i * j) hc h R F H v w Q L r1 r2 q)
theorem zr_mod (hc : 0 < j) (h : k (.int (i % j)) M) : ZR c rModZ (.int i) (.int j) M k := zr_I (C := fun _ j => 0 < j) (g := fun i j => i % j) hc h
theorem zr_div (hc : DivOk i j) (h : k (.int (i.fdiv j)) M) : ZR c rDivZ (.int i) (.int j) M k := zr_I (C := DivOk) (g := fun i j => i.fdiv j) hc h
theorem zr_divP (h0 : 0 < j) (hc : Builtin.divisionGoesByPylong i j = false) (h : k (.int (i / j)) M) : ZR c rDivZ (.int i) (.int j) M k := zr_div ⟨by omega, hc⟩ (by rw [Int.fdiv_eq_ediv_of_nonneg i (by omega)]; exact h)
theorem zr_pow (hc : CPow i j) (h : k (.int (i ^ j.toNat)) M) : ZR c rPowZ (.int i) (.int j) M k := zr_I (C := CPow) (g := fun i j => i ^ j.toNat) hc h
theorem zr_lt (h : k (.bl (decide (i < j))) M) : ZR c rLtZ (.int i) (.int j) M k := zr_B0 (g := fun i j => decide (i < j)) h
theorem zr_le (h : k (.bl (decide (i ≤ j))) M) : ZR c rLeZ (.int i) (.int j) M k := zr_B0 (g := fun i j => decide (i ≤ j)) h
theorem zr_gt (h : k (.bl (decide (j < i))) M) : ZR c rGtZ (.int i) (.int j) M k := zr_B0 (g := fun i j => decide (j < i)) h
theorem zr_ge (h : k (.bl (decide (j ≤ i))) M) : ZR c rGeZ (.int i) (.int j) M k := zr_B0 (g := fun i j => decide (j ≤ i)) h
theorem zu_neg (h : k (.int (-i)) M) : ZU c uNegZ (.int i) M k := fun R F H v Q L r1 q => ⟨i, r1.of_int, q _ F H M _ (Ex.refl F) L (.int _) h⟩
/-- == of scalars -/
theorem zr_eqI (h : k (.bl (decide (i = j))) M) : ZR c (rEqZ c.K) (.int i) (.int j) M k := fun R F H v w Q L r1 r2 q => .inl (by
  rw [r1.of_int, r2.of_int]
  refine ⟨rfl, q _ F H M (.bl (decide (i = j))) (Ex.refl F) L ?_ h⟩
  rw [show decide (V.int i = V.int j) = decide (i = j) by simp]
  exact .bl _)
theorem zr_neI (h : k (.bl (!decide (i = j))) M) : ZR c (rNeZ c.K) (.int i) (.int j) M k := fun R F H v w Q L r1 r2 q => .inl (by
  rw [r1.of_int, r2.of_int]
  refine ⟨rfl, q _ F H M (.bl (!decide (i = j))) (Ex.refl F) L ?_ h⟩
  rw [show decide (V.int i = V.int j) = decide (i = j) by simp]
  exact .bl _)
theorem zr_eqB {i j : Bool} (h : k (.bl (decide (i = j))) M) : ZR c (rEqZ c.K) (.bl i) (.bl j) M k := fun R F H v w Q L r1 r2 q => .inl (by
  rw [r1.of_bl, r2.of_bl]
  refine ⟨rfl, q _ F H M (.bl (decide (i = j))) (Ex.refl F) L ?_ h⟩
  rw [show decide (V.bl i = V.bl j) = decide (i = j) by simp]
  exact .bl _)
theorem zr_neB {i j : Bool} (h : k (.bl (!decide (i = j))) M) : ZR c (rNeZ c.K) (.bl i) (.bl j) M k := fun R F H v w Q L r1 r2 q => .inl (by
  rw [r1.of_bl, r2.of_bl]
  refine ⟨rfl, q _ F H M (.bl (!decide (i = j))) (Ex.refl F) L ?_ h⟩
  rw [show decide (V.bl i = V.bl j) = decide (i = j) by simp]
  exact .bl _)
theorem zr_eqS {i j : Str} (h : k (.bl (decide (i = j))) M) : ZR c (rEqZ c.K) (.str i) (.str j) M k := fun R F H v w Q L r1 r2 q => .inl (by
  rw [r1.of_str, r2.of_str]
  refine ⟨rfl, q _ F H M (.bl (decide (i = j))) (Ex.refl F) L ?_ h⟩
  rw [show decide (V.str i = V.str j) = decide (i = j) by simp]
  exact .bl _)
theorem zr_neS {i j : Str} (h : k (.bl (!decide (i = j))) M) : ZR c (rNeZ c.K) (.str i) (.str j) M k := fun R F H v w Q L r1 r2 q => .inl (by
  rw [r1.of_str, r2.of_str]
  refine ⟨rfl, q _ F H M (.bl (!decide (i = j))) (Ex.refl F) L ?_ h⟩
  rw [show decide (V.str i = V.str j) = decide (i = j) by simp]
  exact .bl _)
def isNon : D → Bool
  | .non => true
  | _ => false
theorem non_iff {K : Fg} {F : Hp} {v : V} {d : D} (r : Rp K F v d) : decide (v = .non) = isNon d := by
  cases r <;> simp [isNon]
theorem zr_isN {d : D} (h : k (.bl (isNon d)) M) : ZR c rIsNZ d .non M k := fun R F H v w Q L r1 r2 q => ⟨r2.of_non, by
  rw [non_iff r1]
  exact q _ F H M _ (Ex.refl F) L (.bl _) h⟩
theorem zr_notN {d : D} (h : k (.bl (!isNon d)) M) : ZR c rNotNZ d .non M k := fun R F H v w Q L r1 r2 q => ⟨r2.of_non, by
  rw [non_iff r1]
  exact q _ F H M _ (Ex.refl F) L (.bl _) h⟩
/-- + of tuples, lists, texts -/
theorem zr_addT {xs ys : List D} (hl : xs.length + ys.length ≤ sizeLine) (h : k (.tup (xs ++ ys)) M) : ZR c (rAddZ c.K) (.tup xs) (.tup ys) M k := fun R F H v w Q L r1 r2 q => .inr (.inl (by
  obtain ⟨a, vs, rfl, s1, p1⟩ := r1.of_tup
  obtain ⟨b, ws, rfl, s2, p2⟩ := r2.of_tup
  refine ⟨a, b, vs, ws, rfl, rfl, ex_t L.fr s1, ex_t L.fr s2, by rw [p1.len, p2.len]; exact hl, fun e => ?_, fun e e2 => ?_, fun e e2 p hp => ?_⟩
  · have e' : xs = [] := List.eq_nil_of_length_eq_zero (by rw [← p1.len, e]; rfl)
    subst e'
    exact q _ F H M (.tup ys) (Ex.refl F) L (.mk_tup s2 p2) h
  · have e' : ys = [] := List.eq_nil_of_length_eq_zero (by rw [← p2.len, e2]; rfl)
    subst e'
    rw [List.append_nil] at h
    exact q _ F H M (.tup xs) (Ex.refl F) L (.mk_tup s1 p1) h
  · exact q _ _ _ M (.tup (xs ++ ys)) (ex_upd (L.free hp)) (L.new hp) (.mk_tup (SqT.of upd_same) ((p1.append p2).mono (ex_upd (L.free hp)))) h))
inductive St (M : Mem) : D → List D → Prop
  | lst {ds} : St M (.lst ds) ds
  | «at» {a : Addr} {ds} (i : Nat) (h : M[i]? = some (a, .lst ds)) : St M (.at a) ds
theorem St.read {K : Fg} {F H : Hp} {M R : Mem} {v : V} {d : D} {ds : List D} (s : St M d ds) (L : Lay K F (M ++ R) H) (r : Rp K F v d) : ∃ a vs, v = .ref a ∧ H a = some (.lst vs) ∧ Rps K F vs ds := by
  cases s with
  | lst =>
    obtain ⟨a, vs, e, h, q⟩ := r.of_lst
    exact ⟨a, vs, e, L.fr _ _ h, q⟩
  | «at» i h =>
    obtain ⟨vs, e, q⟩ := L.memAt h
    exact ⟨_, vs, r.of_at, e, q⟩
theorem zr_addL {x y : D} {xs ys : List D} (s1 : St M x xs) (s2 : St M y ys) (hl : xs.length + ys.length ≤ sizeLine) (h : k (.lst (xs ++ ys)) M) : ZR c (rAddZ c.K) x y M k := fun R F H v w Q L r1 r2 q => .inr (.inr (.inl (by
  obtain ⟨a, vs, rfl, e1, p1⟩ := s1.read L r1
  obtain ⟨b, ws, rfl, e2, p2⟩ := s2.read L r2
  exact ⟨a, b, vs, ws, rfl, rfl, e1, e2, by rw [p1.len, p2.len]; exact hl, fun p hp => q _ _ _ M (.lst (xs ++ ys)) (ex_upd (L.free hp)) (L.new hp) (.mk_lst upd_same ((p1.append p2).mono (ex_upd (L.free hp)))) h⟩)))
theorem zr_addS {x y : Str} (hl : x.length + y.length ≤ sizeLine) (h : k (.str (x ++ y)) M) : ZR c (rAddZ c.K) (.str x) (.str y) M k := fun R F H v w Q L r1 r2 q => .inr (.inr (.inr ⟨x, y, r1.of_str, r2.of_str, hl, q _ F H M _ (Ex.refl F) L (.str _) h⟩))
theorem Rps.rep {K : Fg} {F : Hp} {vs : List V} {ds : List D} (r : Rps K F vs ds) : ∀ n : Nat, Rps K F (List.replicate n vs).flatten (List.replicate n ds).flatten
  | 0 => .nil
  | n + 1 => by
    rw [List.replicate_succ, List.replicate_succ, List.flatten_cons, List.flatten_cons]
    exact r.append (r.rep n)
/-- list * int -/
theorem zr_repL {x : D} {xs : List D} {n : Int} (s1 : St M x xs) (h0 : -(2 ^ 63) ≤ n) (h1 : n < 2 ^ 63) (hl : xs.length * n.toNat ≤ sizeLine) (h : k (.lst (List.replicate n.toNat xs).flatten) M) : ZR c rMulZ x (.int n) M k := fun R F H v w Q L r1 r2 q => .inr (by
  obtain ⟨a, vs, rfl, e1, p1⟩ := s1.read L r1
  exact ⟨a, n, vs, rfl, r2.of_int, e1, h0, h1, by rw [p1.len]; exact hl, fun p hp => q _ _ _ M _ (ex_upd (L.free hp)) (L.new hp) (.mk_lst upd_same ((p1.rep n.toNat).mono (ex_upd (L.free hp)))) h⟩)
end
/-! ### subscripts, slices, membership -/
section
variable {X : Cx} {a b : Expr} {ta tb : TE} {pos p2 : Pos}
def rIxZ (K : Fg) : R2 := rIx K
theorem p_ix (ha : PE X a ta) (hb : PE X b tb) (hs : PlainIx b := by intro _ _; rfl) : PE X (.Subscript a b pos) (tOp (rIxZ X.K) ta tb) := pe_ix ix_seq ha hb hs
def rSlZ (K : Fg) : V → Option Int → Option Int → Hp → VK → Prop := fun x lo hi H Q => rSlL K x lo hi H Q ∨ rSlA K x lo hi H Q ∨ rSlS x lo hi H Q
theorem p_sl {lo hi : Option Expr} {tl th : TO} (he : PE X a ta) (hl : PO X lo tl) (hh : PO X hi th) : PE X (.Subscript a (.Slice lo hi none p2) pos) (tSl (rSlZ X.K) ta tl th) := pe_slice (sl_list.or (sl_tupA.or sl_str)) he hl hh
def rInZ (K : Fg) : R2 := rIn K false
def rNotInZ (K : Fg) : R2 := rIn K true
theorem p_in (ha : PE X a ta) (hb : PE X b tb) (hm : behindInMarks .In b = false := by rfl) : PE X (.Compare a [.In] [b] pos) (tOp (rInZ X.K) ta tb) := pe_cmpR op_in_seq ha hb hm
theorem p_notIn (ha : PE X a ta) (hb : PE X b tb) (hm : behindInMarks .NotIn b = false := by rfl) : PE X (.Compare a [.NotIn] [b] pos) (tOp (rNotInZ X.K) ta tb) := pe_cmpR op_notIn_seq ha hb hm
theorem q_in (ha : PE X a ta) (hb : PE X b tb) (hm : behindInMarks .In b = false := by rfl) : PT X (.Compare a [.In] [b] pos) (tTest (tOp (rInZ X.K) ta tb)) := pt_cmpR op_in_seq ha hb hm
theorem q_notIn (ha : PE X a ta) (hb : PE X b tb) (hm : behindInMarks .NotIn b = false := by rfl) : PT X (.Compare a [.NotIn] [b] pos) (tTest (tOp (rNotInZ X.K) ta tb)) := pt_cmpR op_notIn_seq ha hb hm
end
section
variable {M : Mem} {k : D → Mem → Prop} {Γ : Gm} {d : D} {ds : List D}
theorem zr_ix {i : Int} {e : D} (s : Sq M d ds) (hi : L2.atI ds i = some e) (h : k e M) : ZR c (rIxZ c.K) d (.int i) M k := fun R F H v w Q L r1 r2 q => by
  obtain ⟨a, vs, rfl, p, rr⟩ := s.read L r1
  obtain ⟨x, hx, rx⟩ := rr.atI hi
  have qq := q x F H M e (Ex.refl F) L rx h
  rcases p with p | p
  · exact .inl ⟨a, vs, i, x, rfl, r2.of_int, p, hx, qq⟩
  · exact .inr (.inl ⟨a, vs, i, x, rfl, r2.of_int, p, hx, qq⟩)
theorem zr_ixS {z : Str} {i : Int} {n : Nat} (hz : z.length ≤ sizeLine) (hi : L2.atI z.cps.toList i = some n) (h : k (.str ⟨#[n]⟩) M) : ZR c (rIxZ c.K) (.str z) (.int i) M k := fun R F H v w Q L r1 r2 q =>
  .inr (.inr ⟨z, i, n, r1.of_str, r2.of_int, hz, hi, q _ F H M _ (Ex.refl F) L (.str _) h⟩)
/-- the part of a slice -/
def ZO (c : Cz) (t : TO) (Γ : Gm) (M : Mem) (k : Option Int → Mem → Prop) : Prop :=
  ∀ (R : Mem) (F : Hp) (σ : L2.St) (H : Hp) (Q : Option Int → Hp → Prop), Has c.K F σ Γ → Lay c.K F (M ++ R) H → XOk c R F → KOk (fun _ (o : Option Int) o' => o = o') c.K R F k Q → t σ H Q
theorem zo_none {k : Option Int → Mem → Prop} (h : k none M) : ZO c tNoPart Γ M k := fun R F σ H Q hs L _ q => q none F H M none (Ex.refl F) L rfl h
theorem zo_some {te : TE} {k : Option Int → Mem → Prop} (h : ZE c te Γ M fun d M1 => ∃ i, d = .int i ∧ k (some i) M1) : ZO c (tPart te) Γ M k := fun R F σ H Q hs L X q =>
  h R F σ H _ hs L X fun v F1 H1 M1 d e1 L1 r1 ⟨i, e, h1⟩ => by
    subst e
    exact ⟨i, r1.of_int, q (some i) F1 H1 M1 (some i) e1 L1 rfl h1⟩
def ZSl (c : Cz) (r : V → Option Int → Option Int → Hp → VK → Prop) (d : D) (lo hi : Option Int) (M : Mem) (k : D → Mem → Prop) : Prop := ∀ (R : Mem) (F H : Hp) (v : V) (Q : VK), Lay c.K F (M ++ R) H → Rp c.K F v d → EOk c.K R F k Q → r v lo hi H Q
theorem z_sl {r : V → Option Int → Option Int → Hp → VK → Prop} {te : TE} {tl th : TO} (h : ZE c te Γ M fun d M1 => ZO c tl Γ M1 fun lo M2 => ZO c th Γ M2 fun hi M3 => ZSl c r d lo hi M3 k) : ZE c (tSl r te tl th) Γ M k := fun R F σ H Q hs L X q =>
  h R F σ H _ hs L X fun v F1 H1 M1 d e1 L1 r1 h1 => h1 R F1 σ H1 _ (hs.mono e1) L1 (X.mono e1) fun lo F2 H2 M2 lo' e2 L2 r2 h2 => h2 R F2 σ H2 _ ((hs.mono e1).mono e2) L2 (X.mono (e1.trans e2)) fun hi F3 H3 M3 hi' e3 L3 r3 h3 => by
    subst r2 r3
    exact h3 R F3 H3 v Q L3 (r1.mono (e2.trans e3)) (q.mono ((e1.trans e2).trans e3))
def cutD (xs : List D) (lo hi : Option Int) : List D := (xs.drop (HT.sIx xs.length 0 lo)).take (HT.sIx xs.length xs.length hi - HT.sIx xs.length 0 lo)
theorem Rps.cut {K : Fg} {F : Hp} {vs : List V} {ds : List D} (r : Rps K F vs ds) (lo hi : Option Int) : Rps K F (cutV vs lo hi) (cutD ds lo hi) := by
  unfold cutV cutD
  rw [r.len]
  exact (r.drop _).take _
/-- a slice of a list -/
theorem zl_list {lo hi : Option Int} (s : Sl M d ds) (h : k (.lst (cutD ds lo hi)) M) : ZSl c (rSlZ c.K) d lo hi M k := fun R F H v Q L r1 q => .inl (by
  obtain ⟨a, vs, rfl, p, rr⟩ := s.read L r1
  exact ⟨a, vs, rfl, p, fun p hp => q _ _ _ M _ (ex_upd (L.free hp)) (L.new hp) (.mk_lst upd_same ((rr.cut lo hi).mono (ex_upd (L.free hp)))) h⟩)
theorem zl_tup {lo hi : Option Int} (h : k (.tup (cutD ds lo hi)) M) : ZSl c (rSlZ c.K) (.tup ds) lo hi M k := fun R F H v Q L r1 q => .inr (.inl (by
  obtain ⟨a, vs, rfl, s1, rr⟩ := r1.of_tup
  refine ⟨a, vs, rfl, ex_t L.fr s1, fun ⟨e1, e2⟩ => ?_, fun _ p hp => q _ _ _ M _ (ex_upd (L.free hp)) (L.new hp) (.mk_tup (SqT.of upd_same) ((rr.cut lo hi).mono (ex_upd (L.free hp)))) h⟩
  have e : cutD ds lo hi = ds := by
    unfold cutD
    rw [← rr.len, e1, e2, List.drop_zero, Nat.sub_zero, rr.len, List.take_length]
  rw [e] at h
  exact q _ F H M _ (Ex.refl F) L (.mk_tup s1 rr) h))
theorem zl_str {z : Str} {lo hi : Option Int} (hz : z.length ≤ sizeLine) (h : k (.str (cutS z lo hi)) M) : ZSl c (rSlZ c.K) (.str z) lo hi M k := fun R F H v Q L r1 q => .inr (.inr ⟨z, r1.of_str, hz, q _ F H M _ (Ex.refl F) L (.str _) h⟩)
theorem Rps.ints {K : Fg} {F : Hp} : ∀ {ns : List Int} {vs : List V}, Rps K F vs (ns.map D.int) → vs = ns.map V.int
  | [], vs, r => r.unnil
  | n :: ns, vs, r => by
    obtain ⟨v, vs', rfl, r1, r2⟩ := r.uncons
    rw [r1.of_int, Rps.ints r2]
    rfl
theorem Rps.bls {K : Fg} {F : Hp} : ∀ {ns : List Bool} {vs : List V}, Rps K F vs (ns.map D.bl) → vs = ns.map V.bl
  | [], vs, r => r.unnil
  | n :: ns, vs, r => by
    obtain ⟨v, vs', rfl, r1, r2⟩ := r.uncons
    rw [r1.of_bl, Rps.bls r2]
    rfl
theorem Rps.strs {K : Fg} {F : Hp} : ∀ {ns : List Str} {vs : List V}, Rps K F vs (ns.map D.str) → vs = ns.map V.str
  | [], vs, r => r.unnil
  | n :: ns, vs, r => by
    obtain ⟨v, vs', rfl, r1, r2⟩ := r.uncons
    rw [r1.of_str, Rps.strs r2]
    rfl
theorem inV_ints (i : Int) : ∀ ns : List Int, inV (.int i) (ns.map V.int) = decide (i ∈ ns)
  | [] => rfl
  | n :: ns => by
    show (eqV (.int n) (.int i) || inV (.int i) (ns.map V.int)) = _
    rw [inV_ints i ns]
    have e : eqV (.int n) (.int i) = decide (i = n) := by
      show (n == i) = _
      by_cases h : n = i
      · subst h; simp
      · rw [beq_eq_false_iff_ne.mpr h, decide_eq_false (fun z => h z.symm)]
    rw [e, Bool.eq_iff_iff]
    simp
theorem all_flat_ints (ns : List Int) : (ns.map V.int).all flatV = true := by
  rw [List.all_map, List.all_eq_true]
  intro x _
  rfl
theorem zr_inI {i : Int} {ns : List Int} (s : Sq M d (ns.map D.int)) (h : k (.bl (decide (i ∈ ns))) M) : ZR c (rInZ c.K) (.int i) d M k := fun R F H v w Q L r1 r2 q => by
  obtain ⟨a, vs, rfl, p, rr⟩ := s.read L r2
  rw [rr.ints] at p
  refine ⟨a, _, rfl, p, by rw [r1.of_int]; rfl, all_flat_ints ns, ?_⟩
  rw [r1.of_int]
  show Q (.bl (inV (.int i) (ns.map V.int))) H
  rw [inV_ints]
  exact q _ F H M _ (Ex.refl F) L (.bl _) h
theorem zr_notInI {i : Int} {ns : List Int} (s : Sq M d (ns.map D.int)) (h : k (.bl (!decide (i ∈ ns))) M) : ZR c (rNotInZ c.K) (.int i) d M k := fun R F H v w Q L r1 r2 q => by
  obtain ⟨a, vs, rfl, p, rr⟩ := s.read L r2
  rw [rr.ints] at p
  refine ⟨a, _, rfl, p, by rw [r1.of_int]; rfl, all_flat_ints ns, ?_⟩
  rw [r1.of_int]
  show Q (.bl (!inV (.int i) (ns.map V.int))) H
  rw [inV_ints]
  exact q _ F H M _ (Ex.refl F) L (.bl _) h
end
/-! ### truth -/
/-- the truth of a datum -/
inductive TruD (M : Mem) : D → Bool → Prop
  | non : TruD M .non false
  | bl (b : Bool) : TruD M (.bl b) b
  | int (i : Int) : TruD M (.int i) (i != 0)
  | sq {d : D} {ds : List D} (s : Sq M d ds) : TruD M d (!ds.isEmpty)
theorem TruD.read {K : Fg} {F H : Hp} {M R : Mem} {v : V} {d : D} {b : Bool} (s : TruD M d b) (L : Lay K F (M ++ R) H) (r : Rp K F v d) : TruV K v H b := by
  cases s with
  | non => rw [r.of_non]; rfl
  | bl b => rw [r.of_bl]; rfl
  | int i => rw [r.of_int]; rfl
  | sq s =>
    obtain ⟨a, vs, rfl, p, rr⟩ := s.read L r
    have e : ∀ ds : List D, vs.length = ds.length → (!ds.isEmpty) = !vs.isEmpty := by
      intro ds h
      cases ds <;> cases vs <;> simp at h ⊢
    rw [e _ rr.len]
    rcases p with p | p
    · exact .inl ⟨vs, p, rfl⟩
    · exact .inr (.inl ⟨vs, p, rfl⟩)
def tTruZ (K : Fg) (t : TE) : TT := fun σ H Q => t σ H fun x H1 => ∃ k, TruV K x H1 k ∧ Q k H1
theorem q_truth {X : Cx} {a : Expr} {ta : TE} (ha : PE X a ta) (he : ∀ whole, isTrue a X.env whole = (do let v ← whole; standAt a.pos; holding [v] (truthy v)) := by intro _; rfl) : PT X a (tTruZ X.K ta) := pt_truth ha he
theorem zt_truth {ta : TE} {Γ : Gm} {M : Mem} {k : Bool → Mem → Prop} (h : ZE c ta Γ M fun d M1 => ∃ b, TruD M1 d b ∧ k b M1) : ZT c (tTruZ c.K ta) Γ M k := fun R F σ H Q hs L X q =>
  h R F σ H _ hs L X fun v F1 H1 M1 d e1 L1 r1 ⟨b, e, h1⟩ => ⟨b, e.read L1 r1, q b F1 H1 M1 b e1 L1 rfl h1⟩
/-! ### built-ins -/
def rLenZ (K : Fg) : List V → Hp → VK → Prop := fun xs H Q => ∃ x n, xs = [x] ∧ LenV K x H n ∧ Q (.int n) H
def rAbsZ : List V → Hp → VK → Prop := fun xs H Q => ∃ i, xs = [.int i] ∧ Q (.int (if i < 0 then -i else i)) H
def rMax2Z : List V → Hp → VK → Prop := fun xs H Q => ∃ i j, xs = [.int i, .int j] ∧ Q (.int (if j > i then j else i)) H
def rMin2Z : List V → Hp → VK → Prop := fun xs H Q => ∃ i j, xs = [.int i, .int j] ∧ Q (.int (if j < i then j else i)) H
def rIntZ : List V → Hp → VK → Prop := fun xs H Q => (∃ i, xs = [.int i] ∧ Q (.int i) H) ∨ ∃ k, xs = [.bl k] ∧ Q (.int (if k then 1 else 0)) H
def rListZ (K : Fg) : List V → Hp → VK → Prop := fun xs H Q => ∃ p ys, xs = [.ref p] ∧ (SqL K H p ys ∨ SqT K H p ys) ∧ ∀ l, H l = none → Q (.ref l) (upd H l (.lst ys))
def rTupZ (K : Fg) : List V → Hp → VK → Prop := fun xs H Q => ∃ p ys, xs = [.ref p] ∧ ((SqL K H p ys ∧ ∀ l, H l = none → Q (.ref l) (upd H l (.tup ys))) ∨ (SqT K H p ys ∧ Q (.ref p) H))
def rIsiZ (K : Fg) : List V → Hp → VK → Prop := rIsi K
def rGcdZ : List V → Hp → VK → Prop := rGcd
def rSumZ (K : Fg) : List V → Hp → VK → Prop := rSum K
def rAllZ (K : Fg) : List V → Hp → VK → Prop := rAll K
def rAnyZ (K : Fg) : List V → Hp → VK → Prop := rAny K
section
variable {X : Cx}
theorem cz_len : CallR X (.builtin "len") (rLenZ X.K) := call_len
theorem cz_abs : CallR X (.builtin "abs") rAbsZ := call_abs
theorem cz_max2 (hc : X.calm = true) : CallR X (.builtin "max") rMax2Z := call_max2 hc
theorem cz_min2 (hc : X.calm = true) : CallR X (.builtin "min") rMin2Z := call_min2 hc
theorem cz_int : CallR X (.type "int") rIntZ := call_int1
theorem cz_list : CallR X (.type "list") (rListZ X.K) := call_list_of
theorem cz_tuple : CallR X (.type "tuple") (rTupZ X.K) := call_tuple_of
theorem cz_isi : CallR X (.builtin "isinstance") (rIsiZ X.K) := call_isi
theorem cz_gcd : CallR X (.builtin "math.gcd") rGcdZ := cr_gcd
theorem cz_sum (hc : X.calm = true) : CallR X (.builtin "sum") (rSumZ X.K) := cr_sum hc
theorem cz_all (hc : X.calm = true) : CallR X (.builtin "all") (rAllZ X.K) := cr_all hc
theorem cz_any (hc : X.calm = true) : CallR X (.builtin "any") (rAnyZ X.K) := cr_any hc
end
theorem boot_isinstance : bootBuiltins "isinstance" = some (.builtin "isinstance") := by decide +kernel
theorem boot_abs : bootBuiltins "abs" = some (.builtin "abs") := by decide +kernel
theorem boot_max : bootBuiltins "max" = some (.builtin "max") := by decide +kernel
theorem boot_min : bootBuiltins "min" = some (.builtin "min") := by decide +kernel
theorem boot_sum : bootBuiltins "sum" = some (.builtin "sum") := by decide +kernel
theorem boot_all : bootBuiltins "all" = some (.builtin "all") := by decide +kernel
theorem boot_any : bootBuiltins "any" = some (.builtin "any") := by decide +kernel
theorem boot_int : bootBuiltins "int" = some (.type "int") := by decide +kernel
theorem boot_bool : bootBuiltins "bool" = some (.type "bool") := by decide +kernel
theorem boot_str : bootBuiltins "str" = some (.type "str") := by decide +kernel
theorem boot_list : bootBuiltins "list" = some (.type "list") := by decide +kernel
theorem boot_tuple : bootBuiltins "tuple" = some (.type "tuple") := by decide +kernel
theorem boot_sorted : bootBuiltins "sorted" = some (.builtin "sorted") := by decide +kernel
section
variable {M : Mem} {k : D → Mem → Prop} {d : D} {ds : List D} {i j : Int}
theorem Rps.one1 {K : Fg} {F : Hp} {vs : List V} {d : D} (r : Rps K F vs [d]) : ∃ v, vs = [v] ∧ Rp K F v d := by
  obtain ⟨v, vs', rfl, r1, r2⟩ := r.uncons
  exact ⟨v, by rw [r2.unnil], r1⟩
theorem Rps.two {K : Fg} {F : Hp} {vs : List V} {d e : D} (r : Rps K F vs [d, e]) : ∃ v w, vs = [v, w] ∧ Rp K F v d ∧ Rp K F w e := by
  obtain ⟨v, vs', rfl, r1, r2⟩ := r.uncons
  obtain ⟨w, rfl, r3⟩ := r2.one1
  exact ⟨v, w, rfl, r1, r3⟩
theorem zc_len (s : Sq M d ds) (h : k (.int ds.length) M) : ZC c (rLenZ c.K) [d] M k := fun R F H vs Q L r q => by
  obtain ⟨v, rfl, r1⟩ := r.one1
  obtain ⟨a, vs, rfl, p, rr⟩ := s.read L r1
  refine ⟨.ref a, ds.length, rfl, ?_, q _ F H M _ (Ex.refl F) L (.int _) h⟩
  rw [← rr.len]
  rcases p with p | p
  · exact .inl ⟨vs, p, rfl⟩
  · exact .inr ⟨vs, p, rfl⟩
theorem zc_lenS {z : Str} (hz : z.length ≤ sizeLine) (h : k (.int z.length) M) : ZC c (rLenZ c.K) [.str z] M k := fun R F H vs Q L r q => by
  obtain ⟨v, rfl, r1⟩ := r.one1
  rw [r1.of_str]
  exact ⟨.str z, z.length, rfl, ⟨hz, rfl⟩, q _ F H M _ (Ex.refl F) L (.int _) h⟩
theorem abs_eq (i : Int) : (if i < 0 then -i else i) = (i.natAbs : Int) := by
  split <;> omega
theorem zc_abs (h : k (.int (i.natAbs : Int)) M) : ZC c rAbsZ [.int i] M k := fun R F H vs Q L r q => by
  obtain ⟨v, rfl, r1⟩ := r.one1
  rw [r1.of_int]
  refine ⟨i, rfl, ?_⟩
  rw [abs_eq]
  exact q _ F H M _ (Ex.refl F) L (.int _) h
theorem zc_max2 (h : k (.int (max i j)) M) : ZC c rMax2Z [.int i, .int j] M k := fun R F H vs Q L r q => by
  obtain ⟨v, w, rfl, r1, r2⟩ := r.two
  rw [r1.of_int, r2.of_int]
  refine ⟨i, j, rfl, ?_⟩
  rw [show (if j > i then j else i) = max i j by split <;> omega]
  exact q _ F H M _ (Ex.refl F) L (.int _) h
theorem zc_min2 (h : k (.int (min i j)) M) : ZC c rMin2Z [.int i, .int j] M k := fun R F H vs Q L r q => by
  obtain ⟨v, w, rfl, r1, r2⟩ := r.two
  rw [r1.of_int, r2.of_int]
  refine ⟨i, j, rfl, ?_⟩
  rw [show (if j < i then j else i) = min i j by split <;> omega]
  exact q _ F H M _ (Ex.refl F) L (.int _) h
theorem zc_int (h : k (.int i) M) : ZC c rIntZ [.int i] M k := fun R F H vs Q L r q => by
  obtain ⟨v, rfl, r1⟩ := r.one1
  rw [r1.of_int]
  exact .inl ⟨i, rfl, q _ F H M _ (Ex.refl F) L (.int _) h⟩
theorem zc_intB {b : Bool} (h : k (.int (if b then 1 else 0)) M) : ZC c rIntZ [.bl b] M k := fun R F H vs Q L r q => by
  obtain ⟨v, rfl, r1⟩ := r.one1
  rw [r1.of_bl]
  exact .inr ⟨b, rfl, q _ F H M _ (Ex.refl F) L (.int _) h⟩
theorem zc_gcd (h : k (.int ((Nat.gcd i.natAbs j.natAbs : Nat) : Int)) M) : ZC c rGcdZ [.int i, .int j] M k := fun R F H vs Q L r q => by
  obtain ⟨v, w, rfl, r1, r2⟩ := r.two
  rw [r1.of_int, r2.of_int]
  exact ⟨i, j, rfl, q _ F H M _ (Ex.refl F) L (.int _) h⟩
theorem zc_sum {ns : List Int} (s : Sl M d (ns.map D.int)) (h : k (.int ns.sum) M) : ZC c (rSumZ c.K) [d] M k := fun R F H vs Q L r q => by
  obtain ⟨v, rfl, r1⟩ := r.one1
  obtain ⟨a, vs, rfl, p, rr⟩ := s.read L r1
  rw [rr.ints] at p
  exact ⟨a, ns, rfl, p, q _ F H M _ (Ex.refl F) L (.int _) h⟩
theorem zc_all {bs : List Bool} (s : Sl M d (bs.map D.bl)) (h : k (.bl (bs.all id)) M) : ZC c (rAllZ c.K) [d] M k := fun R F H vs Q L r q => by
  obtain ⟨v, rfl, r1⟩ := r.one1
  obtain ⟨a, vs, rfl, p, rr⟩ := s.read L r1
  rw [rr.bls] at p
  exact ⟨a, bs, rfl, p, q _ F H M _ (Ex.refl F) L (.bl _) h⟩
theorem zc_any {bs : List Bool} (s : Sl M d (bs.map D.bl)) (h : k (.bl (bs.any id)) M) : ZC c (rAnyZ c.K) [d] M k := fun R F H vs Q L r q => by
  obtain ⟨v, rfl, r1⟩ := r.one1
  obtain ⟨a, vs, rfl, p, rr⟩ := s.read L r1
  rw [rr.bls] at p
  exact ⟨a, bs, rfl, p, q _ F H M _ (Ex.refl F) L (.bl _) h⟩
theorem zc_list (s : Sq M d ds) (h : k (.lst ds) M) : ZC c (rListZ c.K) [d] M k := fun R F H vs Q L r q => by
  obtain ⟨v, rfl, r1⟩ := r.one1
  obtain ⟨a, vs, rfl, p, rr⟩ := s.read L r1
  exact ⟨a, vs, rfl, p, fun p hp => q _ _ _ M _ (ex_upd (L.free hp)) (L.new hp) (.mk_lst upd_same (rr.mono (ex_upd (L.free hp)))) h⟩
theorem zc_tuple (s : Sl M d ds) (h : k (.tup ds) M) : ZC c (rTupZ c.K) [d] M k := fun R F H vs Q L r q => by
  obtain ⟨v, rfl, r1⟩ := r.one1
  obtain ⟨a, vs, rfl, p, rr⟩ := s.read L r1
  exact ⟨a, vs, rfl, .inl ⟨p, fun p hp => q _ _ _ M _ (ex_upd (L.free hp)) (L.new hp) (.mk_tup (SqT.of upd_same) (rr.mono (ex_upd (L.free hp)))) h⟩⟩
theorem zc_tupleT (h : k (.tup ds) M) : ZC c (rTupZ c.K) [.tup ds] M k := fun R F H vs Q L r q => by
  obtain ⟨v, rfl, r1⟩ := r.one1
  obtain ⟨a, vs, rfl, p, rr⟩ := r1.of_tup
  exact ⟨a, vs, rfl, .inr ⟨ex_t L.fr p, q _ F H M _ (Ex.refl F) L (.mk_tup p rr) h⟩⟩
/-- a built-in call whose new list may change -/
theorem z_listM {ta : TA} {Γ : Gm} (h : ZA c ta Γ M fun ds M1 => ∃ d xs, ds = [d] ∧ Sq M1 d xs ∧ ∀ p, k (.at p) ((p, .lst xs) :: M1)) : ZE c (mk (tCB (rListZ c.K) ta)) Γ M k := fun R F σ H Q hs L X q =>
  h R F σ H _ hs L X fun vs F1 H1 M1 ds e1 L1 r1 ⟨d, xs, e, s, h1⟩ => by
    subst e
    obtain ⟨v, rfl, r2⟩ := r1.one1
    obtain ⟨a, vs, rfl, p, rr⟩ := s.read L1 r2
    exact ⟨a, vs, rfl, p, fun p hp => q _ F1 _ ((p, .lst xs) :: M1) (.at p) e1 (L1.newM hp ⟨vs, upd_same, rr⟩) (.at p) (h1 p)⟩
/-- isinstance of a built-in class -/
def tyD : D → Option String
  | .non => some "NoneType"
  | .bl _ => some "bool"
  | .int _ => some "int"
  | .str _ => some "str"
  | .tup _ => some "tuple"
  | .lst _ => some "list"
  | .scr _ => none
  | _ => none
theorem tyD_ok {K : Fg} {F H : Hp} {M : Mem} {v : V} {d : D} {T : String} (h : tyD d = some T) (L : Lay K F M H) (r : Rp K F v d) : TyX K H v (.type T) := by
  cases d with
  | non => cases h; rw [r.of_non]; exact .base .non
  | bl b => cases h; rw [r.of_bl]; exact .base (.bl b)
  | int b => cases h; rw [r.of_int]; exact .base (.int b)
  | str b => cases h; rw [r.of_str]; exact .base (.str b)
  | tup ds =>
    cases h
    obtain ⟨a, vs, rfl, p, _⟩ := r.of_tup
    rcases ex_t L.fr p with (p | ⟨o, p⟩) | ⟨o, its, n, p, hc, _⟩
    · exact .base (.tup p)
    · exact .fTuple p
    · exact .kTuple p hc
  | lst ds =>
    cases h
    obtain ⟨a, vs, rfl, p, _⟩ := r.of_lst
    exact .base (.lst (L.fr _ _ p))
  | _ => cases h
theorem zc_isi {T U : String} {b : Bool} (ht : tyD d = some T) (hk : kitB T U = some b) (h : k (.bl b) M) : ZC c (rIsiZ c.K) [d, .ty U] M k := fun R F H vs Q L r q => by
  obtain ⟨v, w, rfl, r1, r2⟩ := r.two
  rw [r2.of_ty]
  exact ⟨v, .ty U, .type T, .type U, b, rfl, .ty U, tyD_ok ht L r1, kit_ty hk, q _ F H M _ (Ex.refl F) L (.bl _) h⟩
theorem zc_isiAt {a : Addr} {i : Nat} (hi : M[i]? = some (a, .lst ds)) {U : String} {b : Bool} (hk : kitB "list" U = some b) (h : k (.bl b) M) : ZC c (rIsiZ c.K) [.at a, .ty U] M k := fun R F H vs Q L r q => by
  obtain ⟨v, w, rfl, r1, r2⟩ := r.two
  rw [r2.of_ty, r1.of_at]
  obtain ⟨vs, e, _⟩ := L.memAt hi
  exact ⟨_, .ty U, .type "list", .type U, b, rfl, .ty U, .base (.lst e), kit_ty hk, q _ F H M _ (Ex.refl F) L (.bl _) h⟩
theorem kit_ii : kitB "int" "int" = some true := by decide +kernel
theorem kit_ib : kitB "int" "bool" = some false := by decide +kernel
theorem kit_bi : kitB "bool" "int" = some true := by decide +kernel
theorem kit_bb : kitB "bool" "bool" = some true := by decide +kernel
theorem kit_tt : kitB "tuple" "tuple" = some true := by decide +kernel
theorem kit_ll : kitB "list" "list" = some true := by decide +kernel
theorem kit_ss : kitB "str" "str" = some true := by decide +kernel
theorem kit_nt : kitB "NoneType" "tuple" = some false := by decide +kernel
end
end Z
set_option Elab.async false
set_option linter.all false
set_option maxRecDepth 100000
set_option maxHeartbeats 4000000
/-! ZMore: methods of lists, stores, comprehensions, iterators, calls of defs, a def's body, a law's end. -/
namespace PySem
/-- enumerate(v) of whatever begins so -/
theorem meets_enumerate_newG {v : Value} {o : Obj} {H : Heap → Prop} (B : Begins v o H) :
    Meets (Builtin.«enumerate.__new__» ⟨[.type "enumerate", v], []⟩) (fun _ R s => H s.heap ∧
      R (.ok (.ret (.ref (s.heap.push o).objs.size))) { s with heap := (s.heap.push o).push { cls := .type "enumerate", data := .fields #[.none, .bool false, .ref s.heap.objs.size, rawInt 0, .none, .none] } }) :=
  .of_wp fun prog w A R s h => by
    obtain ⟨hp, g, d, tk, os⟩ := s; obtain ⟨h1, h⟩ := h
    have hsub := sub_enumerate
    have q1 : ∀ {A' : Around} {E : Value → Shared → Prop} {Q : Value → Shared → Prop}, Q (.ref hp.objs.size) ⟨hp.push o, g, d, tk, os⟩ → wpAny (model prog w) A' (pyIter v) Q E ⟨hp, g, d, tk, os⟩ :=
      fun q => B.iter prog w _ _ ⟨hp, g, d, tk, os⟩ _ h1 q
    wp_walk using q1
    refine wpAny_stack_any fun st => wpAny_pure ?_
    split
    · rename_i c _ _ _ _ _
      cases (c == Value.type "enumerate")
      · wp_walk using q1
        exact ⟨_, rfl, h⟩
      · wp_walk using q1
        exact ⟨_, rfl, h⟩
    · wp_walk using q1
      exact ⟨_, rfl, h⟩
section
variable {prog : Program} {w : World} {A : Around} {E : Value → Shared → Prop} {s : Shared}
theorem enum_beginsG {v : Value} {o : Obj} {H : Heap → Prop} {Q : Value → Shared → Prop} (B : Begins v o H) (h1 : H s.heap)
    (h : ∀ h', IsEnum h' (s.heap.objs.size + 1) s.heap.objs.size 0 .none → h'.get? s.heap.objs.size = some o → h'.objs.size = s.heap.objs.size + 2 →
      (∀ b o, s.heap.get? b = some o → h'.get? b = some o) → Q (.ref (s.heap.objs.size + 1)) { s with heap := h' }) :
    wpAny (model prog w) A (call (.type "enumerate") [v]) Q E s := by
  refine callType_new F.called_enumerate (by decide) (F.typeCall_enumerate_1 _) (F.newCall_enumerate_1 _) (fun obj => F.args_object_init_2 obj _) F.entry_enumerate_new
    (meets_enumerate_newG B) ⟨h1, ?_⟩
  have hz : (s.heap.push o).objs.size = s.heap.objs.size + 1 := Heap.size_push ..
  show _ ∧ _
  rw [hz]
  have he : IsEnum ((s.heap.push o).push { cls := .type "enumerate", data := .fields #[.none, .bool false, .ref s.heap.objs.size, rawInt 0, .none, .none] }) (s.heap.objs.size + 1) s.heap.objs.size 0 .none := by
    have := Heap.get?_push_size (s.heap.push o) (o := { cls := .type "enumerate", data := .fields #[.none, .bool false, .ref s.heap.objs.size, rawInt 0, .none, .none] }) rfl
    rw [hz] at this; exact this
  refine ⟨⟨_, he, rfl⟩, h _ he (Heap.get?_push_of_some _ (Heap.get?_push_size _ B.free)) (by rw [Heap.size_push, hz]) fun b o x => Heap.get?_push_of_some _ (Heap.get?_push_of_some _ x)⟩
end
end PySem
namespace Z
open PySem PySem.Spec PyProof.Rows L2
variable {c : Cz}
/-! ### enumerate of a tuple -/
def IteT (K : Fg) (a : Addr) (n : Nat) : It :=
  ⟨fun i H => ∃ (xs : List V) (x : V), SqT K H a xs ∧ xs[i]? = some x ∧ xs.length = n, fun i H v H' => ∃ T x, v = .ref T ∧ H T = none ∧ H' = upd H T (.tup [.int (i : Nat), x]) ∧ ∀ xs, SqT K H a xs → xs[i]? = some x, fun i H => ∃ xs : List V, SqT K H a xs ∧ xs.length = n ∧ n ≤ i⟩
theorem turn_enumT {P : Program} {w : World} {K : Fg} {elts : List Expr} {kk : Nat} {tpos : Pos} (a e it : Addr) (n : Nat) :
    Turn P w K (.Tuple elts kk tpos) (IteT K a n) [e, it] e (fun i h => (∃ old, IsEnum h e it ((i : Nat) : Int) old) ∧ h.IsTupleIter it a i ∧ e ≠ it ∧ i ≤ n ∧ a ≠ it ∧ a ≠ e) where
  mem := by simp
  obj := fun i h st b hb => by
    obtain ⟨⟨old, he⟩, ⟨o, ho, hc, hd⟩, _⟩ := st
    have e' : b = e ∨ b = it := by simpa using hb
    rcases e' with z | z
    · rw [z]; exact ⟨_, he, fun v q => nomatch q⟩
    · rw [z]; exact ⟨o, ho, fun v q => by rw [hd] at q; cases q⟩
  keep := fun i h h' st k => let ⟨⟨old, he⟩, hi, hne⟩ := st; ⟨⟨old, k e (by simp) _ he⟩, hi.at fun o q => k it (by simp) o q, hne⟩
  item := by
    intro X hP hw hK hc i pins s σ H E I hf st hg
    subst hP hw hK
    obtain ⟨⟨old, he⟩, hit, hne, hin, hai, hae⟩ := st
    obtain ⟨xs, x, hq, hx, hn⟩ := hg
    obtain ⟨its, rv, p, hz⟩ := I.tuple hq
    obtain ⟨u, hu, ru⟩ := rv.get hx
    have hel : e < s.heap.objs.size := Heap.lt_size he
    have hil : it < s.heap.objs.size := by obtain ⟨_, q, _⟩ := hit; exact Heap.lt_size q
    have hlen : its.toArray.size = n := by rw [List.size_toArray, ← rv.length, hn]
    have hlt : i < its.toArray.size := by
      rw [List.size_toArray, ← rv.length]
      exact (List.getElem?_eq_some_iff.mp hx).1
    refine wpAny_pyNext_enum_itemC (Draws.tuple (A := X.A.in1) (I.ok.hd hc) it a hai its.toArray) he ⟨hit, p⟩ hlt hne (by simp [hne, hae.symm]) fun u' h' tk hu' ho hst' hT hsz hk => ?_
    have eu : u' = u := by
      rw [List.getElem?_toArray] at hu'
      rw [hu] at hu'
      exact (Option.some.inj hu').symm
    subst eu
    refine ⟨_, rfl, wpAny_letOwnedTupleGo_enum (s := { s with heap := h', toks := tk + 1 }) ho fun h'' he' sb => ?_⟩
    have hT2 : h''.get? s.heap.objs.size = some { cls := .type "tuple", data := .seq #[.int i tk, u'] } := (sb.2 _ (Nat.ne_of_gt hel)).trans hT
    have new : ObjOk X.prog X.w (upd H s.heap.objs.size (.tup [.int (i : Nat), x])) h'' s.heap.objs.size (.tup [.int (i : Nat), x]) :=
      ⟨by show 2 ≤ sizeLine; decide, [.int i tk, u'], .cons ⟨_, rfl⟩ (.cons ru .nil), ⟨_, hT2, rfl, _, rfl⟩⟩
    have I1 : Inv X pins σ (upd H s.heap.objs.size (.tup [.int (i : Nat), x])) { s with heap := h'', toks := tk + 1 } :=
      I.turnedNew (ch := [e, it]) (fun b ob hb q => (sb.2 b (fun z => hb (by simp [z]))).trans (hk b ob (fun z => hb (by simp [z])) (fun z => hb (by simp [z])) q)) hf (Nat.le_refl _) new
    refine ⟨.ref s.heap.objs.size, _, I1, rfl, ⟨_, x, rfl, I.hok.fresh (Nat.le_refl _), rfl, fun ys hy => by rw [I.tuple_inj hy hq]; exact hx⟩, ⟨⟨u', ?_⟩, hst'.1.at fun o q => (sb.2 it (Ne.symm hne)).trans q, hne, by omega, hai, hae⟩, fun b hb => ?_⟩
    · have e1 : ((i + 1 : Nat) : Int) = (i : Int) + 1 := by omega
      rw [e1]; exact he'
    · have hb' : b < s.heap.objs.size := by
        have e' : b = e ∨ b = it := by simpa using hb
        rcases e' with z | z
        · rw [z]; exact hel
        · rw [z]; exact hil
      rw [upd_ne (Nat.ne_of_lt hb')]
      exact (hf b hb).1
  done := by
    intro X hP hw hK hc i pins s σ H E I hf st hg
    subst hP hw hK
    obtain ⟨⟨old, he⟩, hit, hne, hin, hai, hae⟩ := st
    obtain ⟨xs, hq, hn, hx⟩ := hg
    obtain ⟨its, rv, p, hz⟩ := I.tuple hq
    obtain ⟨f0, f1, f2, f3, f4, f5⟩ := hf it (by simp)
    have ei : i = its.toArray.size := by rw [List.size_toArray, ← rv.length]; omega
    refine wpAny_pyNext_enum_endD (Draws.tuple (A := X.A.in1) (I.ok.hd hc) it a hai its.toArray) he (by rw [← ei]; exact ⟨hit, p⟩) fun h' eb => ⟨rfl, I.turned (t' := s.toks) (fun b o hb q => eb b o hb q) f0 f1 f3 f4 f5⟩
  self := fun A i s Q E st h => let ⟨⟨_, he⟩, _⟩ := st; wpAny_pyIter_enum he h
/-- enumerate of a list or a tuple -/
def iEnumZ (K : Fg) (ta : TA) : TI := fun σ H R => ta σ H fun vs H1 => ∃ a xs, vs = [.ref a] ∧ ((SqL K H1 a xs ∧ R (Ite K a) H1) ∨ (SqT K H1 a xs ∧ R (IteT K a xs.length) H1))
theorem pi_enumZ {X : Cx} {e : Expr} {ta : TA} {p pos tpos : Pos} {elts : List Expr} {kk : Nat} (hg : Gl X "enumerate") (hm : X.mg "enumerate" = none) (ha : PA X [e] ta) (hs : starEach [e] X.env = [(false, eval e X.env)] := by rfl) :
    PI X (.Tuple elts kk tpos) (.Call (.Name "enumerate" p) [e] [] pos) (iEnumZ X.K ta) := by
  refine ⟨fun pins s σ H R I h => ?_⟩
  refine Call_ (ld_blt I hg hm boot_enumerate (PyProof.Rows.callWith_type1 (thn (ha.run pos pins s σ H _ I h) fun us s1 ⟨vs, H1, I1, r1, q1⟩ => ?_) hs rfl))
  obtain ⟨a, xs, ex, q⟩ := q1
  subst ex
  cases r1 with
  | cons r rr =>
    cases rr
    cases r
    have fin : ∀ (tn : Nat → Heap → Prop) (J : It) (h' : Heap), (∀ b o, s1.heap.get? b = some o → h'.get? b = some o) → Turn X.prog X.w X.K (.Tuple elts kk tpos) J [s1.heap.objs.size + 1, s1.heap.objs.size] (s1.heap.objs.size + 1) tn → tn 0 h' → R J H1 → PIE X pins σ (.Tuple elts kk tpos) R (.ref (s1.heap.objs.size + 1)) { s1 with heap := h' } := fun tn J h' hk tt t0 q => by
      have I2 : Inv X pins σ H1 { s1 with heap := h' } := I1.kept (t' := s1.toks) hk
      refine ⟨s1.heap.objs.size + 1, [s1.heap.objs.size + 1, s1.heap.objs.size], tn, J, H1, rfl, I2, tt, t0, fun b hb => ?_, q⟩
      have e' : b = s1.heap.objs.size + 1 ∨ b = s1.heap.objs.size := by simpa using hb
      have hle : s1.heap.objs.size ≤ b := by
        rcases e' with z | z
        · rw [z]; exact Nat.le_add_right _ _
        · rw [z]; exact Nat.le_refl _
      exact I1.fpOk hle (I1.hok.fresh hle)
    rcases q with ⟨hq, q⟩ | ⟨hq, q⟩
    · obtain ⟨its, rv, p', hz⟩ := I1.list hq
      exact call_enumerate_list p'.isList fun h' he hit hsz hk => wpAny_pyIter_enum he (fin _ _ h' hk (turn_enum a (s1.heap.objs.size + 1) s1.heap.objs.size) ⟨⟨.none, he⟩, hit, Nat.succ_ne_self _⟩ q)
    · obtain ⟨its, rv, p', hz⟩ := I1.tuple hq
      have hal : a < s1.heap.objs.size := p'.lt
      refine enum_beginsG (begins_tuple a its.toArray) p' fun h' he hit hsz hk => wpAny_pyIter_enum he (fin _ _ h' hk (turn_enumT a (s1.heap.objs.size + 1) s1.heap.objs.size xs.length) ⟨⟨.none, he⟩, ⟨_, hit, rfl, rfl⟩, Nat.succ_ne_self _, Nat.zero_le _, Nat.ne_of_lt hal, Nat.ne_of_lt (Nat.lt_succ_of_lt hal)⟩ q)
/-! ### a list, a tuple, a text walked -/
def iSeqZ (K : Fg) (tl : TE) : TI := fun σ H R => tl σ H fun x H1 => (∃ a, x = .ref a ∧ (∃ xs, SqL K H1 a xs) ∧ R (Itl K a) H1) ∨ (∃ a, x = .ref a ∧ (∃ xs, SqT K H1 a xs) ∧ R (Itt K a) H1) ∨ ∃ x', x = .str x' ∧ R (Its x') H1
theorem pi_seqZ {X : Cx} {tg l : Expr} {tl : TE} (hl : PE X l tl) : PI X tg l (iSeqZ X.K tl) := by
  refine ⟨fun pins s σ H R I h => ?_⟩
  refine thn (hl.run pins s σ H _ I h) fun v s1 ⟨x, H1, I1, r1, q1⟩ => ?_
  rcases q1 with ⟨a, e, ⟨xs, hq⟩, q⟩ | ⟨a, e, ⟨xs, hq⟩, q⟩ | ⟨x', ex, q⟩
  · subst e
    cases r1
    obtain ⟨its, rv, p, hz⟩ := I1.list hq
    refine wpAny_pyIter_list p.isList ?_
    refine ⟨s1.heap.objs.size, [s1.heap.objs.size], _, _, H1, rfl, I1.kept (t' := s1.toks) fun b o e => Heap.get?_push_of_some _ e, turn_list a _, ⟨_, Heap.get?_push_size _ rfl, rfl, rfl⟩, fun b hb => ?_, q⟩
    have e : b = s1.heap.objs.size := by simpa using hb
    subst e
    exact I1.fpOk (Nat.le_refl _) (I1.hok.fresh (Nat.le_refl _))
  · subst e
    cases r1
    obtain ⟨its, rv, p, hz⟩ := I1.tuple hq
    refine wpAny_pyIter_tuple (show s1.heap.IsTuple a its.toArray from p) ?_
    refine ⟨s1.heap.objs.size, [s1.heap.objs.size], _, _, H1, rfl, I1.kept (t' := s1.toks) fun b o e => Heap.get?_push_of_some _ e, turn_tuple a _, ⟨_, Heap.get?_push_size _ rfl, rfl, rfl⟩, fun b hb => ?_, q⟩
    have e : b = s1.heap.objs.size := by simpa using hb
    subst e
    exact I1.fpOk (Nat.le_refl _) (I1.hok.fresh (Nat.le_refl _))
  · subst ex
    obtain ⟨t, rfl⟩ := r1
    cases ha : x'.cps.all (· < 128)
    · exact wpAny_pyIter_wide ha (pi_one (tk := s1.toks) I1 _ (turn_str _ x' t "str_iterator" (.inr rfl)) ⟨_, Heap.get?_push_size _ rfl, rfl, rfl⟩ q)
    · exact wpAny_pyIter_ascii ha (pi_one (tk := s1.toks) I1 _ (turn_str _ x' t "str_ascii_iterator" (.inl rfl)) ⟨_, Heap.get?_push_size _ rfl, rfl, rfl⟩ q)
section
variable {Γ : Gm} {M : Mem} {kk : List D → Mem → Prop}
theorem walks_l {K : Fg} {F : Hp} {a : Addr} {vs : List V} {ds : List D} (h : SqL K F a vs) (r : Rps K F vs ds) (inj : ∀ F1 M1 H1, Ex F F1 → Lay K F1 M1 H1 → ∀ xs, SqL K H1 a xs → xs = vs) : Walks K F (Itl K a) ds := fun F1 M1 H1 e L => by
  have hs : SqL K H1 a vs := ex_l L.fr (ex_l e h)
  refine ⟨fun i hi => ⟨vs, vs[i]'(by rw [r.len]; exact hi), hs, List.getElem?_eq_getElem _⟩, fun i hi => ⟨vs, hs, by rw [r.len]; exact hi⟩, fun i d x H2 hd hy => ?_⟩
  obtain ⟨rfl, hy⟩ := hy
  obtain ⟨v, hv, rv⟩ := r.get hd
  have ev : x = v := Option.some.inj ((hy vs hs).symm.trans hv)
  subst ev
  exact ⟨F1, Ex.refl _, L, rv.mono e⟩
/-- what stands at an address is one thing alone, whatever heap it is read in (no injectivity is needed: a turn's datum is told by the row that we know) -/
theorem walks_list {K : Fg} {F : Hp} {a : Addr} {vs : List V} {ds : List D} (h : SqL K F a vs) (r : Rps K F vs ds) : Walks K F (Itl K a) ds := fun F1 M1 H1 e L => by
  have hs : SqL K H1 a vs := ex_l L.fr (ex_l e h)
  refine ⟨fun i hi => ⟨vs, vs[i]'(by rw [r.len]; exact hi), hs, List.getElem?_eq_getElem _⟩, fun i hi => ⟨vs, hs, by rw [r.len]; exact hi⟩, fun i d x H2 hd hy => ?_⟩
  obtain ⟨rfl, hy⟩ := hy
  obtain ⟨v, hv, rv⟩ := r.get hd
  have ev : x = v := Option.some.inj ((hy vs hs).symm.trans hv)
  subst ev
  exact ⟨F1, Ex.refl _, L, rv.mono e⟩
theorem walks_tup {K : Fg} {F : Hp} {a : Addr} {vs : List V} {ds : List D} (h : SqT K F a vs) (r : Rps K F vs ds) : Walks K F (Itt K a) ds := fun F1 M1 H1 e L => by
  have hs : SqT K H1 a vs := ex_t L.fr (ex_t e h)
  refine ⟨fun i hi => ⟨vs, vs[i]'(by rw [r.len]; exact hi), hs, List.getElem?_eq_getElem _⟩, fun i hi => ⟨vs, hs, by rw [r.len]; exact hi⟩, fun i d x H2 hd hy => ?_⟩
  obtain ⟨rfl, hy⟩ := hy
  obtain ⟨v, hv, rv⟩ := r.get hd
  have ev : x = v := Option.some.inj ((hy vs hs).symm.trans hv)
  subst ev
  exact ⟨F1, Ex.refl _, L, rv.mono e⟩
/-- the signs of a text -/
def signsD (x : Str) : List D := x.cps.toList.map fun n => D.str ⟨#[n]⟩
theorem walks_str {K : Fg} {F : Hp} {x : Str} : Walks K F (Its x) (signsD x) := fun F1 M1 H1 e L => by
  have hl : (signsD x).length = x.cps.size := by unfold signsD; rw [List.length_map, Array.length_toList]
  refine ⟨fun i hi => by rw [hl] at hi; exact hi, fun i hi => by rw [hl] at hi; exact hi, fun i d v H2 hd hy => ?_⟩
  obtain ⟨rfl, n, hn, rfl⟩ := hy
  refine ⟨F1, Ex.refl _, L, ?_⟩
  unfold signsD at hd
  rw [List.getElem?_map, Array.getElem?_toList, hn] at hd
  cases hd
  exact .str _
theorem zi_seq {tl : TE} (h : ZE c tl Γ M fun d M1 => ∃ ds, Sf d ds ∧ kk ds M1) : ZI c (iSeqZ c.K tl) Γ M kk := fun R F σ H Q hs L X q =>
  h R F σ H _ hs L X fun v F1 H1 M1 d e1 L1 r1 ⟨ds, s, h1⟩ => by
    cases s with
    | tup =>
      obtain ⟨a, vs, rfl, p, rr⟩ := r1.of_tup
      exact .inr (.inl ⟨a, rfl, ⟨vs, ex_t L1.fr p⟩, q _ F1 H1 M1 ds e1 L1 (walks_tup p rr) h1⟩)
    | lst =>
      obtain ⟨a, vs, rfl, p, rr⟩ := r1.of_lst
      exact .inl ⟨a, rfl, ⟨vs, SqL.of (L1.fr _ _ p)⟩, q _ F1 H1 M1 ds e1 L1 (walks_list (SqL.of p) rr) h1⟩
    | scr =>
      obtain ⟨a, vs, rfl, p, rr⟩ := r1.of_scr
      exact .inl ⟨a, rfl, ⟨vs, ex_l L1.fr p⟩, q _ F1 H1 M1 ds e1 L1 (walks_list p rr) h1⟩
theorem zi_str {tl : TE} (h : ZE c tl Γ M fun d M1 => ∃ x, d = .str x ∧ kk (signsD x) M1) : ZI c (iSeqZ c.K tl) Γ M kk := fun R F σ H Q hs L X q =>
  h R F σ H _ hs L X fun v F1 H1 M1 d e1 L1 r1 ⟨x, e, h1⟩ => by
    subst e
    exact .inr (.inr ⟨x, r1.of_str, q _ F1 H1 M1 _ e1 L1 walks_str h1⟩)
/-- range -/
def rngD (lo : Int) (n : Nat) : List D := (List.range n).map fun i => D.int (lo + (i : Nat))
theorem rngD_length (lo : Int) (n : Nat) : (rngD lo n).length = n := by unfold rngD; rw [List.length_map, List.length_range]
theorem rngD_get {lo : Int} {n i : Nat} {d : D} (h : (rngD lo n)[i]? = some d) : i < n ∧ d = .int (lo + (i : Nat)) := by
  unfold rngD at h
  rw [List.getElem?_map] at h
  by_cases hi : i < n
  · rw [List.getElem?_range hi] at h
    cases h
    exact ⟨hi, rfl⟩
  · rw [List.getElem?_eq_none (by rw [List.length_range]; omega)] at h
    cases h
theorem walks_rng {K : Fg} {F : Hp} {lo : Int} {n : Nat} : Walks K F (Itr lo n) (rngD lo n) := fun F1 M1 H1 e L => by
  refine ⟨fun i hi => by rw [rngD_length] at hi; exact hi, fun i hi => by rw [rngD_length] at hi; exact hi, fun i d v H2 hd hy => ?_⟩
  obtain ⟨rfl, rfl⟩ := hy
  rw [(rngD_get hd).2]
  exact ⟨F1, Ex.refl _, L, .int _⟩
theorem zi_rng1 {ta : TA} (h : ZA c ta Γ M fun ds M1 => ∃ j, ds = [.int j] ∧ -(2 ^ 62) ≤ j ∧ j < 2 ^ 62 ∧ kk (rngD 0 j.toNat) M1) : ZI c (iRng1 ta) Γ M kk := fun R F σ H Q hs L X q =>
  h R F σ H _ hs L X fun vs F1 H1 M1 ds e1 L1 r1 ⟨j, e, b1, b2, h1⟩ => by
    subst e
    obtain ⟨v, rfl, r2⟩ := r1.one1
    rw [r2.of_int]
    exact ⟨j, rfl, b1, b2, q _ F1 H1 M1 _ e1 L1 walks_rng h1⟩
theorem zi_rng2 {ta : TA} (h : ZA c ta Γ M fun ds M1 => ∃ i j, ds = [.int i, .int j] ∧ (-(2 ^ 62) ≤ i ∧ i < 2 ^ 62 ∧ -(2 ^ 62) ≤ j ∧ j < 2 ^ 62) ∧ kk (rngD i (j - i).toNat) M1) : ZI c (iRng2 ta) Γ M kk := fun R F σ H Q hs L X q =>
  h R F σ H _ hs L X fun vs F1 H1 M1 ds e1 L1 r1 ⟨i, j, e, b, h1⟩ => by
    subst e
    obtain ⟨v, w, rfl, r2, r3⟩ := r1.two
    rw [r2.of_int, r3.of_int]
    exact ⟨i, j, rfl, b, q _ F1 H1 M1 _ e1 L1 walks_rng h1⟩
/-- enumerate -/
def enumD (ds : List D) : List D := ds.mapIdx fun i d => D.tup [.int (i : Nat), d]
theorem enumD_length (ds : List D) : (enumD ds).length = ds.length := by unfold enumD; rw [List.length_mapIdx]
theorem enumD_get {ds : List D} {i : Nat} {d : D} (h : (enumD ds)[i]? = some d) : ∃ e, ds[i]? = some e ∧ d = .tup [.int (i : Nat), e] := by
  unfold enumD at h
  rw [List.getElem?_mapIdx] at h
  cases q : ds[i]? with
  | none => rw [q] at h; cases h
  | some e =>
    rw [q] at h
    exact ⟨e, rfl, (Option.some.inj h).symm⟩
theorem pair_new {K : Fg} {F1 H1 : Hp} {M1 : Mem} {T : Addr} {x y : V} {a b : D} (L : Lay K F1 M1 H1) (nT : H1 T = none) (r1 : Rp K F1 x a) (r2 : Rp K F1 y b) : ∃ F2, Ex F1 F2 ∧ Lay K F2 M1 (upd H1 T (.tup [x, y])) ∧ Rp K F2 (.ref T) (.tup [a, b]) :=
  ⟨_, ex_upd (L.free nT), L.new nT, .mk_tup (SqT.of upd_same) (.cons (r1.mono (ex_upd (L.free nT))) (.one (r2.mono (ex_upd (L.free nT)))))⟩
theorem walks_enumL {K : Fg} {F : Hp} {a : Addr} {vs : List V} {ds : List D} (h : SqL K F a vs) (r : Rps K F vs ds) : Walks K F (Ite K a) (enumD ds) := fun F1 M1 H1 e L => by
  have hs : SqL K H1 a vs := ex_l L.fr (ex_l e h)
  refine ⟨fun i hi => ⟨vs, vs[i]'(by rw [r.len, ← enumD_length]; exact hi), hs, List.getElem?_eq_getElem _⟩, fun i hi => ⟨vs, hs, by rw [r.len, ← enumD_length]; exact hi⟩, fun i d x H2 hd hy => ?_⟩
  obtain ⟨T, x', rfl, nT, rfl, hy⟩ := hy
  obtain ⟨d', hd', rfl⟩ := enumD_get hd
  obtain ⟨v, hv, rv⟩ := r.get hd'
  have ev : x' = v := Option.some.inj ((hy vs hs).symm.trans hv)
  subst ev
  exact pair_new L nT (.int _) (rv.mono e)
theorem walks_enumT {K : Fg} {F : Hp} {a : Addr} {vs : List V} {ds : List D} (h : SqT K F a vs) (r : Rps K F vs ds) : Walks K F (IteT K a vs.length) (enumD ds) := fun F1 M1 H1 e L => by
  have hs : SqT K H1 a vs := ex_t L.fr (ex_t e h)
  refine ⟨fun i hi => ⟨vs, vs[i]'(by rw [r.len, ← enumD_length]; exact hi), hs, List.getElem?_eq_getElem _, rfl⟩, fun i hi => ⟨vs, hs, rfl, by rw [r.len, ← enumD_length]; exact hi⟩, fun i d x H2 hd hy => ?_⟩
  obtain ⟨T, x', rfl, nT, rfl, hy⟩ := hy
  obtain ⟨d', hd', rfl⟩ := enumD_get hd
  obtain ⟨v, hv, rv⟩ := r.get hd'
  have ev : x' = v := Option.some.inj ((hy vs hs).symm.trans hv)
  subst ev
  exact pair_new L nT (.int _) (rv.mono e)
theorem zi_enum {ta : TA} (h : ZA c ta Γ M fun ds M1 => ∃ d xs, ds = [d] ∧ Sf d xs ∧ kk (enumD xs) M1) : ZI c (iEnumZ c.K ta) Γ M kk := fun R F σ H Q hs L X q =>
  h R F σ H _ hs L X fun ws F1 H1 M1 ds e1 L1 r1 ⟨d, xs, e, s, h1⟩ => by
    subst e
    obtain ⟨v, rfl, r2⟩ := r1.one1
    cases s with
    | tup =>
      obtain ⟨a, vs, rfl, p, rr⟩ := r2.of_tup
      exact ⟨a, vs, rfl, .inr ⟨ex_t L1.fr p, q _ F1 H1 M1 _ e1 L1 (walks_enumT p rr) h1⟩⟩
    | lst =>
      obtain ⟨a, vs, rfl, p, rr⟩ := r2.of_lst
      exact ⟨a, vs, rfl, .inl ⟨SqL.of (L1.fr _ _ p), q _ F1 H1 M1 _ e1 L1 (walks_enumL (SqL.of p) rr) h1⟩⟩
    | scr =>
      obtain ⟨a, vs, rfl, p, rr⟩ := r2.of_scr
      exact ⟨a, vs, rfl, .inl ⟨ex_l L1.fr p, q _ F1 H1 M1 _ e1 L1 (walks_enumL p rr) h1⟩⟩
/-- zip of two lists, two tuples -/
def zipD (ds es : List D) : List D := List.zipWith (fun d e => D.tup [d, e]) ds es
theorem zipD_length (ds es : List D) : (zipD ds es).length = min ds.length es.length := by unfold zipD; rw [List.length_zipWith]
theorem zipD_get {ds es : List D} {i : Nat} {d : D} (h : (zipD ds es)[i]? = some d) : ∃ a b, ds[i]? = some a ∧ es[i]? = some b ∧ d = .tup [a, b] := by
  unfold zipD at h
  rw [List.getElem?_zipWith] at h
  cases q : ds[i]? with
  | none => rw [q] at h; cases h
  | some a =>
    cases q2 : es[i]? with
    | none => rw [q, q2] at h; cases h
    | some b =>
      rw [q, q2] at h
      exact ⟨a, b, rfl, rfl, (Option.some.inj h).symm⟩
theorem walks_zipL {K : Fg} {F : Hp} {a b : Addr} {vs ws : List V} {ds es : List D} (h : SqL K F a vs) (r : Rps K F vs ds) (h2 : SqL K F b ws) (r2 : Rps K F ws es) : Walks K F (Itz K a b) (zipD ds es) := fun F1 M1 H1 e L => by
  have hs : SqL K H1 a vs := ex_l L.fr (ex_l e h)
  have hs2 : SqL K H1 b ws := ex_l L.fr (ex_l e h2)
  have l1 := r.len
  have l2 := r2.len
  refine ⟨fun i hi => ?_, fun i hi => ⟨vs, ws, hs, hs2, ?_⟩, fun i d x H2 hd hy => ?_⟩
  · rw [zipD_length] at hi
    exact ⟨vs, ws, vs[i]'(by omega), ws[i]'(by omega), hs, hs2, List.getElem?_eq_getElem _, List.getElem?_eq_getElem _⟩
  · rw [zipD_length] at hi
    omega
  · obtain ⟨T, x', y', rfl, nT, rfl, hy, hy2⟩ := hy
    obtain ⟨a', b', ha, hb, rfl⟩ := zipD_get hd
    obtain ⟨v, hv, rv⟩ := r.get ha
    obtain ⟨w, hw, rw_⟩ := r2.get hb
    have ev : x' = v := Option.some.inj ((hy vs hs).symm.trans hv)
    have ew : y' = w := Option.some.inj ((hy2 ws hs2).symm.trans hw)
    subst ev ew
    exact pair_new L nT (rv.mono e) (rw_.mono e)
theorem walks_zipT {K : Fg} {F : Hp} {a b : Addr} {vs ws : List V} {ds es : List D} (h : SqT K F a vs) (r : Rps K F vs ds) (h2 : SqT K F b ws) (r2 : Rps K F ws es) : Walks K F (RZ.ItzT K a b) (zipD ds es) := fun F1 M1 H1 e L => by
  have hs : SqT K H1 a vs := ex_t L.fr (ex_t e h)
  have hs2 : SqT K H1 b ws := ex_t L.fr (ex_t e h2)
  have l1 := r.len
  have l2 := r2.len
  refine ⟨fun i hi => ?_, fun i hi => ⟨vs, ws, hs, hs2, ?_⟩, fun i d x H2 hd hy => ?_⟩
  · rw [zipD_length] at hi
    exact ⟨vs, ws, vs[i]'(by omega), ws[i]'(by omega), hs, hs2, List.getElem?_eq_getElem _, List.getElem?_eq_getElem _⟩
  · rw [zipD_length] at hi
    omega
  · obtain ⟨T, x', y', rfl, nT, rfl, hy, hy2⟩ := hy
    obtain ⟨a', b', ha, hb, rfl⟩ := zipD_get hd
    obtain ⟨v, hv, rv⟩ := r.get ha
    obtain ⟨w, hw, rw_⟩ := r2.get hb
    have ev : x' = v := Option.some.inj ((hy vs hs).symm.trans hv)
    have ew : y' = w := Option.some.inj ((hy2 ws hs2).symm.trans hw)
    subst ev ew
    exact pair_new L nT (rv.mono e) (rw_.mono e)
def iZipZ (K : Fg) (ta : TA) : TI := RZ.iZipA K ta
theorem zi_zipT {ta : TA} (h : ZA c ta Γ M fun ds M1 => ∃ xs ys, ds = [.tup xs, .tup ys] ∧ kk (zipD xs ys) M1) : ZI c (iZipZ c.K ta) Γ M kk := fun R F σ H Q hs L X q =>
  h R F σ H _ hs L X fun ws F1 H1 M1 ds e1 L1 r1 ⟨xs, ys, e, h1⟩ => by
    subst e
    obtain ⟨v, w, rfl, r2, r3⟩ := r1.two
    obtain ⟨a, vs, rfl, p, rr⟩ := r2.of_tup
    obtain ⟨b, ws, rfl, p2, rr2⟩ := r3.of_tup
    exact ⟨a, b, vs, ws, rfl, .inr ⟨ex_t L1.fr p, ex_t L1.fr p2, q _ F1 H1 M1 _ e1 L1 (walks_zipT p rr p2 rr2) h1⟩⟩
theorem zi_zipL {ta : TA} (h : ZA c ta Γ M fun ds M1 => ∃ xs ys, ds = [.lst xs, .lst ys] ∧ kk (zipD xs ys) M1) : ZI c (iZipZ c.K ta) Γ M kk := fun R F σ H Q hs L X q =>
  h R F σ H _ hs L X fun ws F1 H1 M1 ds e1 L1 r1 ⟨xs, ys, e, h1⟩ => by
    subst e
    obtain ⟨v, w, rfl, r2, r3⟩ := r1.two
    obtain ⟨a, vs, rfl, p, rr⟩ := r2.of_lst
    obtain ⟨b, ws, rfl, p2, rr2⟩ := r3.of_lst
    exact ⟨a, b, vs, ws, rfl, .inl ⟨SqL.of (L1.fr _ _ p), SqL.of (L1.fr _ _ p2), q _ F1 H1 M1 _ e1 L1 (walks_zipL (SqL.of p) rr (SqL.of p2) rr2) h1⟩⟩
theorem pi_zipZ {X : Cx} {e e2 : Expr} {ta : TA} {p pos tpos : Pos} {elts : List Expr} {kk : Nat} (hg : Gl X "zip") (hm : X.mg "zip" = none) (ha : PA X [e, e2] ta)
    (hs : starEach [e, e2] X.env = (false, eval e X.env) :: starEach [e2] X.env := by rfl) (hpl : (backTo pos (starEach [e2] X.env)).any (·.1) = false := by rfl) :
    PI X (.Tuple elts kk tpos) (.Call (.Name "zip" p) [e, e2] [] pos) (iZipZ X.K ta) := RZ.pi_zipA hg hm ha hs hpl
end
/-! ### comprehensions -/
section
variable {Γ : Gm} {M : Mem} {k : D → Mem → Prop}
theorem z_lc {wi : TI} {g : TG} {tt : TT} {te : TE} {vs : List Nat} (ho : Own g vs) (h : ZI c wi Γ M (LcK c.blk g tt te vs Γ fun ds M1 => k (.lst ds) M1)) : ZE c (tLc wi g tt te vs) Γ M k := fun R F σ H Q hs L X q => by
  refine lc_gen ho h hs L X fun p ws F1 H1 M1 ds e1 L1 hp rr hk => ?_
  have hat : (M1 ++ (p, MO.lst ds) :: R)[M1.length]? = some (p, .lst ds) := by
    rw [List.getElem?_append_right (Nat.le_refl _), Nat.sub_self]
    rfl
  obtain ⟨L2, e2⟩ := L1.frz hat hp
  rw [List.eraseIdx_append_of_length_le (Nat.le_refl _), Nat.sub_self] at L2
  exact q _ _ H1 M1 (.lst ds) (e1.trans e2) L2 (.mk_lst upd_same (rr.mono e2)) hk
theorem Lay.perm {K : Fg} {F H : Hp} {M M' : Mem} (L : Lay K F M H) (p : M.Perm M') : Lay K F M' H := ⟨L.fr, ((p.map (·.1)).nodup_iff).mp L.nd, fun q hq => L.ap q (p.mem_iff.mpr hq), fun q hq => L.mu q (p.mem_iff.mpr hq)⟩
theorem z_lcM {wi : TI} {g : TG} {tt : TT} {te : TE} {vs : List Nat} (ho : Own g vs) (h : ZI c wi Γ M (LcK c.blk g tt te vs Γ fun ds M1 => ∀ p, k (.at p) ((p, .lst ds) :: M1))) : ZE c (mk (tLc wi g tt te vs)) Γ M k := fun R F σ H Q hs L X q => by
  refine lc_gen ho h hs L X fun p ws F1 H1 M1 ds e1 L1 hp rr hk => ?_
  exact q _ F1 H1 ((p, .lst ds) :: M1) (.at p) e1 (L1.perm List.perm_middle) (.at p) (hk p)
theorem zt_yes {k : Bool → Mem → Prop} (h : k true M) : ZT c tYes Γ M k := fun R F σ H Q hs L _ q => q true F H M true (Ex.refl F) L rfl h
/-- a comprehension that leaves Mem, element by element -/
theorem LcK.map {g : TG} {te : TE} {vs : List Nat} {ds : List D} (f : D → D) (hl : ds.length ≤ sizeLine) {kk : List D → Mem → Prop} (h : ∀ (i : Nat) (d : D), ds[i]? = some d → ZG c g d (zwipe Γ vs) M fun Γ2 M2 => ZE c te Γ2 M2 fun y M4 => y = f d ∧ M4 = M) (hk : kk (ds.map f) M) : LcK c g tYes te vs Γ kk ds M := by
  refine ⟨hl, fun i acc M1 => M1 = M ∧ acc = (ds.take i).map f, ⟨rfl, by simp⟩, fun i d acc M1 hd _ ⟨e1, e2⟩ => ?_, fun acc M1 ⟨e1, e2⟩ => ?_⟩
  · subst e1 e2
    refine fun R F σ H v Q hs L X r q => h i d hd R F σ H v Q hs L X r fun σ' F' H' M' Γ' e L' hs' h' => q σ' F' H' M' Γ' e L' hs' ?_
    refine zt_yes ⟨fun _ => h'.imp fun y M4 ⟨ey, em⟩ => ⟨em, ?_⟩, fun z => nomatch z⟩
    rw [ey, List.take_add_one, hd, List.map_append]
    rfl
  · subst e1 e2
    rw [List.take_length]
    exact hk
end
theorem Lay.lstSet {K : Fg} {F H : Hp} {M R : Mem} {i : Nat} {a : Addr} {ds es : List D} {ys : List V} (L : Lay K F (M ++ R) H) (hi : M[i]? = some (a, .lst ds)) (r : Rps K F ys es) : Lay K F (M.set i (a, .lst es) ++ R) (upd H a (.lst ys)) := L.memSet (mo' := .lst es) hi ⟨ys, upd_same, r⟩
/-! ### methods of a list that changes -/
section
variable {Γ : Gm} {M : Mem} {k : D → Mem → Prop} {to : TE} {ta : TA}
def ZM (c : Cz) (r : V → List V → Hp → VK → Prop) (d : D) (xs : List D) (M : Mem) (k : D → Mem → Prop) : Prop := ∀ (R : Mem) (F H : Hp) (v : V) (vs : List V) (Q : VK), Lay c.K F (M ++ R) H → Rp c.K F v d → Rps c.K F vs xs → EOk c.K R F k Q → r v vs H Q
theorem tyV_of {K : Fg} {H : Hp} {a : Addr} {vs : List V} (h : H a = some (.lst vs)) : tyV K "list" (.ref a) H := .inl ⟨rfl, vs, .inl (.inl h)⟩
theorem z_bm {r : V → List V → Hp → VK → Prop} (h : ZE c to Γ M fun d M1 => (∃ ds, St M1 d ds) ∧ ZA c ta Γ M1 fun xs M2 => ZM c r d xs M2 k) : ZE c (tBM c.K "list" r to ta) Γ M k := fun R F σ H Q hs L X q =>
  h R F σ H _ hs L X fun v F1 H1 M1 d e1 L1 r1 ⟨⟨ds, s⟩, h1⟩ => by
    obtain ⟨a, vs, rfl, p, rr⟩ := s.read L1 r1
    exact ⟨tyV_of p, h1 R F1 σ H1 _ (hs.mono e1) L1 (X.mono e1) fun ws F2 H2 M2 xs e2 L2 r2 h2 => h2 R F2 H2 _ ws Q L2 (r1.mono e2) r2 (q.mono (e1.trans e2))⟩
theorem z_bm0 {r : V → List V → Hp → VK → Prop} (h : ZE c to Γ M fun d M1 => (∃ ds, St M1 d ds) ∧ ZM c r d [] M1 k) : ZE c (tBM0 c.K "list" r to) Γ M k := fun R F σ H Q hs L X q =>
  h R F σ H _ hs L X fun v F1 H1 M1 d e1 L1 r1 ⟨⟨ds, s⟩, h1⟩ => by
    obtain ⟨a, vs, rfl, p, rr⟩ := s.read L1 r1
    exact ⟨tyV_of p, h1 R F1 H1 _ [] Q L1 r1 .nil (q.mono e1)⟩
variable {i : Nat} {a : Addr} {ds : List D} {d : D}
theorem zm_append (hi : M[i]? = some (a, .lst ds)) (hl : ds.length < sizeLine) (h : k .non (M.set i (a, .lst (ds ++ [d])))) : ZM c rAppend (.at a) [d] M k := fun R F H v vs Q L r rs q => by
  obtain ⟨w, rfl, r2⟩ := rs.one1
  obtain ⟨xs, e, rr⟩ := L.memAt hi
  rw [r.of_at]
  exact ⟨a, xs, w, rfl, rfl, e, by rw [rr.len]; exact hl, q .non F _ _ .non (Ex.refl F) (L.lstSet (ys := (xs ++ [w])) hi (rr.append (.one r2))) .non h⟩
theorem zm_pop {e : D} (hi : M[i]? = some (a, .lst ds)) (hl : ds[ds.length - 1]? = some e) (h : k e (M.set i (a, .lst ds.dropLast))) : ZM c rPop (.at a) [] M k := fun R F H v vs Q L r rs q => by
  obtain ⟨xs, ex, rr⟩ := L.memAt hi
  obtain ⟨x, hx, rx⟩ := rr.get hl
  rw [r.of_at, rs.unnil]
  exact ⟨a, xs, x, rfl, rfl, ex, by rw [rr.len]; exact hx, q x F _ _ e (Ex.refl F) (L.lstSet (ys := xs.dropLast) hi (rr.dropLast)) rx h⟩
theorem zm_popAt {e : D} {z : Int} {n : Nat} (hi : M[i]? = some (a, .lst ds)) (h1 : -(2 ^ 63) ≤ z) (h2 : z < 2 ^ 63) (hn : seqIndex? z ds.length = some n) (hl : ds[n]? = some e) (h : k e (M.set i (a, .lst (ds.eraseIdx n)))) : ZM c rPopAt (.at a) [.int z] M k := fun R F H v vs Q L r rs q => by
  obtain ⟨w, rfl, r2⟩ := rs.one1
  obtain ⟨xs, ex, rr⟩ := L.memAt hi
  obtain ⟨x, hx, rx⟩ := rr.get hl
  rw [r.of_at, r2.of_int]
  exact ⟨a, xs, z, n, x, rfl, rfl, ex, h1, h2, by rw [rr.len]; exact hn, hx, q x F _ _ e (Ex.refl F) (L.lstSet (ys := (xs.eraseIdx n)) hi (rr.eraseIdx n)) rx h⟩
theorem zm_reverse (hi : M[i]? = some (a, .lst ds)) (h : k .non (M.set i (a, .lst ds.reverse))) : ZM c rReverse (.at a) [] M k := fun R F H v vs Q L r rs q => by
  obtain ⟨xs, ex, rr⟩ := L.memAt hi
  rw [r.of_at, rs.unnil]
  exact ⟨a, xs, rfl, rfl, ex, q .non F _ _ .non (Ex.refl F) (L.lstSet (ys := xs.reverse) hi (rr.reverse)) .non h⟩
theorem zm_extend {x : D} {es : List D} (hi : M[i]? = some (a, .lst ds)) (s : St M x es) (hl : ds.length + es.length ≤ sizeLine) (h : k .non (M.set i (a, .lst (ds ++ es)))) : ZM c rExtend (.at a) [x] M k := fun R F H v vs Q L r rs q => by
  obtain ⟨w, rfl, r2⟩ := rs.one1
  obtain ⟨xs, ex, rr⟩ := L.memAt hi
  obtain ⟨b, ys, rfl, ey, ry⟩ := s.read L r2
  rw [r.of_at]
  exact ⟨a, b, xs, ys, rfl, rfl, ex, ey, by rw [rr.len, ry.len]; exact hl, q .non F _ _ .non (Ex.refl F) (L.lstSet (ys := (xs ++ ys)) hi (rr.append ry)) .non h⟩
def rInsZ : V → List V → Hp → VK → Prop := fun x vs H Q => ∃ (l : Addr) (xs : List V) (i : Int) (y : V), x = .ref l ∧ vs = [.int i, y] ∧ H l = some (.lst xs) ∧ xs.length < sizeLine ∧ 0 ≤ i ∧ i < 2 ^ 63 ∧
    Q .non (upd H l (.lst (xs.take i.toNat ++ [y] ++ xs.drop i.toNat)))
theorem mt_insZ {X : Cx} : MtR X "list.insert" rInsZ := mt_insert
theorem zm_insert {z : Int} (hi : M[i]? = some (a, .lst ds)) (hl : ds.length < sizeLine) (h0 : 0 ≤ z) (h1 : z < 2 ^ 63) (h : k .non (M.set i (a, .lst (ds.take z.toNat ++ [d] ++ ds.drop z.toNat)))) : ZM c rInsZ (.at a) [.int z, d] M k := fun R F H v vs Q L r rs q => by
  obtain ⟨w, w2, rfl, r2, r3⟩ := rs.two
  obtain ⟨xs, e, rr⟩ := L.memAt hi
  rw [r.of_at, r2.of_int]
  exact ⟨a, xs, z, w2, rfl, rfl, e, by rw [rr.len]; exact hl, h0, h1, q .non F _ _ .non (Ex.refl F) (L.lstSet (ys := (xs.take z.toNat ++ [w2] ++ xs.drop z.toNat)) hi (((rr.take _).append (.one r3)).append (rr.drop _))) .non h⟩
/-- xs[i] = e -/
theorem zg_setL {ti : TE} {kg : Gm → Mem → Prop} (h : ZE c to Γ M fun o M1 => ZE c ti Γ M1 fun x M2 => ∃ a n ds z j, o = .at a ∧ x = .int z ∧ M2[n]? = some (a, .lst ds) ∧ ixN ds.length z = some j ∧ kg Γ (M2.set n (a, .lst (ds.set j d)))) : ZG c (gSub to ti rSetL) d Γ M kg := fun R F σ H v Q hs L X r q =>
  h R F σ H _ hs L X fun o F1 H1 M1 od e1 L1 r1 h1 => h1 R F1 σ H1 _ (hs.mono e1) L1 (X.mono e1) fun x F2 H2 M2 xd e2 L2 r2 ⟨a, n, ds, z, j, eo, ex, hn, hj, hk⟩ => by
    subst eo ex
    obtain ⟨xs, e, rr⟩ := L2.memAt hn
    rw [r1.of_at, r2.of_int]
    exact ⟨a, xs, z, j, rfl, rfl, e, by rw [rr.len]; exact hj, q σ F2 _ _ Γ (e1.trans e2) (L2.lstSet (ys := xs.set j v) hn (rr.set j (r.mono (e1.trans e2)))) ((hs.mono e1).mono e2) hk⟩
/-- x += e (ints) -/
theorem zs_aug {te : TE} {f : Int → Int → Int} {n : Nat} {x : Int} {DD : ZEnds} (hx : Γ[n]? = some (some (.int x))) (h : ZE c te Γ M fun d M1 => ∃ y, d = .int y ∧ DD.nx (Γ.set n (some (.int (f x y)))) M1) : ZS c (tAug n te (ipI f)) Γ M DD := fun R F σ H D hs L X q => by
  obtain ⟨v, e, r⟩ := hs.at_ n _ hx
  rw [r.of_int] at e
  refine ⟨_, e, h R F σ H _ hs L X fun w F1 H1 M1 d e1 L1 r1 ⟨y, ed, hk⟩ => ?_⟩
  subst ed
  exact ⟨x, y, rfl, r1.of_int, q.nx _ F1 H1 M1 _ e1 L1 ((hs.mono e1).set n (.int _)) hk⟩
/-- list(range(..)) -/
theorem rgV_rps {K : Fg} {F : Hp} (a b : Int) : Rps K F (rgV a b) (rngD a (b - a).toNat) := by
  unfold rgV rngD
  exact Rps.of_map fun x _ => .int _
theorem z_listRg1 {te : TE} (h : ZE c te Γ M fun d M1 => ∃ n, d = .int n ∧ RgOk 0 n ∧ k (.lst (rngD 0 n.toNat)) M1) : ZE c (tLstRg (tRg1 te)) Γ M k := fun R F σ H Q hs L X q =>
  h R F σ H _ hs L X fun v F1 H1 M1 d e1 L1 r1 ⟨n, ed, ok, hk⟩ => by
    subst ed
    refine ⟨n, r1.of_int, ok, fun p hp => q _ _ _ M1 _ (e1.trans (ex_upd (L1.free hp))) (L1.new hp) (.mk_lst upd_same ((rgV_rps 0 n).mono (Ex.refl _))) ?_⟩
    rw [Int.sub_zero]
    exact hk
theorem z_listRg1M {te : TE} (h : ZE c te Γ M fun d M1 => ∃ n, d = .int n ∧ RgOk 0 n ∧ ∀ p, k (.at p) ((p, .lst (rngD 0 n.toNat)) :: M1)) : ZE c (mk (tLstRg (tRg1 te))) Γ M k := fun R F σ H Q hs L X q =>
  h R F σ H _ hs L X fun v F1 H1 M1 d e1 L1 r1 ⟨n, ed, ok, hk⟩ => by
    subst ed
    refine ⟨n, r1.of_int, ok, fun p hp => q _ F1 _ ((p, .lst (rngD 0 n.toNat)) :: M1) (.at p) e1 (L1.newM hp ⟨_, upd_same, ?_⟩) (.at p) (hk p)⟩
    have x := rgV_rps (K := c.K) (F := F1) 0 n
    rw [Int.sub_zero] at x
    exact x
/-- list * int, the new list may change -/
theorem z_repLM {ta tb : TE} (h : ZE c ta Γ M fun x M1 => ZE c tb Γ M1 fun y M2 => ∃ xs n, St M2 x xs ∧ y = .int n ∧ -(2 ^ 63) ≤ n ∧ n < 2 ^ 63 ∧ xs.length * n.toNat ≤ sizeLine ∧ ∀ p, k (.at p) ((p, .lst (List.replicate n.toNat xs).flatten) :: M2)) : ZE c (mk (tOp rMulZ ta tb)) Γ M k := fun R F σ H Q hs L X q =>
  h R F σ H _ hs L X fun v F1 H1 M1 x e1 L1 r1 h1 => h1 R F1 σ H1 _ (hs.mono e1) L1 (X.mono e1) fun w F2 H2 M2 y e2 L2 r2 ⟨xs, n, s, ey, b1, b2, b3, hk⟩ => by
    subst ey
    obtain ⟨a, vs, rfl, e, rr⟩ := s.read L2 (r1.mono e2)
    exact .inr ⟨a, n, vs, rfl, r2.of_int, e, b1, b2, by rw [rr.len]; exact b3, fun p hp => q _ F2 _ ((p, .lst (List.replicate n.toNat xs).flatten) :: M2) (.at p) (e1.trans e2) (L2.newM hp ⟨_, upd_same, rr.rep n.toNat⟩) (.at p) (hk p)⟩
end
/-! ### calls of defs -/
abbrev ZSp := List D → Mem → (D → Mem → Prop) → Prop
/-- a promise over data, as the layer takes it -/
def toSp (K : Fg) (S : ZSp) : Sp := fun vs H Q _ => ∃ (R : Mem) (F : Hp) (M : Mem) (ds : List D) (k : D → Mem → Prop), Lay K F (M ++ R) H ∧ Rps K F vs ds ∧ S ds M k ∧ EOk K R F k Q
/-- a call of a def by values -/
def zcall (K : Fg) (S : ZSp) : List V → Hp → VK → Prop := fun vs H Q => toSp K S vs H Q fun _ _ _ => False
/-- the def x of the module keeps the promise S for these arguments -/
structure FnZ (P : Program) (w : World) (K : Fg) (mg : Str → Option Value) (base : Heap) (x : Str) (k : Nat) (S : ZSp) : Prop where
  ex : ∃ (f : Addr) (fd : FuncData) (ps : List Str) (sp : Sp) (ds : List Value) (dvs : List V), FnOk P w K mg base CX0 k f fd ps sp ∧ mg x = some (.ref f) ∧ PySem.W.keepIn K (.ref f) = true ∧ Binds K fd ps ds ∧ Vals dvs ds ∧
    ∀ vs H Q, zcall K S vs H Q → sp (vs ++ dvs) H Q E0
section
variable {X : Cx} {k : Nat} {S : ZSp} {x : Str} {e : Expr} {es : List Expr} {t : TA} {p pos : Pos}
theorem p_call {j : Nat} (G : FnZ X.prog X.w X.K X.mg X.base x k S) (hr : Room j X.A) (ha : PA X (e :: es) t) (hj : k ≤ j := by decide) (hg : Gl X x := by rfl) (hdb : (x == ("__debug__" : Str)) = false := by decide)
    (he : starEach (e :: es) X.env = (false, eval e X.env) :: starEach es X.env := by rfl) (hpl : (backTo pos (starEach es X.env)).any (·.1) = false := by rfl) : PE X (.Call (.Name x p) (e :: es) [] pos) (tCB (zcall X.K S) t) := by
  obtain ⟨f, fd, ps, sp, ds, dvs, F, hm, hk, hb, hd, hs⟩ := G.ex
  refine ⟨fun pins s σ H Q I h => ?_⟩
  refine wpAny_Call_Name_kw (ld_glob I hg hm ?_ hdb)
  refine PySem.W.callWith_K (h₀ := X.base) I.ok.mod.kin hk (thn (ha.run pos pins s σ H _ I h) fun us s1 ⟨vs, H1, I1, r, q⟩ => ⟨I1.kIn, ?_⟩) he hpl
  exact run_fn F (hr.mono hj) hb hd pass0 I1 r (hs vs H1 Q q)
theorem p_call0 {j : Nat} (G : FnZ X.prog X.w X.K X.mg X.base x k S) (hr : Room j X.A) (hj : k ≤ j := by decide) (hg : Gl X x := by rfl) (hdb : (x == ("__debug__" : Str)) = false := by decide) : PE X (.Call (.Name x p) [] [] pos) (tCB (zcall X.K S) tNil) := by
  obtain ⟨f, fd, ps, sp, ds, dvs, F, hm, hk, hb, hd, hs⟩ := G.ex
  have h := pe_call0 F (hr.mono hj) hg hm hk hb hd pass0 hdb (p := p) (pos := pos)
  exact ⟨fun pins s σ H Q I q => h.run pins s σ H Q I (hs [] H Q q)⟩
end
theorem zc_call {S : ZSp} {ds : List D} {M : Mem} {k : D → Mem → Prop} (h : S ds M k) : ZC c (zcall c.K S) ds M k := fun R F H vs Q L r q => ⟨R, F, M, ds, k, L, r, h, q⟩
/-! ### a def's body -/
def startD (N : List Str) (ds : List D) : Gm := ds.map some ++ List.replicate (N.length - ds.length) none
theorem has_start {K : Fg} {F : Hp} {N : List Str} {vs : List V} {ds : List D} (r : Rps K F vs ds) : Has K F (L2.start N vs) (startD N ds) := ⟨by
  unfold L2.start startD
  rw [List.length_append, List.length_append, List.length_map, List.length_map, List.length_replicate, List.length_replicate, r.len], fun i d h => by
  unfold startD at h
  unfold L2.start
  by_cases hi : i < ds.length
  · rw [List.getElem?_append_left (by rw [List.length_map]; exact hi), List.getElem?_map] at h
    obtain ⟨d', hd', e⟩ := Option.map_eq_some_iff.mp h
    cases e
    obtain ⟨v, hv, rv⟩ := r.get hd'
    refine ⟨v, ?_, rv⟩
    rw [List.getElem?_append_left (by rw [List.length_map, r.len]; exact hi), List.getElem?_map, hv]
    rfl
  · rw [List.getElem?_append_right (by rw [List.length_map]; omega), List.getElem?_replicate] at h
    split at h
    · cases h
    · cases h⟩
section
variable {P : Program} {w : World} {K : Fg} {mg : Str → Option Value} {base : Heap} {x qual : Str} {params : Arguments} {body : List Stmt} {scope : Scope} {dvs : List V} {kws : List (Str × V)} {f : Addr} {fd : FuncData} {N ps : List Str} {k : Nat}
/-- THE RULE for a def that lets no exception out: t its reading, then what the reading asks of data -/
theorem fn_z (F : FunD K x qual params body scope dvs kws f fd) (Sc : FnScope N ps scope) (S : ZSp) (len : ∀ ds M kk, S ds M kk → ds.length = ps.length) (t : TS)
    (ht : ∀ (cdv : Value) (A : Around) (outer : List Env) (s : Shared) (H : Hp) (E : XK), Room k (A.deeper (envOfC qual scope s.heap.objs.size f cdv)) → PSs (cxOf CX0 P w K mg base N qual scope f cdv A outer s H E).nox body t)
    (hz : ∀ ds M kk, S ds M kk → ZS { K := K } t (startD N ds) M { nx := fun _ M' => kk .non M', rt := kk }) : FnOk P w K mg base CX0 (k + 1) f fd ps (toSp K S) := by
  refine F.ok Sc (fun vs H Q E ⟨R, F, M, ds, kk, L, r, s, q⟩ => by rw [r.len]; exact len ds M kk s) fun cdv A outer s H vs Q E hr ⟨R, F, M, ds, kk, L, r, sp, q⟩ => ⟨t, (ht cdv A outer s H E hr).nox, ?_⟩
  refine hz ds M kk sp R F _ H _ (has_start r) L (fun _ _ _ _ _ _ _ _ _ _ _ _ h => h) ⟨fun σ' F' H' M' Γ' e L' hs' h' => q .non F' H' M' .non e L' .non h', fun v F' H' M' d e L' r' h' => q v F' H' M' d e L' r' h', fun σ' F' H' M' Γ' e L' hs' h' => h'.elim, fun σ' F' H' M' Γ' e L' hs' h' => h'.elim⟩
/-- a def without defaults is called -/
theorem fnz_of {S : ZSp} (F : FunD K x qual params body scope [] kws f fd) (G : FnOk P w K mg base CX0 k f fd ps (toSp K S)) (hm : mg x = some (.ref f)) (hb : Binds K fd ps []) : FnZ P w K mg base x k S :=
  ⟨f, fd, ps, toSp K S, [], [], G, hm, F.kp, hb, .nil, fun vs H Q ⟨R, F, M, ds, kk, L, r, s, q⟩ => by rw [List.append_nil]; exact ⟨R, F, M, ds, kk, L, r, s, q⟩⟩
/-- a weaker promise -/
theorem FnZ.imp {S S' : ZSp} (G : FnZ P w K mg base x k S) (h : ∀ ds M kk, S' ds M kk → S ds M kk) : FnZ P w K mg base x k S' := by
  obtain ⟨f, fd, ps, sp, ds, dvs, F, hm, hk, hb, hd, hs⟩ := G.ex
  exact ⟨f, fd, ps, sp, ds, dvs, F, hm, hk, hb, hd, fun vs H Q ⟨R, F, M, ds, kk, L, r, s, q⟩ => hs vs H Q ⟨R, F, M, ds, kk, L, r, h ds M kk s, q⟩⟩
theorem FnZ.up {S : ZSp} {j : Nat} (G : FnZ P w K mg base x k S) (h : k ≤ j) : FnZ P w K mg base x j S := by
  obtain ⟨f, fd, ps, sp, ds, dvs, F, hm, hk, hb, hd, hs⟩ := G.ex
  exact ⟨f, fd, ps, sp, ds, dvs, F.mono h, hm, hk, hb, hd, hs⟩
end
/-! ### a law's end -/
def SLaw : ZSp := fun ds M k => ∃ ns : List Int, ds = [.scr (ns.map D.int)] ∧ M = [] ∧ ns.length ≤ 63 ∧ ∀ M', k (.bl true) M'
theorem law_sp {K : Fg} {H : Hp} {a : Addr} {ns : List Int} (hl : ns.length ≤ 63) (hS : SqL K H a (ns.map V.int)) : toSp K SLaw [.ref a] H (fun v _ => v = .bl true) fun _ _ _ => False :=
  ⟨[], H, [], [.scr (ns.map D.int)], fun d _ => d = .bl true, ⟨fun _ _ h => h, List.nodup_nil, fun _ h => by simp at h, fun _ h => by simp at h⟩, .one (.mk_scr hS (Rps.of_map fun x _ => .int x)), ⟨ns, rfl, rfl, hl, fun _ => rfl⟩, fun v F' H' M' d e L r h => by
    subst h
    exact r.of_bl⟩
end Z
set_option maxRecDepth 100000
set_option Elab.async false
namespace PySem.Z
open PySem Sem

theorem zz_typeCall (vs : List Value) : checkTypeCall "zip" ⟨vs, []⟩ = pure () := by kernel_rfl
theorem zz_newCall (vs : List Value) : checkBuiltinCall "zip.__new__" ⟨.type "zip" :: vs, []⟩ = pure () := by cases vs <;> kernel_rfl
theorem zz_argsInit (obj : Value) (vs : List Value) : argsOk "object.__init__" ⟨obj :: vs, []⟩ := by
  unfold argsOk; rw [signature?_of (id := "object.__init__") (n := ['_', '_', 't', 'i', 'n', 'i', '_', '_']) (o := ['t', 'c', 'e', 'j', 'b', 'o']) (by kernel_rfl) F.owner_object]; kernel_rfl

theorem forIn_any {M : Model} {A : Around} {E : Value → Shared → Prop} {α β : Type} {f : α → β → Sem (ForInStep β)} {Q : β → Shared → Prop} (I : List α → β → Shared → Prop)
    (hs : ∀ a r b s, I (a :: r) b s → wpAny M A (f a b) (fun st s' => ∃ b', st = .yield b' ∧ I r b' s') E s) (hd : ∀ b s, I [] b s → Q b s) :
    ∀ (l : List α) (b : β) (s : Shared), I l b s → wpAny M A (forIn l b f) Q E s
  | [], b, s, h => by rw [List.forIn_nil]; exact wpAny_pure (hd b s h)
  | a :: r, b, s, h => by
    rw [List.forIn_cons]
    refine wpAny_bind (wpAny_mono (hs a r b s h) (fun st s' h' => ?_) fun _ _ x => x)
    obtain ⟨b', rfl, h'⟩ := h'
    exact forIn_any I hs hd r b' s' h'

theorem nn {a b : Nat} (h : a ≠ b) : @Ne Addr a b := h
structure Rw where
  at_ : Nat
  lst : Bool
  vals : Array Value
def RowAt (h : Heap) (r : Rw) : Prop := match r.lst with | true => h.IsList r.at_ r.vals | false => h.IsTuple r.at_ r.vals
def ItAt (h : Heap) (it : Addr) (r : Rw) (i : Nat) : Prop := match r.lst with | true => h.IsListIter it r.at_ i | false => h.IsTupleIter it r.at_ i
theorem RowAt.keep {h h' : Heap} {r : Rw} (x : RowAt h r) (k : ∀ o, h.get? r.at_ = some o → h'.get? r.at_ = some o) : RowAt h' r := by
  obtain ⟨a, l, v⟩ := r; cases l <;> exact Exists.elim x fun o y => ⟨o, k o y.1, y.2⟩
theorem ItAt.keep {h h' : Heap} {r : Rw} {it i} (x : ItAt h it r i) (k : ∀ o, h.get? it = some o → h'.get? it = some o) : ItAt h' it r i := by
  obtain ⟨a, l, v⟩ := r; cases l <;> exact Exists.elim x fun o y => ⟨o, k o y.1, y.2⟩

section
variable {prog : Program} {w : World} {A : Around} {E : Value → Shared → Prop} {s : Shared}
theorem zz_item {it : Addr} {i : Nat} {r : Rw} {x : Value} {Q : Value → Shared → Prop} (hit : ItAt s.heap it r i) (hr : RowAt s.heap r) (hx : r.vals[i]? = some x)
    (hQ : ∀ h', ItAt h' it r (i + 1) → Heap.SameBut it s.heap h' → Q x { s with heap := h' }) : wpAny (model prog w) A (Builtin.SmallTypes.nextOf (.ref it)) Q E s := by
  obtain ⟨a, l, v⟩ := r; cases l
  · exact wpAny_nextOf_tuple_item hit hr hx hQ
  · exact wpAny_nextOf_list_item hit hr hx hQ
theorem zz_end {it : Addr} {i : Nat} {r : Rw} {Q : Value → Shared → Prop} (hh : A.handled = none) (hit : ItAt s.heap it r i) (hr : RowAt s.heap r) (hx : r.vals[i]? = none)
    (hE : ∀ h' e, Heap.ExtBut it s.heap h' → (∃ o, h'.get? e = some o ∧ o.cls = .type "StopIteration") → E (.ref e) { s with heap := h' }) : wpAny (model prog w) A (Builtin.SmallTypes.nextOf (.ref it)) Q E s := by
  obtain ⟨a, l, v⟩ := r; cases l
  · exact wpAny_nextOf_tuple_end hh hit hr hx hE
  · exact wpAny_nextOf_list_end hh hit hr hx hE

def refsF : Nat → Nat → List Value
  | _, 0 => []
  | b, n + 1 => .ref b :: refsF (b + 1) n
theorem refsF_length : ∀ n b, (refsF b n).length = n
  | 0, _ => rfl
  | n + 1, b => by rw [refsF, List.length_cons, refsF_length n]
theorem refsF_snoc : ∀ n b, refsF b n ++ [.ref (b + n)] = refsF b (n + 1)
  | 0, b => rfl
  | n + 1, b => by
    show Value.ref b :: (refsF (b + 1) n ++ [.ref (b + (n + 1))]) = .ref b :: refsF (b + 1) (n + 1)
    rw [← refsF_snoc n (b + 1), show b + (n + 1) = b + 1 + n by omega]

theorem upd_tup {T : Addr} {arr : Array Value} {x : Value} {k : Nat} {Q : Unit → Shared → Prop} (hT : s.heap.get? T = some { cls := .type "tuple", data := .seq arr }) (hsz : arr.size ≤ sizeLine)
    (h : ∀ h', h'.get? T = some { cls := .type "tuple", data := .seq (arr.setIfInBounds k x) } → Heap.SameBut T s.heap h' → Q () { s with heap := h' }) :
    wpAny (model prog w) A (updateSeq T (·.setIfInBounds k x)) Q E s := by
  refine wpAny_updateSeq hT rfl (h _ ?_ (Heap.SameBut.update ..)) hsz (by simp; omega)
  rw [Heap.get?_update_self _ hT rfl]
  simp [Obj.mapSeq]

/-- the first next of a zip -/
theorem zn_item0 {b n : Nat} {rs : List Rw} {arr : Array Value} {Q : Value → Shared → Prop} (hn : rs.length = n) (hnz : 0 < n) (hlin : n ≤ sizeLine)
    (hrow : ∀ j r, rs[j]? = some r → r.at_ < b ∧ RowAt s.heap r ∧ ItAt s.heap (b + j) r 0 ∧ ∃ x, r.vals[0]? = some x)
    (hz : IsZip s.heap (b + n + 2) (b + n) (b + n + 1) .none) (hTI : s.heap.get? (b + n) = some { cls := .type "tuple", data := .seq (refsF b n).toArray })
    (hTO : s.heap.get? (b + n + 1) = some { cls := .type "tuple", data := .seq arr }) (harr : arr.size = n)
    (hQ : ∀ h' col tk, col.size = n → (∀ (j : Nat) (r : Rw), rs[j]? = some r → col[j]? = r.vals[0]?) → IsZip h' (b + n + 2) (b + n) (b + n + 1) (rawInt s.heap.objs.size) →
      (∀ (j : Nat) (r : Rw), rs[j]? = some r → ItAt h' (b + j) r 1) → h'.get? (b + n) = some { cls := .type "tuple", data := .seq (refsF b n).toArray } →
      h'.get? s.heap.objs.size = some { cls := .type "tuple", data := .seq col } → h'.objs.size = s.heap.objs.size + 1 →
      (∀ c o, (c < b ∨ b + n + 2 < c) → s.heap.get? c = some o → h'.get? c = some o) → Q (.ref s.heap.objs.size) { s with heap := h', toks := tk }) :
    wpAny (model prog w) A (Builtin.«zip.__next__» ⟨[.ref (b + n + 2)], []⟩) (fun fin s' => ∃ v, fin = .done (.ret v) ∧ Q v s') E s := by
  obtain ⟨hp, g, d, tk0, os⟩ := s
  show wpAny _ _ (field (.ref (b + n + 2)) 2 >>= _) _ _ _
  refine wpAny_bind (wpAny_field hz rfl (x := .bool false) rfl ?_)
  show wpAny _ _ (field (.ref (b + n + 2)) 3 >>= _) _ _ _
  refine wpAny_bind (wpAny_field hz rfl (x := .ref (b + n)) rfl ?_)
  refine wpAny_bind (wpAny_seqItems hTI rfl ?_)
  obtain ⟨m, rfl⟩ : ∃ m, n = m + 1 := ⟨n - 1, by omega⟩
  show wpAny _ _ (Builtin.SmallTypes.ownedTupleIsFree (.ref (b + (m + 1) + 2)) >>= _) _ _ _
  refine wpAny_bind ?_
  unfold Builtin.SmallTypes.ownedTupleIsFree
  refine wpAny_bind (wpAny_field hz rfl (x := .none) rfl (wpAny_pure ?_))
  simp only [if_true]
  refine wpAny_bind (wpAny_rule ?_)
  refine wpAny_bind (wpAny_field hz rfl (x := .ref (b + (m + 1) + 1)) rfl ?_)
  refine wpAny_bind (wpAny_setField_rec hz (by simp) fun g0 hz0 hs0 => ?_)
  replace hz0 : IsZip g0 (b + (m + 1) + 2) (b + (m + 1)) (b + (m + 1) + 1) .ellipsis := hz0
  replace hs0 : Heap.SameBut (b + (m + 1) + 2) hp g0 := hs0
  refine wpAny_bind (forIn_any (fun l bb s' => bb = ⟨none, ⟨⟩⟩ ∧ ∃ k m' arr' tk h', l = (refsF (b + k) m').zipIdx k ∧ k + m' = m + 1 ∧ s' = ⟨h', g, d, tk, os⟩ ∧
      IsZip h' (b + (m + 1) + 2) (b + (m + 1)) (b + (m + 1) + 1) .ellipsis ∧ h'.get? (b + (m + 1)) = some { cls := .type "tuple", data := .seq (refsF b (m + 1)).toArray } ∧
      h'.get? (b + (m + 1) + 1) = some { cls := .type "tuple", data := .seq arr' } ∧ arr'.size = m + 1 ∧ (∀ (j : Nat) (r : Rw), j < k → rs[j]? = some r → arr'[j]? = r.vals[0]?) ∧
      (∀ (j : Nat) (r : Rw), rs[j]? = some r → ItAt h' (b + j) r (if j < k then 1 else 0)) ∧ h'.objs.size = hp.objs.size ∧
      (∀ c o, (c < b ∨ b + (m + 1) + 2 < c) → hp.get? c = some o → h'.get? c = some o)) ?_ ?_ _ _ _ ?_)
  · rintro ⟨v, k⟩ r bb s' ⟨rfl, k0, m', arr', tk, h', hl, hkm, rfl, hz', hTI', hTO', ha', hcol, hit, hsz, hkp⟩
    cases m' with
    | zero => cases hl
    | succ m' =>
    obtain ⟨⟨rfl, rfl⟩, rfl⟩ := (by simpa [refsF, List.zipIdx_cons] using hl : (v = Value.ref (b + k0) ∧ k = k0) ∧ r = (refsF (b + k0 + 1) m').zipIdx (k0 + 1))
    obtain ⟨r, hr⟩ : ∃ r, rs[k]? = some r := ⟨rs[k]'(by omega), List.getElem?_eq_getElem (by omega)⟩
    obtain ⟨h1, h2, _, x, hx⟩ := hrow k r hr
    have hI := hit k r hr
    rw [if_neg (Nat.lt_irrefl k)] at hI
    refine wpAny_bind (wpAny_onRaise ?_)
    show wpAny _ _ (Builtin.SmallTypes.nextOf (.ref (b + k)) >>= _) _ _ _
    refine wpAny_bind (zz_item (s := ⟨h', g, d, tk, os⟩) hI (h2.keep fun o e => hkp _ o (.inl h1) e) hx fun p hit1 hs1 => wpAny_pure ?_)
    replace hs1 : Heap.SameBut (b + k) h' p := hs1
    have hU : p.get? (b + (m + 1) + 1) = some { cls := .type "tuple", data := .seq arr' } := hs1.extBut _ _ (nn (by omega)) hTO'
    refine wpAny_bind (wpAny_seqItems (s := ⟨p, g, d, tk, os⟩) hU rfl ?_)
    refine wpAny_bind (upd_tup (s := ⟨p, g, d, tk, os⟩) hU (by omega) fun q hq hs2 => ?_)
    replace hs2 : Heap.SameBut (b + (m + 1) + 1) p q := hs2
    refine wpAny_bind (wpAny_letGo (wpAny_pure ⟨_, rfl, rfl, k + 1, m', _, tk, q, by rw [show b + (k + 1) = b + k + 1 by omega], by omega, rfl, hs2.extBut _ _ (nn (by omega)) (hs1.extBut _ _ (nn (by omega)) hz'),
      hs2.extBut _ _ (nn (by omega)) (hs1.extBut _ _ (nn (by omega)) hTI'), hq, by simp [ha'], ?_, ?_, by rw [hs2.1, hs1.1, hsz], ?_⟩))
    · intro j r' hj hr'
      by_cases e : j = k
      · subst e; rw [hr] at hr'; cases hr'; rw [hx, Array.getElem?_setIfInBounds_self_of_lt (by omega)]
      · rw [Array.getElem?_setIfInBounds_ne (Ne.symm e)]; exact hcol j r' (by omega) hr'
    · intro j r' hr'
      by_cases e : j = k
      · subst e; rw [hr] at hr'; cases hr'; rw [if_pos (Nat.lt_succ_self _)]; exact hit1.keep fun o e => hs2.extBut _ _ (nn (by omega)) e
      · have := hit j r' hr'
        have hjn : j < m + 1 := by rw [← hn]; exact (List.getElem?_eq_some_iff.mp hr').1
        rw [show (if j < k + 1 then 1 else 0) = (if j < k then 1 else 0) by split <;> split <;> omega]
        exact this.keep fun o e => hs2.extBut _ _ (nn (by omega)) (hs1.extBut _ _ (nn (by omega)) e)
    · intro c o hc e
      exact hs2.extBut _ _ (nn (by omega)) (hs1.extBut _ _ (nn (by omega)) (hkp c o hc e))
  · rintro bb s' ⟨rfl, k, m', arr', tk, h', hl, hkm, rfl, hz', hTI', hTO', ha', hcol, hit, hsz, hkp⟩
    cases m' with
    | succ m' => cases hl
    | zero =>
    obtain rfl : k = m + 1 := by omega
    refine wpAny_bind (wpAny_seqItems (s := ⟨h', g, d, tk, os⟩) hTO' rfl ?_)
    refine wpAny_bind (wpAny_newTuple ?_ (by simp; omega))
    have hlt : b + (m + 1) + 2 < h'.objs.size := Heap.lt_size hz'
    refine wpAny_bind ?_
    show wpAny _ _ (Builtin.SmallTypes.ownedTupleHandOut (.ref (b + (m + 1) + 2)) (.ref h'.objs.size)) _ _ ⟨h'.push { cls := .type "tuple", data := .seq arr'.toList.toArray }, g, d, tk, os⟩
    unfold Builtin.SmallTypes.ownedTupleHandOut
    have hz6 : IsZip (h'.push { cls := .type "tuple", data := .seq arr'.toList.toArray }) (b + (m + 1) + 2) (b + (m + 1)) (b + (m + 1) + 1) .ellipsis := Heap.get?_push_of_some _ hz'
    refine wpAny_bind (wpAny_setField_rec hz6 (by simp) fun h7 hz7 hs7 => ?_)
    replace hz7 : IsZip h7 (b + (m + 1) + 2) (b + (m + 1)) (b + (m + 1) + 1) (rawInt h'.objs.size) := hz7
    refine wpAny_setField_rec hz7 (by simp) fun h8 hz8 hs8 => ?_
    replace hz8 : IsZip h8 (b + (m + 1) + 2) (b + (m + 1)) (b + (m + 1) + 1) (rawInt h'.objs.size) := hz8
    replace hs7 : Heap.SameBut (b + (m + 1) + 2) (h'.push { cls := .type "tuple", data := .seq arr'.toList.toArray }) h7 := hs7
    replace hs8 : Heap.SameBut (b + (m + 1) + 2) h7 h8 := hs8
    have up : ∀ c o, c ≠ b + (m + 1) + 2 → h'.get? c = some o → h8.get? c = some o := fun c o c1 e => hs8.extBut _ _ c1 (hs7.extBut _ _ c1 (Heap.get?_push_of_some _ e))
    have hT8 : h8.get? h'.objs.size = some { cls := .type "tuple", data := .seq arr' } := by
      have := hs8.extBut _ _ (Nat.ne_of_gt hlt) (hs7.extBut _ _ (Nat.ne_of_gt hlt) (Heap.get?_push_size h' (o := { cls := .type "tuple", data := .seq arr'.toList.toArray }) rfl))
      rw [this]
    have h88 : h8.objs.size = h'.objs.size + 1 := by rw [hs8.1, hs7.1, Heap.size_push]
    refine wpAny_pure ⟨_, rfl, ?_⟩
    rw [hsz] at hz8 hT8 h88
    show Q (.ref h'.objs.size) ⟨h8, g, d, tk, os⟩
    rw [hsz]
    refine hQ h8 arr' tk ha' (fun j r hr => hcol j r (by rw [← hn]; exact (List.getElem?_eq_some_iff.mp hr).1) hr) hz8 (fun j r hr => ?_) (up _ _ (nn (by omega)) hTI') hT8 h88 fun c o hc e => up c o (nn (by omega)) (hkp c o hc e)
    have hjn : j < m + 1 := by rw [← hn]; exact (List.getElem?_eq_some_iff.mp hr).1
    have := hit j r hr
    rw [if_pos hjn] at this
    exact this.keep fun o e => up _ o (nn (by omega)) e
  · have i1 : b + (m + 1) ≠ b + (m + 1) + 2 := by omega
    have i2 : b + (m + 1) + 1 ≠ b + (m + 1) + 2 := by omega
    have i3 : ∀ c, (c < b ∨ b + (m + 1) + 2 < c) → c ≠ b + (m + 1) + 2 := by omega
    refine ⟨rfl, 0, m + 1, arr, tk0, g0, rfl, by omega, rfl, hz0, hs0.extBut _ _ i1 hTI, hs0.extBut _ _ i2 hTO, harr, fun j r hj => absurd hj (Nat.not_lt_zero j), fun j r hr => ?_, hs0.1, fun c o hc e => hs0.extBut _ _ (i3 c hc) e⟩
    have hjn : j < m + 1 := by rw [← hn]; exact (List.getElem?_eq_some_iff.mp hr).1
    rw [if_neg (Nat.not_lt_zero j)]
    exact (hrow j r hr).2.2.1.keep fun o e => hs0.extBut _ _ (nn (by omega)) e

/-- the later nexts: the tuple handed out before is still held -/
theorem zn_itemH {b n i T : Nat} {f : Bool} {oT : Obj} {rs : List Rw} {Q : Value → Shared → Prop} (hn : rs.length = n) (hnz : 0 < n) (hlin : n ≤ sizeLine)
    (hrow : ∀ j r, rs[j]? = some r → r.at_ < b ∧ RowAt s.heap r ∧ ItAt s.heap (b + j) r i ∧ ∃ x, r.vals[i]? = some x)
    (hz : IsZipHeld s.heap (b + n + 2) (b + n) (b + n + 1) T f) (hT : s.heap.get? T = some oT) (hTI : s.heap.get? (b + n) = some { cls := .type "tuple", data := .seq (refsF b n).toArray })
    (hQ : ∀ h' col, col.size = n → (∀ (j : Nat) (r : Rw), rs[j]? = some r → col[j]? = r.vals[i]?) → IsZipHeld h' (b + n + 2) (b + n) (b + n + 1) T true →
      (∀ (j : Nat) (r : Rw), rs[j]? = some r → ItAt h' (b + j) r (i + 1)) → h'.get? (b + n) = some { cls := .type "tuple", data := .seq (refsF b n).toArray } →
      h'.get? s.heap.objs.size = some { cls := .type "tuple", data := .seq col } → h'.objs.size = s.heap.objs.size + 1 →
      (∀ c o, (c < b ∨ b + n + 2 < c) → s.heap.get? c = some o → h'.get? c = some o) → Q (.ref s.heap.objs.size) { s with heap := h' }) :
    wpAny (model prog w) A (Builtin.«zip.__next__» ⟨[.ref (b + n + 2)], []⟩) (fun fin s' => ∃ v, fin = .done (.ret v) ∧ Q v s') E s := by
  obtain ⟨hp, g, d, tk, os⟩ := s
  show wpAny _ _ (field (.ref (b + n + 2)) 2 >>= _) _ _ _
  refine wpAny_bind (wpAny_field hz rfl (x := .bool false) rfl ?_)
  show wpAny _ _ (field (.ref (b + n + 2)) 3 >>= _) _ _ _
  refine wpAny_bind (wpAny_field hz rfl (x := .ref (b + n)) rfl ?_)
  refine wpAny_bind (wpAny_seqItems hTI rfl ?_)
  obtain ⟨m, rfl⟩ : ∃ m, n = m + 1 := ⟨n - 1, by omega⟩
  show wpAny _ _ (Builtin.SmallTypes.ownedTupleIsFree (.ref (b + (m + 1) + 2)) >>= _) _ _ _
  refine wpAny_bind (wpAny_tupleHeld_zip hz hT fun g0 hz0 hs0 => ?_)
  simp only [Bool.false_eq_true, if_false]
  replace hs0 : Heap.SameBut (b + (m + 1) + 2) hp g0 := hs0
  rw [← Array.forIn_toList]
  refine wpAny_bind (forIn_any (fun l bb s' => ∃ acc : Array Value, bb = ⟨none, acc⟩ ∧ ∃ k m' h', l = refsF (b + k) m' ∧ k + m' = m + 1 ∧ s' = ⟨h', g, d, tk, os⟩ ∧
      IsZipHeld h' (b + (m + 1) + 2) (b + (m + 1)) (b + (m + 1) + 1) T true ∧ h'.get? (b + (m + 1)) = some { cls := .type "tuple", data := .seq (refsF b (m + 1)).toArray } ∧
      acc.size = k ∧ (∀ (j : Nat) (r : Rw), j < k → rs[j]? = some r → acc[j]? = r.vals[i]?) ∧
      (∀ (j : Nat) (r : Rw), rs[j]? = some r → ItAt h' (b + j) r (if j < k then i + 1 else i)) ∧ h'.objs.size = hp.objs.size ∧
      (∀ c o, (c < b ∨ b + (m + 1) + 2 < c) → hp.get? c = some o → h'.get? c = some o)) ?_ ?_ _ _ _ ?_)
  · rintro v r bb s' ⟨acc, rfl, k0, m', h', hl, hkm, rfl, hz', hTI', ha', hcol, hit, hsz, hkp⟩
    cases m' with
    | zero => cases hl
    | succ m' =>
    obtain ⟨rfl, rfl⟩ := (by simpa [refsF] using hl : v = Value.ref (b + k0) ∧ r = refsF (b + k0 + 1) m')
    obtain ⟨r, hr⟩ : ∃ r, rs[k0]? = some r := ⟨rs[k0]'(by omega), List.getElem?_eq_getElem (by omega)⟩
    obtain ⟨h1, h2, _, x, hx⟩ := hrow k0 r hr
    have hI := hit k0 r hr
    rw [if_neg (Nat.lt_irrefl k0)] at hI
    refine wpAny_bind (wpAny_holding ?_)
    show wpAny _ _ (Builtin.SmallTypes.nextOf (.ref (b + k0)) >>= _) _ _ _
    refine wpAny_bind (zz_item (s := ⟨h', g, d, tk, os⟩) hI (h2.keep fun o e => hkp _ o (.inl h1) e) hx fun p hit1 hs1 => wpAny_pure ?_)
    replace hs1 : Heap.SameBut (b + k0) h' p := hs1
    refine wpAny_pure ⟨_, rfl, _, rfl, k0 + 1, m', p, by rw [show b + (k0 + 1) = b + k0 + 1 by omega], by omega, rfl, hs1.extBut _ _ (nn (by omega)) hz',
      hs1.extBut _ _ (nn (by omega)) hTI', by simp [ha'], ?_, ?_, by rw [hs1.1, hsz], ?_⟩
    · intro j r' hj hr'
      by_cases e : j = k0
      · subst e; rw [hr] at hr'; cases hr'; rw [hx, Array.getElem?_push, if_pos ha'.symm]
      · rw [Array.getElem?_push, if_neg (show ¬ j = acc.size by omega)]; exact hcol j r' (by omega) hr'
    · intro j r' hr'
      by_cases e : j = k0
      · subst e; rw [hr] at hr'; cases hr'; rw [if_pos (Nat.lt_succ_self _)]; exact hit1
      · have := hit j r' hr'
        have hjn : j < m + 1 := by rw [← hn]; exact (List.getElem?_eq_some_iff.mp hr').1
        rw [show (if j < k0 + 1 then i + 1 else i) = (if j < k0 then i + 1 else i) by split <;> split <;> omega]
        exact this.keep fun o e => hs1.extBut _ _ (nn (by omega)) e
    · intro c o hc e
      exact hs1.extBut _ _ (nn (by omega)) (hkp c o hc e)
  · rintro bb s' ⟨acc, rfl, k, m', h', hl, hkm, rfl, hz', hTI', ha', hcol, hit, hsz, hkp⟩
    cases m' with
    | succ m' => cases hl
    | zero =>
    obtain rfl : k = m + 1 := by omega
    show wpAny _ _ (newTuple acc.toList >>= _) _ _ _
    refine wpAny_bind (wpAny_newTuple ?_ (by simp; omega))
    have hlt : b + (m + 1) + 2 < h'.objs.size := Heap.lt_size hz'
    refine wpAny_pure ⟨_, rfl, ?_⟩
    show Q (.ref h'.objs.size) ⟨h'.push { cls := .type "tuple", data := .seq acc.toList.toArray }, g, d, tk, os⟩
    have hp4 := Heap.get?_push_size h' (o := { cls := .type "tuple", data := .seq acc.toList.toArray }) rfl
    have hz4 : (h'.push { cls := .type "tuple", data := .seq acc.toList.toArray }).objs.size = h'.objs.size + 1 := Heap.size_push ..
    rw [hsz] at hp4 hz4 ⊢
    refine hQ _ acc ha' (fun j r hr => hcol j r (by rw [← hn]; exact (List.getElem?_eq_some_iff.mp hr).1) hr) (Heap.get?_push_of_some _ hz') (fun j r hr => ?_) (Heap.get?_push_of_some _ hTI') hp4 hz4
      fun c o hc e => Heap.get?_push_of_some _ (hkp c o hc e)
    have hjn : j < m + 1 := by rw [← hn]; exact (List.getElem?_eq_some_iff.mp hr).1
    have := hit j r hr
    rw [if_pos hjn] at this
    exact this.keep fun o e => Heap.get?_push_of_some _ e
  · have i1 : b + (m + 1) ≠ b + (m + 1) + 2 := by omega
    have i3 : ∀ c, (c < b ∨ b + (m + 1) + 2 < c) → c ≠ b + (m + 1) + 2 := by omega
    refine ⟨#[], rfl, 0, m + 1, g0, rfl, by omega, rfl, hz0, hs0.extBut _ _ i1 hTI, rfl, fun j r hj => absurd hj (Nat.not_lt_zero j), fun j r hr => ?_, hs0.1, fun c o hc e => hs0.extBut _ _ (i3 c hc) e⟩
    have hjn : j < m + 1 := by rw [← hn]; exact (List.getElem?_eq_some_iff.mp hr).1
    rw [if_neg (Nat.not_lt_zero j)]
    exact (hrow j r hr).2.2.1.keep fun o e => hs0.extBut _ _ (nn (by omega)) e

/-- the end, first next -/
theorem zn_end0 {b n : Nat} {r0 : Rw} {Q : Fin → Shared → Prop} (hh : A.handled = none) (hnz : 0 < n)
    (hr1 : r0.at_ < b) (hr2 : RowAt s.heap r0) (hr3 : ItAt s.heap b r0 0) (hend : r0.vals[0]? = none)
    (hz : IsZip s.heap (b + n + 2) (b + n) (b + n + 1) .none) (hTI : s.heap.get? (b + n) = some { cls := .type "tuple", data := .seq (refsF b n).toArray })
    (hE : ∀ h' e, (∀ c o, (c < b ∨ b + n + 2 < c) → s.heap.get? c = some o → h'.get? c = some o) → (∃ o, h'.get? e = some o ∧ o.cls = .type "StopIteration") → E (.ref e) { s with heap := h' }) :
    wpAny (model prog w) A (Builtin.«zip.__next__» ⟨[.ref (b + n + 2)], []⟩) Q E s := by
  obtain ⟨hp, g, d, tk0, os⟩ := s
  show wpAny _ _ (field (.ref (b + n + 2)) 2 >>= _) _ _ _
  refine wpAny_bind (wpAny_field hz rfl (x := .bool false) rfl ?_)
  show wpAny _ _ (field (.ref (b + n + 2)) 3 >>= _) _ _ _
  refine wpAny_bind (wpAny_field hz rfl (x := .ref (b + n)) rfl ?_)
  refine wpAny_bind (wpAny_seqItems hTI rfl ?_)
  obtain ⟨m, rfl⟩ : ∃ m, n = m + 1 := ⟨n - 1, by omega⟩
  show wpAny _ _ (Builtin.SmallTypes.ownedTupleIsFree (.ref (b + (m + 1) + 2)) >>= _) _ _ _
  refine wpAny_bind ?_
  unfold Builtin.SmallTypes.ownedTupleIsFree
  refine wpAny_bind (wpAny_field hz rfl (x := .none) rfl (wpAny_pure ?_))
  simp only [if_true]
  refine wpAny_bind (wpAny_rule ?_)
  refine wpAny_bind (wpAny_field hz rfl (x := .ref (b + (m + 1) + 1)) rfl ?_)
  refine wpAny_bind (wpAny_setField_rec hz (by simp) fun g0 hz0 hs0 => ?_)
  replace hz0 : IsZip g0 (b + (m + 1) + 2) (b + (m + 1)) (b + (m + 1) + 1) .ellipsis := hz0
  replace hs0 : Heap.SameBut (b + (m + 1) + 2) hp g0 := hs0
  refine wpAny_bind ?_
  simp only [refsF, List.zipIdx_cons, List.forIn_cons]
  refine wpAny_bind (wpAny_bind (wpAny_onRaise ?_))
  show wpAny _ _ (Builtin.SmallTypes.nextOf (.ref b) >>= _) _ _ ⟨g0, g, d, tk0, os⟩
  refine wpAny_bind (zz_end (s := ⟨g0, g, d, tk0, os⟩) hh (hr3.keep fun o e => hs0.extBut _ _ (nn (by omega)) e) (hr2.keep fun o e => hs0.extBut _ _ (nn (by omega)) e) hend fun q e hq he => ?_)
  replace hq : Heap.ExtBut b g0 q := hq
  obtain ⟨oe, hoe, hce⟩ := he
  replace hoe : q.get? e = some oe := hoe
  have hzq : IsZip q (b + (m + 1) + 2) (b + (m + 1)) (b + (m + 1) + 1) .ellipsis := hq _ _ (nn (by omega)) hz0
  have hez : e ≠ b + (m + 1) + 2 := fun x => by subst x; rw [hzq] at hoe; cases hoe; simp at hce
  refine wpAny_setField_rec (s := ⟨q, g, d, tk0, os⟩) hzq (by simp) fun q' _ hq' => ?_
  replace hq' : Heap.SameBut (b + (m + 1) + 2) q q' := hq'
  exact hE q' e (fun c o hc x => hq'.extBut _ _ (nn (by omega)) (hq _ _ (nn (by omega)) (hs0.extBut _ _ (nn (by omega)) x))) ⟨oe, hq'.extBut _ _ hez hoe, hce⟩

theorem zn_endH {b n i T : Nat} {f : Bool} {oT : Obj} {r0 : Rw} {Q : Fin → Shared → Prop} (hh : A.handled = none) (hnz : 0 < n)
    (hr1 : r0.at_ < b) (hr2 : RowAt s.heap r0) (hr3 : ItAt s.heap b r0 i) (hend : r0.vals[i]? = none)
    (hz : IsZipHeld s.heap (b + n + 2) (b + n) (b + n + 1) T f) (hT : s.heap.get? T = some oT) (hTI : s.heap.get? (b + n) = some { cls := .type "tuple", data := .seq (refsF b n).toArray })
    (hE : ∀ h' e, (∀ c o, (c < b ∨ b + n + 2 < c) → s.heap.get? c = some o → h'.get? c = some o) → (∃ o, h'.get? e = some o ∧ o.cls = .type "StopIteration") → E (.ref e) { s with heap := h' }) :
    wpAny (model prog w) A (Builtin.«zip.__next__» ⟨[.ref (b + n + 2)], []⟩) Q E s := by
  obtain ⟨hp, g, d, tk0, os⟩ := s
  show wpAny _ _ (field (.ref (b + n + 2)) 2 >>= _) _ _ _
  refine wpAny_bind (wpAny_field hz rfl (x := .bool false) rfl ?_)
  show wpAny _ _ (field (.ref (b + n + 2)) 3 >>= _) _ _ _
  refine wpAny_bind (wpAny_field hz rfl (x := .ref (b + n)) rfl ?_)
  refine wpAny_bind (wpAny_seqItems hTI rfl ?_)
  obtain ⟨m, rfl⟩ : ∃ m, n = m + 1 := ⟨n - 1, by omega⟩
  show wpAny _ _ (Builtin.SmallTypes.ownedTupleIsFree (.ref (b + (m + 1) + 2)) >>= _) _ _ _
  refine wpAny_bind (wpAny_tupleHeld_zip hz hT fun g0 hz0 hs0 => ?_)
  simp only [Bool.false_eq_true, if_false]
  replace hs0 : Heap.SameBut (b + (m + 1) + 2) hp g0 := hs0
  rw [← Array.forIn_toList]
  refine wpAny_bind ?_
  simp only [refsF, List.forIn_cons]
  refine wpAny_bind (wpAny_bind (wpAny_holding ?_))
  show wpAny _ _ (Builtin.SmallTypes.nextOf (.ref b) >>= _) _ _ ⟨g0, g, d, tk0, os⟩
  refine wpAny_bind (zz_end (s := ⟨g0, g, d, tk0, os⟩) hh (hr3.keep fun o e => hs0.extBut _ _ (nn (by omega)) e) (hr2.keep fun o e => hs0.extBut _ _ (nn (by omega)) e) hend fun q e hq he => ?_)
  replace hq : Heap.ExtBut b g0 q := hq
  exact hE q e (fun c o hc x => (hq _ _ (nn (by omega)) (hs0.extBut _ _ (nn (by omega)) x))) he
/-- zip of nothing ends at once -/
theorem zn_endE {b : Nat} {f0 : Value} {Q : Fin → Shared → Prop} (hh : A.handled = none)
    (hz : IsZip s.heap (b + 2) b (b + 1) f0) (hTI : s.heap.get? b = some { cls := .type "tuple", data := .seq #[] })
    (hE : ∀ h' e, (∀ c o, s.heap.get? c = some o → h'.get? c = some o) → (∃ o, h'.get? e = some o ∧ o.cls = .type "StopIteration") → E (.ref e) { s with heap := h' }) :
    wpAny (model prog w) A (Builtin.«zip.__next__» ⟨[.ref (b + 2)], []⟩) Q E s := by
  obtain ⟨hp, g, d, tk0, os⟩ := s
  show wpAny _ _ (field (.ref (b + 2)) 2 >>= _) _ _ _
  refine wpAny_bind (wpAny_field hz rfl (x := .bool false) rfl ?_)
  show wpAny _ _ (field (.ref (b + 2)) 3 >>= _) _ _ _
  refine wpAny_bind (wpAny_field hz rfl (x := .ref b) rfl ?_)
  refine wpAny_bind (wpAny_seqItems hTI rfl ?_)
  show wpAny _ _ (rule "zip.__next__.no-iterables" >>= _) _ _ _
  refine wpAny_bind (wpAny_rule ?_)
  refine wpAny_bind ?_
  show wpAny _ _ (newExc (.type "StopIteration") [] >>= _) _ _ _
  refine wpAny_bind ?_
  simp only [newExc, newTuple]
  refine wpAny_bind (wpAny_newObj_type ?_ (by size_fits))
  refine wpAny_bind (m := firstArgMember _ _) (wpAny_of_eq (a := Value.none) (by first | rfl | (simp only [firstArgMember]; rfl)) ?_)
  refine wpAny_newObj_type ?_ (by size_fits)
  simp only [raiseNew]
  refine wpAny_bind (wpAny_handled ?_)
  first | rw [show A.in1.handled = none from hh] | rw [hh]
  refine wpAny_bind (wpAny_pure (wpAny_throw ?_))
  exact hE _ _ (fun c o e => Heap.get?_push_of_some _ (Heap.get?_push_of_some _ e)) ⟨_, Heap.get?_push_size _ rfl, rfl⟩
end
end PySem.Z
set_option maxRecDepth 100000
set_option Elab.async false
namespace PySem.Z
open PySem

theorem newClass_zip (vs : List Value) : Builtin.SmallTypes.newClass "zip" ⟨.type "zip" :: vs, []⟩ = pure (.type "zip", vs) := by
  unfold Builtin.SmallTypes.newClass
  simp only [isType, sub_zip, pure_bind, Bool.not_true, Bool.false_eq_true, if_false]

/-- what zip.__new__ leaves -/
structure ZBeg (b : Nat) (rs : List Rw) (h0 h : Heap) : Prop where
  old : ∀ c o, h0.get? c = some o → h.get? c = some o
  it : ∀ (j : Nat) (r : Rw), rs[j]? = some r → ItAt h (b + j) r 0
  TI : h.get? (b + rs.length) = some { cls := .type "tuple", data := .seq (refsF b rs.length).toArray }
  TO : ∃ arr : Array Value, arr.size = rs.length ∧ h.get? (b + rs.length + 1) = some { cls := .type "tuple", data := .seq arr }
  z : IsZip h (b + rs.length + 2) (b + rs.length) (b + rs.length + 1) .none
  size : h.objs.size = b + rs.length + 3

section
variable {prog : Program} {w : World} {A : Around} {E : Value → Shared → Prop} {s : Shared}
theorem zz_iter {r : Rw} {Q : Value → Shared → Prop} (hr : RowAt s.heap r)
    (hQ : ∀ h', ItAt h' s.heap.objs.size r 0 → h'.objs.size = s.heap.objs.size + 1 → (∀ c o, s.heap.get? c = some o → h'.get? c = some o) → Q (.ref s.heap.objs.size) { s with heap := h' }) :
    wpAny (model prog w) A (pyIter (.ref r.at_)) Q E s := by
  obtain ⟨a, l, v⟩ := r; cases l
  · exact wpAny_pyIter_tuple hr (hQ _ ⟨_, Heap.get?_push_size _ rfl, rfl, rfl⟩ (Heap.size_push ..) fun c o e => Heap.get?_push_of_some _ e)
  · exact wpAny_pyIter_list hr (hQ _ ⟨_, Heap.get?_push_size _ rfl, rfl, rfl⟩ (Heap.size_push ..) fun c o e => Heap.get?_push_of_some _ e)
end

theorem zz_new (rs : List Rw) (hlin : rs.length ≤ sizeLine) :
    Meets (Builtin.«zip.__new__» ⟨.type "zip" :: rs.map (fun r => Value.ref r.at_), []⟩) (fun _ R s => (∀ (j : Nat) (r : Rw), rs[j]? = some r → RowAt s.heap r) ∧
      ∀ h', ZBeg s.heap.objs.size rs s.heap h' → R (.ok (.ret (.ref (s.heap.objs.size + rs.length + 2)))) { s with heap := h' }) :=
  .of_wp fun prog w A R s h => by
    obtain ⟨hp, g, d, tk, os⟩ := s; obtain ⟨hr, h⟩ := h
    unfold Builtin.«zip.__new__»
    refine wpAny_bind (wpAny_of_eq (newClass_zip _) ?_)
    try dsimp only
    refine wpAny_bind ?_
    unfold Builtin.SmallTypes.iterAll
    refine wpAny_bind (forIn_any (fun l (bb : Array Value) s' => ∃ k h', l = (rs.drop k).map (fun r => Value.ref r.at_) ∧ k ≤ rs.length ∧ bb = (refsF hp.objs.size k).toArray ∧ s' = ⟨h', g, d, tk, os⟩ ∧
      (∀ (j : Nat) (r : Rw), j < k → rs[j]? = some r → ItAt h' (hp.objs.size + j) r 0) ∧ h'.objs.size = hp.objs.size + k ∧ (∀ c o, hp.get? c = some o → h'.get? c = some o)) ?_ ?_ _ _ _ ?_)
    · rintro v r bb s' ⟨k, h', hl, hk, rfl, rfl, hit, hsz, hkp⟩
      have hlt : k < rs.length := by
        rcases Nat.lt_or_ge k rs.length with h | h
        · exact h
        · rw [List.drop_eq_nil_of_le h] at hl; cases hl
      rw [List.drop_eq_getElem_cons hlt, List.map_cons] at hl
      injection hl with e1 e2
      subst e1 e2
      have hrk : rs[k]? = some rs[k] := List.getElem?_eq_getElem hlt
      refine wpAny_bind (wpAny_holding (zz_iter (s := ⟨h', g, d, tk, os⟩) (r := rs[k]) ?_ fun p hi hsp hkp' => wpAny_pure ⟨_, rfl, k + 1, p, rfl, hlt, ?_, rfl, ?_, ?_, fun c o e => hkp' _ _ (hkp c o e)⟩))
      · exact (hr k _ hrk).keep fun o e => hkp _ o e
      · show (refsF hp.objs.size k).toArray.push (.ref h'.objs.size) = _
        rw [hsz, List.push_toArray, refsF_snoc]
      · intro j r hj hr'
        by_cases e : j = k
        · subst e; rw [hrk] at hr'; cases hr'; rw [← hsz]; exact hi
        · exact (hit j r (by omega) hr').keep fun o e => hkp' _ o e
      · rw [hsp]; show h'.objs.size + 1 = _; rw [hsz]; omega
    · rintro bb s' ⟨k, h', hl, hk, rfl, rfl, hit, hsz, hkp⟩
      have hk' : k = rs.length := by
        rcases Nat.lt_or_ge k rs.length with h | h
        · rw [List.drop_eq_getElem_cons h] at hl; cases hl
        · omega
      subst hk'
      refine wpAny_pure ?_
      have e0 : ((refsF hp.objs.size rs.length).toArray).toList = refsF hp.objs.size rs.length := rfl
      rw [e0]
      refine wpAny_bind (wpAny_newTuple ?_ (by rw [refsF_length]; exact hlin))
      refine wpAny_bind (wpAny_newTuple ?_ (by rw [List.length_map, refsF_length]; exact hlin))
      refine wpAny_bind ?_
      unfold Builtin.SmallTypes.newRecord
      refine wpAny_newObj_type (hd := show (5:Nat) ≤ sizeLine + 2 from Nat.le_of_ble_eq_true rfl) (wpAny_pure ⟨_, rfl, ?_⟩)
      have z1 : (h'.push { cls := .type "tuple", data := .seq (refsF hp.objs.size rs.length).toArray }).objs.size = hp.objs.size + rs.length + 1 := by rw [Heap.size_push, hsz]
      have z2 : ((h'.push { cls := .type "tuple", data := .seq (refsF hp.objs.size rs.length).toArray }).push { cls := .type "tuple", data := .seq ((refsF hp.objs.size rs.length).map fun _ => Value.none).toArray }).objs.size = hp.objs.size + rs.length + 2 := by rw [Heap.size_push, z1]
      show R (.ok (.ret (.ref ((h'.push _).push _).objs.size))) _
      rw [z2]
      refine h _ ⟨fun c o e => Heap.get?_push_of_some _ (Heap.get?_push_of_some _ (Heap.get?_push_of_some _ (hkp c o e))), fun j r hr' => ?_, ?_, ⟨((refsF hp.objs.size rs.length).map fun _ => Value.none).toArray, by simp [refsF_length], ?_⟩, ?_, ?_⟩
      · exact (hit j r (List.getElem?_eq_some_iff.mp hr').1 hr').keep fun o e => Heap.get?_push_of_some _ (Heap.get?_push_of_some _ (Heap.get?_push_of_some _ e))
      · have := Heap.get?_push_size h' (o := { cls := .type "tuple", data := .seq (refsF hp.objs.size rs.length).toArray }) rfl
        rw [hsz] at this
        exact Heap.get?_push_of_some _ (Heap.get?_push_of_some _ this)
      · have := Heap.get?_push_size (h'.push { cls := .type "tuple", data := .seq (refsF hp.objs.size rs.length).toArray }) (o := { cls := .type "tuple", data := .seq ((refsF hp.objs.size rs.length).map fun _ => Value.none).toArray }) rfl
        rw [z1] at this
        exact Heap.get?_push_of_some _ this
      · have := Heap.get?_push_size ((h'.push { cls := .type "tuple", data := .seq (refsF hp.objs.size rs.length).toArray }).push { cls := .type "tuple", data := .seq ((refsF hp.objs.size rs.length).map fun _ => Value.none).toArray }) (o := { cls := .type "zip", data := .fields ([.none, .bool false] ++ [.bool false, .ref h'.objs.size, .ref (h'.push { cls := .type "tuple", data := .seq (refsF hp.objs.size rs.length).toArray }).objs.size] : List Value).toArray }) rfl
        rw [z2, z1, hsz] at this
        rw [z1, hsz]
        exact this
      · rw [Heap.size_push, z2]
    · exact ⟨0, hp, rfl, Nat.zero_le _, rfl, rfl, fun j r hj => absurd hj (Nat.not_lt_zero j), rfl, fun c o e => e⟩

section
variable {prog : Program} {w : World} {A : Around} {E : Value → Shared → Prop} {s : Shared}
theorem zz_call {rs : List Rw} {Q : Value → Shared → Prop} (hlin : rs.length ≤ sizeLine) (hr : ∀ (j : Nat) (r : Rw), rs[j]? = some r → RowAt s.heap r)
    (h : ∀ h', ZBeg s.heap.objs.size rs s.heap h' → Q (.ref (s.heap.objs.size + rs.length + 2)) { s with heap := h' }) :
    wpAny (model prog w) A (call (.type "zip") (rs.map (fun r => Value.ref r.at_))) Q E s :=
  callType_new F.called_zip (by decide) (zz_typeCall _) (zz_newCall _) (fun obj => zz_argsInit obj _) F.entry_zip_new (zz_new rs hlin)
    ⟨hr, fun h' B => ⟨⟨_, B.z, rfl⟩, h h' B⟩⟩
end
end PySem.Z
set_option maxRecDepth 100000
set_option Elab.async false
namespace PySem.Z
open PySem

theorem zip_no_len : typeLookup (.type "zip") "__len__" = pure none := by rw [typeLookup_type, builtinLookup_eq_fast]; kernel_rfl
theorem zip_no_hint : typeLookup (.type "zip") "__length_hint__" = pure none := by rw [typeLookup_type, builtinLookup_eq_fast]; kernel_rfl

/-- the walk of list(zip(..)), i columns drawn -/
structure ZSt (b n : Nat) (rs : List Rw) (i : Nat) (h : Heap) : Prop where
  row : ∀ (j : Nat) (r : Rw), rs[j]? = some r → r.at_ < b ∧ RowAt h r ∧ ItAt h (b + j) r i
  z : (i = 0 ∧ IsZip h (b + n + 2) (b + n) (b + n + 1) .none) ∨ (0 < i ∧ ∃ T f o, IsZipHeld h (b + n + 2) (b + n) (b + n + 1) T f ∧ b + n + 2 < T ∧ h.get? T = some o)
  TI : h.get? (b + n) = some { cls := .type "tuple", data := .seq (refsF b n).toArray }
  TO : i = 0 → ∃ arr : Array Value, arr.size = n ∧ h.get? (b + n + 1) = some { cls := .type "tuple", data := .seq arr }
  size : h.objs.size = b + n + 4 + i

/-- the columns drawn so far, and the list of them -/
structure ZCols (S b1 n i : Nat) (rs : List Rw) (h : Heap) : Prop where
  lst : ∃ (acc : Array Value) (c : Nat), h.get? S = some { cls := .type "list", dict := none, data := .seq acc c, slots := #[] } ∧ acc.size = i ∧ ∀ j, j < i → acc[j]? = some (.ref (b1 + j))
  col : ∀ c, c < i → ∃ col : Array Value, h.get? (b1 + c) = some { cls := .type "tuple", data := .seq col } ∧ col.size = n ∧ ∀ (j : Nat) (r : Rw), rs[j]? = some r → col[j]? = r.vals[c]?

section
variable {prog : Program} {w : World} {A : Around} {E : Value → Shared → Prop} {s : Shared}

theorem zx_item {b n i : Nat} {rs : List Rw} {Q : Option Value → Shared → Prop} (hn : rs.length = n) (hnz : 0 < n) (hlin : n ≤ sizeLine) (st : ZSt b n rs i s.heap) (hx : ∀ (j : Nat) (r : Rw), rs[j]? = some r → ∃ x, r.vals[i]? = some x)
    (hQ : ∀ h' col tk, ZSt b n rs (i + 1) h' → h'.get? (b + n + 4 + i) = some { cls := .type "tuple", data := .seq col } → col.size = n → (∀ (j : Nat) (r : Rw), rs[j]? = some r → col[j]? = r.vals[i]?) →
      (∀ c o, (c < b ∨ b + n + 2 < c) → s.heap.get? c = some o → h'.get? c = some o) → Q (some (.ref (b + n + 4 + i))) { s with heap := h', toks := tk }) :
    wpAny (model prog w) A (pyNext (.ref (b + n + 2))) Q E s := by
  have hT : s.TypeIs (.ref (b + n + 2)) "zip" := by
    rcases st.z with ⟨_, z⟩ | ⟨_, _, _, _, z, _, _⟩ <;> exact ⟨_, z, rfl⟩
  have hrow : ∀ j r, rs[j]? = some r → r.at_ < b ∧ RowAt s.heap r ∧ ItAt s.heap (b + j) r i ∧ ∃ x, r.vals[i]? = some x := fun j r e => ⟨(st.row j r e).1, (st.row j r e).2.1, (st.row j r e).2.2, hx j r e⟩
  unfold pyNext
  refine wpAny_bind (wpAny_attempt (wpAny_callSpecial?_slot (name := Str.ofString "__next__") hT F.slot_zip_next
    (wpAny_call_entry F.slot_zip_next hT F.entry_zip_next ?_ (F.args_zip_next_1 _))))
  rcases st.z with ⟨rfl, z⟩ | ⟨_, T, f, o, z, hTb, hTo⟩
  · obtain ⟨arr, ha, hTO⟩ := st.TO rfl
    refine zn_item0 hn hnz hlin hrow z st.TI hTO ha fun h' col tk hc1 hc2 hz' hit' hTI' hnew hsz hk => wpAny_pure ?_
    rw [st.size] at hnew hsz hz' ⊢
    exact hQ h' col tk ⟨fun j r e => ⟨(st.row j r e).1, (st.row j r e).2.1.keep fun o e' => hk _ o (.inl (st.row j r e).1) e', hit' j r e⟩, .inr ⟨Nat.succ_pos _, _, _, _, hz', by omega, hnew⟩, hTI', fun e => absurd e (Nat.succ_ne_zero _), hsz⟩ hnew hc1 hc2 hk
  · refine zn_itemH hn hnz hlin hrow z hTo st.TI fun h' col hc1 hc2 hz' hit' hTI' hnew hsz hk => wpAny_pure ?_
    rw [st.size] at hnew hsz ⊢
    exact hQ h' col s.toks ⟨fun j r e => ⟨(st.row j r e).1, (st.row j r e).2.1.keep fun o e' => hk _ o (.inl (st.row j r e).1) e', hit' j r e⟩, .inr ⟨Nat.succ_pos _, _, _, _, hz', hTb, hk _ _ (.inr hTb) hTo⟩, hTI', fun e => absurd e (Nat.succ_ne_zero _), hsz⟩ hnew hc1 hc2 hk

theorem zx_end {b n i : Nat} {rs : List Rw} {Q : Option Value → Shared → Prop} (hh : A.handled = none) (hn : rs.length = n) (hni : n = 0 → i = 0) (st : ZSt b n rs i s.heap) (hx : ∀ (j : Nat) (r : Rw), rs[j]? = some r → r.vals[i]? = none)
    (hQ : ∀ h', (∀ c o, (c < b ∨ b + n + 2 < c) → s.heap.get? c = some o → h'.get? c = some o) → Q none { s with heap := h' }) :
    wpAny (model prog w) A (pyNext (.ref (b + n + 2))) Q E s := by
  have hT : s.TypeIs (.ref (b + n + 2)) "zip" := by
    rcases st.z with ⟨_, z⟩ | ⟨_, _, _, _, z, _, _⟩ <;> exact ⟨_, z, rfl⟩
  unfold pyNext
  refine wpAny_bind (wpAny_attempt (wpAny_callSpecial?_slot (name := Str.ofString "__next__") hT F.slot_zip_next
    (wpAny_call_entry F.slot_zip_next hT F.entry_zip_next ?_ (F.args_zip_next_1 _))))
  have tail : ∀ h' e, (∀ c o, (c < b ∨ b + n + 2 < c) → s.heap.get? c = some o → h'.get? c = some o) → (∃ o, h'.get? e = some o ∧ o.cls = .type "StopIteration") → wpAny (model prog w) A (do
      if ← isInstance (.ref e) (.type "StopIteration") then pure none else throw (.ref e)) Q E { s with heap := h' } := fun h' e hk he => by
    obtain ⟨o, ho, hc⟩ := he
    refine wpAny_bind (wpAny_isInstance (T := "StopIteration") (b := true) ⟨o, ho, hc⟩ isSubtype_stop ?_)
    exact wpAny_pure (hQ _ hk)
  rcases Nat.eq_zero_or_pos n with rfl | hnz
  · have hTI : s.heap.get? b = some { cls := .type "tuple", data := .seq #[] } := st.TI
    rcases st.z with ⟨_, z⟩ | ⟨h0, _⟩
    · exact zn_endE hh z hTI fun h' e hk he => tail h' e (fun c o _ => hk c o) he
    · exact absurd (hni rfl) (Nat.ne_of_gt h0)
  · obtain ⟨r0, hr0⟩ : ∃ r, rs[0]? = some r := ⟨rs[0]'(by omega), List.getElem?_eq_getElem (by omega)⟩
    have R := st.row 0 r0 hr0
    rcases st.z with ⟨rfl, z⟩ | ⟨_, T, f, o, z, hTb, hTo⟩
    · exact zn_end0 hh hnz R.1 R.2.1 R.2.2 (hx 0 r0 hr0) z st.TI tail
    · exact zn_endH hh hnz R.1 R.2.1 R.2.2 (hx 0 r0 hr0) z hTo st.TI tail

theorem ZSt.keep {b n i : Nat} {rs : List Rw} {h h' : Heap} (st : ZSt b n rs i h) (hn : rs.length = n) (hsz : h'.objs.size = h.objs.size) (hk : ∀ c o, c ≠ b + n + 3 → h.get? c = some o → h'.get? c = some o)
    (hTS : ∃ o, h'.get? (b + n + 3) = some o) : ZSt b n rs i h' := by
  refine ⟨fun j r e => ?_, ?_, hk _ _ (nn (by omega)) st.TI, fun e => ?_, by rw [hsz]; exact st.size⟩
  · have := st.row j r e
    have hj : j < n := by rw [← hn]; exact (List.getElem?_eq_some_iff.mp e).1
    have h1 := this.1
    exact ⟨this.1, this.2.1.keep fun o e' => hk _ o (nn (by omega)) e', this.2.2.keep fun o e' => hk _ o (nn (by omega)) e'⟩
  · rcases st.z with ⟨e, z⟩ | ⟨e, T, f, o, z, hTb, hTo⟩
    · exact .inl ⟨e, hk _ _ (nn (by omega)) z⟩
    · refine .inr ⟨e, T, f, ?_⟩
      by_cases hT : T = b + n + 3
      · obtain ⟨o', ho'⟩ := hTS
        exact ⟨o', hk _ _ (nn (by omega)) z, hTb, hT ▸ ho'⟩
      · exact ⟨o, hk _ _ (nn (by omega)) z, hTb, hk _ _ hT hTo⟩
  · obtain ⟨arr, h1, h2⟩ := st.TO e
    exact ⟨arr, h1, hk _ _ (nn (by omega)) h2⟩

theorem zx_loop {R : Result → Shared → Prop} {b n m : Nat} {rs : List Rw} (hh : A.handled = none) (hn : rs.length = n) (hlin : n ≤ sizeLine) (hm : m ≤ sizeLine) (hnm : n = 0 → m = 0)
    (hv : ∀ (j : Nat) (r : Rw), rs[j]? = some r → r.vals.size = m) (res : Value) :
    ∀ (k i : Nat) (s : Shared), m - i = k → i ≤ m → ZSt b n rs i s.heap → ZCols (b + n + 3) (b + n + 4) n i rs s.heap →
    (∀ h' tk, ZCols (b + n + 3) (b + n + 4) n m rs h' → (∀ c o, c < b → s.heap.get? c = some o → h'.get? c = some o) → R (.ok (.ret res)) { s with heap := h', toks := tk }) →
    codeAny (model prog w) A (.builtin "list.extend.loop" ⟨[.ref (b + n + 3), .ref (b + n + 2), res], []⟩) R s := by
  intro k
  induction k with
  | zero =>
    intro i s hk hi st C hR
    obtain rfl : i = m := by omega
    refine codeAny_builtin F.entry_extend_loop ?_
    rw [Around.under_plainId F.plain_extend_loop _]
    show wpAny _ A.in1 (pyNext (.ref (b + n + 2)) >>= _) _ _ s
    refine wpAny_bind (zx_end hh hn hnm st (fun j r e => by rw [Array.getElem?_eq_none]; rw [hv j r e]; exact Nat.le_refl _) fun h' hk => ?_)
    refine wpAny_pure (hR h' s.toks ⟨?_, fun c hc => ?_⟩ fun c o hc e => hk c o (.inl hc) e)
    · obtain ⟨acc, c, h1, h2⟩ := C.lst
      exact ⟨acc, c, hk _ _ (.inr (by omega)) h1, h2⟩
    · obtain ⟨col, h1, h2⟩ := C.col c hc
      exact ⟨col, hk _ _ (.inr (by omega)) h1, h2⟩
  | succ k ih =>
    intro i s hk hi st C hR
    have hlt : i < m := by omega
    have hnz : 0 < n := by rcases Nat.eq_zero_or_pos n with e | e; have := hnm e; omega; exact e
    refine codeAny_builtin F.entry_extend_loop ?_
    rw [Around.under_plainId F.plain_extend_loop _]
    show wpAny _ A.in1 (pyNext (.ref (b + n + 2)) >>= _) _ _ s
    refine wpAny_bind (zx_item hn hnz hlin st (fun j r e => ⟨_, Array.getElem?_eq_getElem (by rw [hv j r e]; exact hlt)⟩) fun h' col tk st' hcol hc1 hc2 hkp => ?_)
    obtain ⟨acc, c, hS, ha, hacc⟩ := C.lst
    have hS' := hkp _ _ (.inr (by omega)) hS
    show wpAny _ A.in1 (updateSeq (b + n + 3) (·.push (.ref (b + n + 4 + i))) >>= _) _ _ ⟨h', s.gens, s.drawn, tk, s.os⟩
    refine wpAny_bind ?_
    have oth : ∀ c o, c ≠ b + n + 3 → h'.get? c = some o → (h'.update (b + n + 3) (Obj.mapSeq (·.push (.ref (b + n + 4 + i))))).get? c = some o := fun c o hc e =>
      (Heap.get?_update_other _ _ (Ne.symm hc)).trans e
    have hsz : (h'.update (b + n + 3) (Obj.mapSeq (·.push (.ref (b + n + 4 + i))))).objs.size = h'.objs.size := (Heap.SameBut.update ..).1
    have hSS := Heap.get?_update_self (Obj.mapSeq (·.push (Value.ref (b + n + 4 + i)))) hS' rfl
    refine wpAny_updateSeq (s := ⟨h', s.gens, s.drawn, tk, s.os⟩) hS' rfl (wpAny_pure ⟨plainId_quiet F.plain_extend_loop _, ih (i + 1) _ (by omega) hlt (st'.keep hn hsz oth ⟨_, hSS⟩) ⟨?_, ?_⟩ fun h'' tk' C' hk' => hR h'' tk' C' fun c o hc e => hk' c o hc (oth _ _ (nn (by omega)) (hkp _ _ (.inl hc) e))⟩)
      (by rw [ha]; omega) (by show (acc.push _).size ≤ sizeLine + 1; rw [Array.size_push, ha]; omega)
    · refine ⟨_, _, hSS, by show (acc.push _).size = _; rw [Array.size_push, ha], fun j hj => ?_⟩
      show (acc.push _)[j]? = _
      rw [Array.getElem?_push]
      by_cases e : j = i
      · subst e; rw [if_pos ha.symm]
      · rw [if_neg (by rw [ha]; exact e)]; exact hacc j (by omega)
    · intro c hc
      by_cases e : c = i
      · subst e; exact ⟨col, oth _ _ (nn (by omega)) hcol, hc1, hc2⟩
      · obtain ⟨col', h1, h2⟩ := C.col c (by omega)
        exact ⟨col', oth _ _ (nn (by omega)) (hkp _ _ (.inr (by omega)) h1), h2⟩

theorem zx_call {b n m : Nat} {rs : List Rw} {h0 : Heap} {Q : Value → Shared → Prop} (hh : A.handled = none) (hn : rs.length = n) (hlin : n ≤ sizeLine) (hm : m ≤ sizeLine) (hnm : n = 0 → m = 0)
    (hv : ∀ (j : Nat) (r : Rw), rs[j]? = some r → r.vals.size = m) (hr : ∀ (j : Nat) (r : Rw), rs[j]? = some r → r.at_ < b ∧ RowAt s.heap r) (B : ZBeg b rs h0 s.heap)
    (hQ : ∀ h' tk, ZCols (b + n + 3) (b + n + 4) n m rs h' → (∀ c o, c < b → s.heap.get? c = some o → h'.get? c = some o) → Q (.ref (b + n + 3)) { s with heap := h', toks := tk }) :
    wpAny (model prog w) A (call (.type "list") [.ref (b + n + 2)]) Q E s := by
  subst hn
  have hsz := B.size
  refine callType_codes (Q₁ := fun obj s₁ => obj = .ref s.heap.objs.size ∧ s₁ = { s with heap := s.heap.push { cls := .type "list", data := .seq #[] } }) PySem.F.called_list (PySem.F.typeCall_list_1 _) PySem.F.entry_list_init
    (code_list_new _ ⟨rfl, rfl⟩) fun obj s₁ h₁ => ?_
  obtain ⟨rfl, rfl⟩ := h₁
  rw [hsz]
  have hS : (s.heap.push { cls := .type "list", data := .seq #[] }).get? (b + rs.length + 3) = some { cls := .type "list", data := .seq #[] } := by
    rw [← hsz]; exact Heap.get?_push_size _ rfl
  refine ⟨⟨_, hS, rfl⟩, PySem.F.args_list_init_2 _ _, ?_⟩
  obtain ⟨arr, ha1, ha2⟩ := B.TO
  have st0 : ZSt b rs.length rs 0 (s.heap.push { cls := .type "list", data := .seq #[] }) :=
    ⟨fun j r e => ⟨(hr j r e).1, (hr j r e).2.keep fun o e' => Heap.get?_push_of_some _ e', (B.it j r e).keep fun o e' => Heap.get?_push_of_some _ e'⟩, .inl ⟨rfl, Heap.get?_push_of_some _ B.z⟩,
      Heap.get?_push_of_some _ B.TI, fun _ => ⟨arr, ha1, Heap.get?_push_of_some _ ha2⟩, by rw [Heap.size_push, hsz]⟩
  -- the list's cell may be written, nothing else
  have key : ∀ (h : Heap) (c₁ tk : Nat), h.objs.size = b + rs.length + 4 → (∀ c o, c ≠ b + rs.length + 3 → (s.heap.push { cls := .type "list", data := .seq #[] }).get? c = some o → h.get? c = some o) →
      h.get? (b + rs.length + 3) = some { cls := .type "list", data := .seq #[] c₁ } →
      codeAny (model prog w) A.in1 (.builtin "list.extend.loop" ⟨[.ref (b + rs.length + 3), .ref (b + rs.length + 2), .none], []⟩) (wants (fun r s₂ => r = .none ∧ Q (.ref (b + rs.length + 3)) s₂) E) { s with heap := h, toks := tk } := by
    intro h c₁ tk h1 h2 h3
    refine zx_loop (A := A.in1) hh rfl hlin hm hnm hv .none m 0 _ rfl (Nat.zero_le _) (st0.keep rfl (by rw [h1, Heap.size_push, hsz]) h2 ⟨_, h3⟩) ⟨⟨#[], c₁, h3, rfl, fun j hj => absurd hj (Nat.not_lt_zero j)⟩, fun c hc => absurd hc (Nat.not_lt_zero c)⟩ fun h' tk' C hk => ?_
    exact ⟨rfl, hQ h' tk' C fun c o hc e => hk c o hc (h2 c o (nn (by omega)) (Heap.get?_push_of_some _ e))⟩
  show wpAny _ _ (do let old ← Builtin.List.listItems (.ref (b + rs.length + 3)); Builtin.List.listUpdate (.ref (b + rs.length + 3)) (fun _ => #[]); letGo old.toList.reverse; Builtin.List.listExtendWith (.ref (b + rs.length + 3)) (.ref (b + rs.length + 2)) .none) _ _ _
  refine wpAny_bind ?_
  unfold Builtin.List.listItems
  refine wpAny_bind (wpAny_seqItems hS rfl (wpAny_pure ?_))
  show wpAny _ _ (updateSeq (b + rs.length + 3) (fun _ => #[]) >>= fun _ => letGo (#[] : Array Value).toList.reverse >>= fun _ => Builtin.List.listExtendWith (.ref (b + rs.length + 3)) (.ref (b + rs.length + 2)) .none) _ _ _
  refine wpAny_bind (wpAny_updateSeq hS rfl ?_)
  have hS₂ := Heap.get?_update_self (Obj.mapSeq (fun _ => (#[] : Array Value))) hS rfl
  have oth : ∀ c o, c ≠ b + rs.length + 3 → (s.heap.push { cls := .type "list", data := .seq #[] }).get? c = some o → ((s.heap.push { cls := .type "list", data := .seq #[] }).update (b + rs.length + 3) (Obj.mapSeq (fun _ => (#[] : Array Value)))).get? c = some o :=
    fun c o hc e => (Heap.get?_update_other _ _ (Ne.symm hc)).trans e
  have sz2 : ((s.heap.push { cls := .type "list", data := .seq #[] }).update (b + rs.length + 3) (Obj.mapSeq (fun _ => (#[] : Array Value)))).objs.size = b + rs.length + 4 := by
    rw [(Heap.SameBut.update ..).1, Heap.size_push, hsz]
  refine wpAny_bind (wpAny_letGo ?_)
  have hz2 := oth _ _ (nn (by omega)) (Heap.get?_push_of_some _ B.z)
  have hT : Shared.TypeIs ⟨(s.heap.push { cls := .type "list", data := .seq #[] }).update (b + rs.length + 3) (Obj.mapSeq (fun _ => (#[] : Array Value))), s.gens, s.drawn, s.toks, s.os⟩ (.ref (b + rs.length + 2)) "zip" := ⟨_, hz2, rfl⟩
  unfold Builtin.List.listExtendWith
  refine wpAny_bind (wpAny_typeOf hT ?_)
  have h1 : Builtin.List.listSameRef (.ref (b + rs.length + 3)) (.ref (b + rs.length + 2)) = false := by simp [Builtin.List.listSameRef]
  have h2 : (Value.type "zip" == Value.type "list") = false := by decide
  have h3 : (Value.type "zip" == Value.type "tuple") = false := by decide
  simp only [h1, h2, h3, Bool.or_false, Bool.false_eq_true, if_false]
  refine wpAny_bind (wpAny_pyIter_zip hz2 ?_)
  refine wpAny_bind (wpAny_holding ?_)
  unfold Builtin.List.listLengthHint
  refine wpAny_bind (wpAny_specialOf hT zip_no_len ?_)
  show wpAny _ _ (specialOf (Value.ref (b + rs.length + 2)) (Str.ofString "__length_hint__") >>= _) _ _ _
  refine wpAny_bind (wpAny_specialOf hT zip_no_hint ?_)
  refine wpAny_pure ?_
  show wpAny _ _ (rule "list.extend.makes-room" >>= fun _ => Builtin.List.listTouch (.ref (b + rs.length + 3)) >>= fun _ =>
    again (.builtin "list.extend.loop" ⟨[.ref (b + rs.length + 3), .ref (b + rs.length + 2), .none], []⟩)) _ _ _
  refine wpAny_bind (wpAny_rule ?_)
  refine wpAny_bind ?_
  show wpAny _ _ (updateSeq (b + rs.length + 3) (·.push .none) >>= fun _ => updateSeq (b + rs.length + 3) (·.pop)) _ _ _
  refine wpAny_bind (wpAny_updateSeq hS₂ rfl ?_)
  have hS₃ := Heap.get?_update_self (Obj.mapSeq (·.push Value.none)) hS₂ rfl
  refine wpAny_updateSeq hS₃ rfl ?_
  have hS₄ := Heap.get?_update_self (Obj.mapSeq (·.pop)) hS₃ rfl
  refine wpAny_pure ⟨plainId_quiet F.plain_extend_loop _, key _ _ s.toks ?_ (fun c o hc e => ?_) hS₄⟩
  · rw [(Heap.SameBut.update ..).1, (Heap.SameBut.update ..).1, sz2]
  · exact (Heap.get?_update_other _ _ (Ne.symm hc)).trans ((Heap.get?_update_other _ _ (Ne.symm hc)).trans (oth c o hc e))
end
end PySem.Z
set_option Elab.async false
set_option linter.all false
set_option maxRecDepth 100000
set_option maxHeartbeats 4000000
namespace Z
open PySem PySem.Spec PyProof.Rows L2 StX

theorem inv_many {X : Cx} {pins : List (Addr × Obj)} {σ : L2.St} {H H' : Hp} {s : Shared} {h' : Heap} {t' : Nat} (I : Inv X pins σ H s) (k : ∀ b u, s.heap.get? b = some u → h'.get? b = some u)
    (low : ∀ a, a < s.heap.objs.size → H' a = H a) (new : ∀ a o, s.heap.objs.size ≤ a → H' a = some o → ObjOk X.prog X.w H' h' a o) : Inv X pins σ H' { s with heap := h', toks := t' } := by
  have ext : ∀ a o, H a = some o → H' a = some o := fun a o e => by rw [low a (I.hok.lt e)]; exact e
  refine I.un ⟨fun b u q _ _ _ => k b u q, fun b u q _ _ _ => ⟨u.slots, k b u q⟩, fun b u q n _ => by rw [low b (Heap.lt_size q)]; exact n, fun b u q _ => ⟨u, k b u q⟩, fun b xs q => ext _ _ q, fun b o u q => ext _ _ q, fun b ps q => ⟨#[], by rw [ext _ _ q]; simp⟩⟩ ?_
  intro a o e
  rcases Nat.lt_or_ge a s.heap.objs.size with h | h
  · rw [low a h] at e
    exact (I.hok a o e).stay (fun b u _ q => k b u q) (fun b q => ext _ _ q) fun b xs q => ext _ _ q
  · exact new a o h e

def layC : Hp → Addr → List (List V) → Hp
  | H, _, [] => H
  | H, b, c :: cs => layC (upd H b (.tup c)) (b + 1) cs
theorem layC_low : ∀ (cs : List (List V)) (H : Hp) (b a : Nat), a < b → layC H b cs a = H a
  | [], _, _, _, _ => rfl
  | c :: cs, H, b, a, h => by rw [layC, layC_low cs _ (b + 1) a (Nat.lt_succ_of_lt h), upd_ne (Nat.ne_of_lt h)]
theorem layC_new : ∀ (cs : List (List V)) (H : Hp) (b a : Nat) (o : HO), b ≤ a → (∀ x, b ≤ x → H x = none) → layC H b cs a = some o → ∃ i c, a = b + i ∧ cs[i]? = some c ∧ o = .tup c
  | [], H, b, a, o, h, hn, e => by rw [layC, hn a h] at e; cases e
  | c :: cs, H, b, a, o, h, hn, e => by
    by_cases hab : a = b
    · subst hab
      rw [layC, layC_low cs _ (a + 1) a (Nat.lt_succ_self _), upd_same] at e
      cases e; exact ⟨0, c, rfl, rfl, rfl⟩
    · skip
      rw [layC] at e
      obtain ⟨i, c', e1, e2, e3⟩ := layC_new cs _ (b + 1) a o (by omega) (fun x hx => by rw [upd_ne (show x ≠ b by omega)]; exact hn x (by omega)) e
      exact ⟨i + 1, c', by omega, by simpa using e2, e3⟩
def refsV (b n : Nat) : List V := (List.range n).map fun c => V.ref (b + c)

/-- *rows: lists or tuples -/
inductive RowsV (K : Fg) (H : Hp) : List V → List (List V) → Prop
  | nil : RowsV K H [] []
  | cons {p : Addr} {r : List V} {xs rows} : (SqL K H p r ∨ SqT K H p r) → RowsV K H xs rows → RowsV K H (.ref p :: xs) (r :: rows)
def colsV (rows : List (List V)) (n : Nat) : List (List V) := (List.range n).map fun c => rows.map fun r => (r[c]?).getD .non

/-- list(zip(..)) over lists and tuples of one length -/
def tZipL (K : Fg) (ta : TA) : TE := fun σ H Q => ta σ H fun xs H1 => ∃ (rows : List (List V)) (n : Nat), RowsV K H1 xs rows ∧ (∀ r ∈ rows, r.length = n) ∧ (rows = [] → n = 0) ∧ rows.length ≤ sizeLine ∧ n ≤ sizeLine ∧
  ∀ b p : Nat, p < b → H1 p = none → (∀ x, b ≤ x → H1 x = none) → Q (.ref p) (upd (layC H1 b (colsV rows n)) p (.lst (refsV b n)))


theorem vals_ix : ∀ {xs : List V} {us : List Value}, xs.length = us.length → (∀ (i : Nat) x, xs[i]? = some x → ∃ u, us[i]? = some u ∧ RelV x u) → Vals xs us
  | [], [], _, _ => .nil
  | x :: xs, u :: us, hl, h => by
    obtain ⟨u', e, r⟩ := h 0 x rfl
    cases e
    exact .cons r (vals_ix (Nat.succ.inj hl) fun i y e => h (i + 1) y e)
  | [], _ :: _, hl, _ => by cases hl
  | _ :: _, [], hl, _ => by cases hl

theorem rows_rw {X : Cx} {pins : List (Addr × Obj)} {σ : L2.St} {H : Hp} {s : Shared} (I : Inv X pins σ H s) : ∀ {xs : List V} {rows : List (List V)} {us : List Value}, RowsV X.K H xs rows → Vals xs us →
    ∃ rs : List PySem.Z.Rw, us = rs.map (fun r => Value.ref r.at_) ∧ rs.length = rows.length ∧ ∀ (j : Nat) (r : PySem.Z.Rw), rs[j]? = some r → PySem.Z.RowAt s.heap r ∧ ∃ row, rows[j]? = some row ∧ Vals row r.vals.toList
  | _, _, _, .nil, .nil => ⟨[], rfl, rfl, fun j r e => by simp at e⟩
  | _, _, _, .cons (p := p) (r := r) (xs := xs) (rows := rows) h t, .cons (b := u) (l₂ := us) rx rxs => by
    obtain ⟨rs, e1, e2, e3⟩ := rows_rw I t rxs
    obtain rfl : u = Value.ref p := rx
    obtain ⟨l, its, h1, h2⟩ : ∃ (l : Bool) (its : List Value), Vals r its ∧ PySem.Z.RowAt s.heap ⟨p, l, its.toArray⟩ := by
      rcases h with h | h
      · obtain ⟨its, r', pl, _⟩ := I.list h
        exact ⟨true, its, r', pl.isList⟩
      · obtain ⟨its, r', pl, _⟩ := I.tuple h
        exact ⟨false, its, r', pl⟩
    refine ⟨⟨p, l, its.toArray⟩ :: rs, by rw [e1]; rfl, by rw [List.length_cons, List.length_cons, e2], fun j r' e => ?_⟩
    cases j with
    | zero => cases e; exact ⟨h2, r, rfl, by simpa using h1⟩
    | succ j => exact e3 j r' e

theorem refs_vals {us : Array Value} {b n : Nat} (hs : us.size = n) (h : ∀ j, j < n → us[j]? = some (.ref (b + j))) : Vals (refsV b n) us.toList := by
  refine vals_ix (by simp [refsV, hs]) fun i x e => ?_
  have hi : i < n := by have := (List.getElem?_eq_some_iff.mp e).1; simpa [refsV] using this
  refine ⟨.ref (b + i), by rw [Array.getElem?_toList]; exact h i hi, ?_⟩
  simp [refsV, hi] at e
  subst e; rfl

theorem keep_type {T : String} {M : Model} {h : Heap} : ∃ k, (k = Keeper.frame ∨ k = Keeper.machine ∨ k = Keeper.boundFrame) ∧ PySem.W.Looks M h (keeperOf (.type T)) k := ⟨.machine, .inr (.inl rfl), .of_pure rfl⟩

section
variable {X : Cx} {pins : List (Addr × Obj)} {σ : L2.St} {H : Hp} {s : Shared}
theorem run_zip {xs : List V} {us : List Value} {Q : VK} (hc : X.calm = true) (I : Inv X pins σ H s) (rv : Vals xs us)
    (h : ∃ (rows : List (List V)) (n : Nat), RowsV X.K H xs rows ∧ (∀ r ∈ rows, r.length = n) ∧ (rows = [] → n = 0) ∧ rows.length ≤ sizeLine ∧ n ≤ sizeLine ∧
      ∀ b p : Nat, p < b → H p = none → (∀ x, b ≤ x → H x = none) → Q (.ref p) (upd (layC H b (colsV rows n)) p (.lst (refsV b n)))) :
    wpAny (model X.prog X.w) X.A (call (.type "zip") us) (fun z s₁ => wpAny (model X.prog X.w) X.A (call (.type "list") [z]) (EP X pins σ Q) X.xe s₁) X.xe s := by
  obtain ⟨rows, m, hR, hm, hz, hl1, hl2, q⟩ := h
  obtain ⟨rs, rfl, hlen, hrs⟩ := rows_rw I hR rv
  have hd := I.ok.hd hc
  refine PySem.Z.zz_call (by rw [hlen]; exact hl1) (fun j r e => (hrs j r e).1) fun h1 B => ?_
  have hv : ∀ (j : Nat) (r : PySem.Z.Rw), rs[j]? = some r → r.vals.size = m := fun j r e => by
    obtain ⟨_, row, e1, e2⟩ := hrs j r e
    have h1 : row.length = r.vals.toList.length := e2.length
    have h2 : r.vals.toList.length = r.vals.size := Array.length_toList
    rw [← h2, ← h1]; exact hm row (List.mem_of_getElem? e1)
  have hat : ∀ (j : Nat) (r : PySem.Z.Rw), rs[j]? = some r → r.at_ < s.heap.objs.size := fun j r e => by
    have := (hrs j r e).1
    obtain ⟨a, l, v⟩ := r
    cases l <;> (obtain ⟨o, ho, _⟩ := this; exact Heap.lt_size ho)
  refine PySem.Z.zx_call (s := { s with heap := h1 }) (b := s.heap.objs.size) hd rfl (by rw [hlen]; exact hl1) hl2 (fun e => hz (by rw [hlen] at e; exact List.eq_nil_of_length_eq_zero e)) hv (fun j r e => ⟨hat j r e, (hrs j r e).1.keep fun o e' => B.old _ o e'⟩) B fun h' tk C hk => ?_
  have kp : ∀ c o, s.heap.get? c = some o → h'.get? c = some o := fun c o e => hk c o (Heap.lt_size e) (B.old c o e)
  have fresh : ∀ x, s.heap.objs.size ≤ x → H x = none := fun x hx => I.hok.fresh hx
  have hq := q (s.heap.objs.size + rs.length + 4) (s.heap.objs.size + rs.length + 3) (by omega) (fresh _ (by omega)) (fun x hx => fresh x (by omega))
  refine ⟨.ref (s.heap.objs.size + rs.length + 3), _, inv_many (s := s) (t' := tk) I kp (fun a ha => ?_) (fun a o ha e => ?_), rfl, hq⟩
  · rw [upd_ne (show a ≠ s.heap.objs.size + rs.length + 3 by omega), layC_low _ _ _ _ (by omega)]
  · by_cases hp : a = s.heap.objs.size + rs.length + 3
    · subst hp
      rw [upd_same] at e; cases e
      obtain ⟨acc, c, h2, h3, h4⟩ := C.lst
      exact ⟨by simp [refsV]; exact hl2, acc.toList, c, refs_vals h3 h4, by rw [Array.toArray_toList]; exact h2⟩
    · rw [upd_ne hp] at e
      have hlo : s.heap.objs.size + rs.length + 4 ≤ a := by
        rcases Nat.lt_or_ge a (s.heap.objs.size + rs.length + 4) with h | h
        · rw [layC_low _ _ _ _ h, fresh a ha] at e; cases e
        · exact h
      obtain ⟨i, col, rfl, hi, rfl⟩ := layC_new _ _ _ _ _ hlo (fun x hx => fresh x (by omega)) e
      have him : i < m := by have := (List.getElem?_eq_some_iff.mp hi).1; simpa [colsV] using this
      obtain ⟨cl, h2, h3, h4⟩ := C.col i him
      have hcol : col = rows.map fun r => (r[i]?).getD .non := by
        have : (colsV rows m)[i]? = some (rows.map fun r => (r[i]?).getD .non) := by simp [colsV, him]
        rw [this] at hi; cases hi; rfl
      subst hcol
      refine ⟨by rw [List.length_map]; exact hl1, cl.toList, vals_ix (by rw [List.length_map]; exact hlen.symm.trans (h3.symm.trans Array.length_toList.symm)) fun j x e => ?_, ⟨_, h2, rfl, _, by rw [Array.toArray_toList]⟩⟩
      have hj : j < rs.length := by have := (List.getElem?_eq_some_iff.mp e).1; simp at this; omega
      obtain ⟨_, row, e1, e2⟩ := hrs j rs[j] (List.getElem?_eq_getElem hj)
      have hrow : row.length = m := hm row (List.mem_of_getElem? e1)
      obtain ⟨y, hy⟩ : ∃ y, row[i]? = some y := ⟨row[i]'(by omega), List.getElem?_eq_getElem (by omega)⟩
      obtain ⟨u, hu, ru⟩ := e2.get hy
      rw [List.getElem?_map, e1] at e
      simp [hy] at e
      subst e
      refine ⟨u, ?_, ru⟩
      rw [Array.getElem?_toList, h4 j rs[j] (List.getElem?_eq_getElem hj)]
      rw [Array.getElem?_toList] at hu
      exact hu

theorem evalArgs_many {M : Model} {A : Around} {E : Value → Shared → Prop} {s : Shared} {f : Value} {x y : Bool × Sem Value} {rest : List (Bool × Sem Value)} {Q : Args → Shared → Prop}
    (h : wpAny M A (spliced (x :: y :: rest)) (fun vs s' => Q ⟨vs, []⟩ s') E s) : wpAny M A (evalArgs f true (x :: y :: rest) []) Q E s := by
  unfold evalArgs
  obtain ⟨b, x⟩ := x
  cases b <;>
  · show wpAny M A (spliced _ >>= _) Q E s
    refine wpAny_bind (wpAny_mono h (fun vs s' h' => ?_) fun _ _ x => x)
    refine wpAny_holding ?_
    exact wpAny_pure h'

theorem p_zipS {e : Expr} {te : TE} {l z : Str} {p1 p2 p3 pos1 pos2 : Pos} (hc : X.calm = true) (hg1 : Gl X l) (hm1 : X.mg l = none) (hv1 : bootBuiltins l = some (.type "list")) (hg2 : Gl X z) (hm2 : X.mg z = none) (hv2 : bootBuiltins z = some (.type "zip"))
    (he : PE X e te) (hn1 : l ≠ "__name__" := by decide) (hdb1 : (l == ("__debug__" : Str)) = false := by decide) (hn2 : z ≠ "__name__" := by decide) (hdb2 : (z == ("__debug__" : Str)) = false := by decide)
    (hst : starEach [.Starred e p3] X.env = [(true, eval e X.env)] := by rfl) :
    PE X (.Call (.Name l p1) [.Call (.Name z p2) [.Starred e p3] [] pos2] [] pos1) (tZipL X.K (tStar X.K te tNil)) := by
  refine ⟨fun pins s σ H Q I h => ?_⟩
  refine wpAny_Call_Name_kw (ld_blt I hg1 hm1 hv1 ?_ hn1 hdb1)
  refine PyProof.Rows.callWith_type1 ?_
  refine Calls.spliced_cons (thn (Q := fun v s₁ => wpAny (model X.prog X.w) X.A (call (.type "list") [v]) (EP X pins σ Q) X.xe s₁) ?_ fun v s1 h1 => Calls.spliced_nil h1)
  refine wpAny_Call_Name_kw (ld_blt I hg2 hm2 hv2 ?_ hn2 hdb2)
  rw [hst]
  refine PySem.W.ks_call (P := fun _ => True) rfl (fun _ _ => keep_type) (PySem.W.ks_lone ?_)
  refine thn (he.run pins s σ H _ I h) fun v s1 ⟨y, H1, I1, ry, a, xs, ey, hx, q⟩ => ?_
  subst ey
  obtain rfl : v = Value.ref a := ry
  refine star_any I1 (hx.elim .inl .inr) fun us s2 I2 rv => ⟨trivial, ?_⟩
  refine run_zip hc I2 rv ?_
  simpa [tNil] using q
theorem p_zipS1 {e e2 : Expr} {es : List Expr} {ta : TA} {l z : Str} {p1 p2 p3 pos1 pos2 : Pos} (hc : X.calm = true) (hg1 : Gl X l) (hm1 : X.mg l = none) (hv1 : bootBuiltins l = some (.type "list")) (hg2 : Gl X z) (hm2 : X.mg z = none) (hv2 : bootBuiltins z = some (.type "zip"))
    (he : PA X (.Starred e p3 :: e2 :: es) ta) (hn1 : l ≠ "__name__" := by decide) (hdb1 : (l == ("__debug__" : Str)) = false := by decide) (hn2 : z ≠ "__name__" := by decide) (hdb2 : (z == ("__debug__" : Str)) = false := by decide)
    (hst : ∃ x y r, backTo pos2 (starEach (.Starred e p3 :: e2 :: es) X.env) = (true, x) :: y :: r := by exact ⟨_, _, _, rfl⟩) :
    PE X (.Call (.Name l p1) [.Call (.Name z p2) (.Starred e p3 :: e2 :: es) [] pos2] [] pos1) (tZipL X.K ta) := by
  refine ⟨fun pins s σ H Q I h => ?_⟩
  refine wpAny_Call_Name_kw (ld_blt I hg1 hm1 hv1 ?_ hn1 hdb1)
  refine PyProof.Rows.callWith_type1 ?_
  refine Calls.spliced_cons (thn (Q := fun v s₁ => wpAny (model X.prog X.w) X.A (call (.type "list") [v]) (EP X pins σ Q) X.xe s₁) ?_ fun v s1 h1 => Calls.spliced_nil h1)
  refine wpAny_Call_Name_kw (ld_blt I hg2 hm2 hv2 ?_ hn2 hdb2)
  have hr := he.run pos2 pins s σ H _ I h
  obtain ⟨x, y, r, hst⟩ := hst
  rw [hst] at hr ⊢
  refine PySem.W.ks_call (P := fun _ => True) rfl (fun _ _ => keep_type) (evalArgs_many ?_)
  refine thn hr fun us s2 ⟨vs, H2, I2, rv, q⟩ => ⟨trivial, ?_⟩
  exact run_zip hc I2 rv q
end

/-! ### on data -/
inductive Sqs (M : Mem) : List D → List (List D) → Prop
  | nil : Sqs M [] []
  | cons {d : D} {r : List D} {ds rows} : Sq M d r → Sqs M ds rows → Sqs M (d :: ds) (r :: rows)
theorem Sqs.tups {M : Mem} : ∀ (rows : List (List D)), Sqs M (rows.map D.tup) rows
  | [] => .nil
  | _ :: rows => .cons .tup (Sqs.tups rows)
theorem Sqs.append {M : Mem} {ds es : List D} {rows rows' : List (List D)} (h : Sqs M ds rows) (h' : Sqs M es rows') : Sqs M (ds ++ es) (rows ++ rows') := by
  induction h with
  | nil => exact h'
  | cons a _ ih => exact .cons a ih
def colsD (rows : List (List D)) (n : Nat) : List (List D) := (List.range n).map fun c => rows.map fun r => (r[c]?).getD .non

variable {c : Cz} {Γ : Gm} {M : Mem}
theorem za_star {te : TE} {t : TA} {k : List D → Mem → Prop} (h : ZE c te Γ M fun d M1 => ∃ ds, Sq M1 d ds ∧ ZA c t Γ M1 fun es M2 => k (ds ++ es) M2) : ZA c (tStar c.K te t) Γ M k := fun R F σ H Q hs L X q =>
  h R F σ H _ hs L X fun v F1 H1 M1 d e1 L1 r1 ⟨ds, s, h1⟩ => by
    obtain ⟨a, vs, rfl, p, rr⟩ := s.read L1 r1
    exact ⟨a, vs, rfl, p.elim .inr .inl, h1 R F1 σ H1 _ (hs.mono e1) L1 (X.mono e1) fun ws F2 H2 M2 es e2 L2 r2 kk => q _ F2 H2 M2 _ (e1.trans e2) L2 ((rr.mono e2).append r2) kk⟩

theorem Sqs.read {K : Fg} {F H : Hp} {R : Mem} {ds : List D} {rows : List (List D)} (s : Sqs M ds rows) (L : Lay K F (M ++ R) H) : ∀ {vs : List V}, Rps K F vs ds → ∃ rv : List (List V), RowsV K H vs rv ∧ rv.length = rows.length ∧ ∀ (i : Nat) (r : List D), rows[i]? = some r → ∃ rv', rv[i]? = some rv' ∧ Rps K F rv' r := by
  induction s with
  | nil => intro vs r; rw [r.unnil]; exact ⟨[], .nil, rfl, fun i r e => by simp at e⟩
  | cons a _ ih =>
    intro vs r
    obtain ⟨v, vs', rfl, rv, rvs⟩ := r.uncons
    obtain ⟨l, h1, h2, h3⟩ := ih rvs
    obtain ⟨p, ws, rfl, hp, rr⟩ := a.read L rv
    refine ⟨ws :: l, .cons hp h1, by rw [List.length_cons, List.length_cons, h2], fun i r e => ?_⟩
    cases i with
    | zero => cases e; exact ⟨ws, rfl, rr⟩
    | succ i => exact h3 i r e

theorem lay_cols {K : Fg} : ∀ (cs : List (List V)) (dcs : List (List D)) (F H : Hp) (M : Mem) (b : Nat), cs.length = dcs.length → Lay K F M H → (∀ x, b ≤ x → H x = none) →
    (∀ (i : Nat) (x : List V) (y : List D), cs[i]? = some x → dcs[i]? = some y → Rps K F x y) →
    ∃ F', Ex F F' ∧ Lay K F' M (layC H b cs) ∧ ∀ (i : Nat) (y : List D), dcs[i]? = some y → Rp K F' (.ref (b + i)) (.tup y)
  | [], [], F, H, M, b, _, L, _, _ => ⟨F, Ex.refl F, L, fun i y e => by simp at e⟩
  | x :: cs, y :: dcs, F, H, M, b, hl, L, hn, hr => by
    have hb := hn b (Nat.le_refl b)
    have L1 : Lay K (upd F b (.tup x)) M (upd H b (.tup x)) := L.new hb
    have E1 : Ex F (upd F b (.tup x)) := ex_upd (L.free hb)
    obtain ⟨F', e, L', h'⟩ := lay_cols cs dcs _ _ M (b + 1) (Nat.succ.inj hl) L1 (fun z hz => by rw [upd_ne (show z ≠ b by omega)]; exact hn z (by omega)) (fun i a d h1 h2 => (hr (i + 1) a d h1 h2).mono E1)
    refine ⟨F', E1.trans e, L', fun i d hd => ?_⟩
    cases i with
    | zero =>
      obtain rfl : y = d := by simpa using hd
      exact (Rp.mk_tup (SqT.of upd_same) ((hr 0 x y rfl rfl).mono E1) : Rp K _ (.ref b) (.tup y)).mono e
    | succ i =>
      have := h' i d hd
      rw [show b + (i + 1) = b + 1 + i by omega]; exact this
  | [], _ :: _, _, _, _, _, hl, _, _, _ => by cases hl
  | _ :: _, [], _, _, _, _, hl, _, _, _ => by cases hl

theorem z_zipL {ta : TA} {k : D → Mem → Prop} (h : ZA c ta Γ M fun ds M1 => ∃ rows n, Sqs M1 ds rows ∧ (∀ r ∈ rows, r.length = n) ∧ (rows = [] → n = 0) ∧ rows.length ≤ sizeLine ∧ n ≤ sizeLine ∧ k (.lst ((colsD rows n).map D.tup)) M1) :
    ZE c (tZipL c.K ta) Γ M k := fun R F σ H Q hs L X q =>
  h R F σ H _ hs L X fun vs F1 H1 M1 ds e1 L1 r1 ⟨rows, n, hS, hn, hz, hl1, hl2, kk⟩ => by
    obtain ⟨rv, h1, h2, h3⟩ := hS.read L1 r1
    have hlen : ∀ r ∈ rv, r.length = n := fun r hr => by
      obtain ⟨i, hi⟩ := List.mem_iff_getElem?.mp hr
      obtain ⟨r', hr'⟩ : ∃ r', rows[i]? = some r' := by
        have := (List.getElem?_eq_some_iff.mp hi).1
        exact ⟨rows[i]'(by omega), List.getElem?_eq_getElem (by omega)⟩
      obtain ⟨y, e, rr⟩ := h3 i r' hr'
      rw [hi] at e; cases e
      rw [rr.len]; exact hn r' (List.mem_of_getElem? hr')
    refine ⟨rv, n, h1, hlen, fun e => hz (by subst e; exact List.eq_nil_of_length_eq_zero h2.symm), by rw [h2]; exact hl1, hl2, fun b p hpb hp hfr => ?_⟩
    obtain ⟨F2, e2, L2, h4⟩ := lay_cols (K := c.K) (colsV rv n) (colsD rows n) F1 H1 (M1 ++ R) b (by simp [colsV, colsD]) L1 hfr (fun i x y hx hy => by
      have hi : i < n := by have := (List.getElem?_eq_some_iff.mp hx).1; simpa [colsV] using this
      have ex : (colsV rv n)[i]? = some (rv.map fun r => (r[i]?).getD .non) := by simp [colsV, hi]
      have ey : (colsD rows n)[i]? = some (rows.map fun r => (r[i]?).getD .non) := by simp [colsD, hi]
      rw [ex] at hx; cases hx
      rw [ey] at hy; cases hy
      refine ⟨by rw [List.length_map, List.length_map, h2], fun j v d hv hd => ?_⟩
      rw [List.getElem?_map] at hv hd
      obtain ⟨r, hr, rfl⟩ := Option.map_eq_some_iff.mp hd
      obtain ⟨r', hr', rr⟩ := h3 j r hr
      rw [hr'] at hv
      cases hv
      have hri : i < r.length := by rw [hn r (List.mem_of_getElem? hr)]; exact hi
      have hri' : i < r'.length := by rw [rr.len]; exact hri
      show Rp c.K F1 ((r'[i]?).getD .non) ((r[i]?).getD .non)
      rw [List.getElem?_eq_getElem hri, List.getElem?_eq_getElem hri']
      exact rr.at_ i _ _ (List.getElem?_eq_getElem hri') (List.getElem?_eq_getElem hri))
    have hp' : layC H1 b (colsV rv n) p = none := by rw [layC_low _ _ _ _ hpb]; exact hp
    refine q (.ref p) _ _ M1 _ ((e1.trans e2).trans (ex_upd (L2.free hp'))) (L2.new hp') (.mk_lst upd_same ((?_ : Rps c.K F2 (refsV b n) ((colsD rows n).map D.tup)).mono (ex_upd (L2.free hp')))) kk
    refine ⟨by simp [refsV, colsD], fun i v d hv hd => ?_⟩
    have hi : i < n := by have := (List.getElem?_eq_some_iff.mp hv).1; simpa [refsV] using this
    rw [List.getElem?_map] at hd
    obtain ⟨y, hy, rfl⟩ := Option.map_eq_some_iff.mp hd
    have ev : (refsV b n)[i]? = some (.ref (b + i)) := by simp [refsV, hi]
    rw [ev] at hv; cases hv
    exact h4 i y hy
end Z
set_option Elab.async false
set_option linter.all false
set_option maxRecDepth 100000
set_option maxHeartbeats 4000000
/-! ZLin: further rules: lcm, a chain of two comparisons, x, y = a, b. -/
namespace Z
open PySem PySem.Spec PyProof.Rows L2
theorem boot_zip : bootBuiltins "zip" = some (.type "zip") := by decide +kernel
theorem boot_set : bootBuiltins "set" = some (.type "set") := by decide +kernel
section
variable {X : Cx}
def rLcmZ : List V → Hp → VK → Prop := fun vs H Q => ∃ a b : Int, vs = [.int a, .int b] ∧ a.natAbs.log2 < 13400 ∧ b.natAbs.log2 < 13400 ∧ (Nat.lcm a.natAbs b.natAbs).log2 < bitsLine ∧ Q (.int ((Nat.lcm a.natAbs b.natAbs : Nat) : Int)) H
theorem log2_max {a b n : Nat} (ha : a.log2 < n) (hb : b.log2 < n) : (max a b).log2 < n := by
  rcases Nat.le_total a b with h | h
  · rw [Nat.max_eq_right h]; exact hb
  · rw [Nat.max_eq_left h]; exact ha
theorem cz_lcm : CallR X (.builtin "math.lcm") rLcmZ := by
  intro pins s σ H vs us Q I r h
  obtain ⟨a, b, rfl, ha, hb, hl, q⟩ := h
  obtain ⟨t, u, rfl⟩ := Vals.int2 r
  have e : (Nat.lcm 1 a.natAbs).lcm b.natAbs = Nat.lcm a.natAbs b.natAbs := by rw [Nat.lcm_comm 1, Nat.lcm_one_right]
  have h1 : (max 1 a.natAbs).log2 < 13400 := log2_max (by decide) ha
  have h2 : (max a.natAbs b.natAbs).log2 < 13400 := log2_max ha hb
  refine call_function_meets PySem.W.MGF.kind_lcm PySem.W.MGF.plain_lcm PySem.W.MGF.entry_lcm (PySem.W.MGF.args_lcm _ _) (PySem.W.mg_run_lcm a t b u (by omega) (by omega) (by rw [e]; exact hl)).meets ?_
  rw [e]
  exact ⟨.int _, H, I.tok _, ⟨_, rfl⟩, q⟩
end
variable {c : Cz} {Γ : Gm} {M : Mem} {k : D → Mem → Prop} {ta tb tc : TE} {DD : ZEnds}
theorem zc_lcm {i j : Int} (h1 : i.natAbs.log2 < 13400) (h2 : j.natAbs.log2 < 13400) (h3 : (Nat.lcm i.natAbs j.natAbs).log2 < bitsLine) (h : k (.int ((Nat.lcm i.natAbs j.natAbs : Nat) : Int)) M) : ZC c rLcmZ [.int i, .int j] M k := fun R F H vs Q L r q => by
  obtain ⟨v, w, rfl, r1, r2⟩ := r.two
  rw [r1.of_int, r2.of_int]
  exact ⟨i, j, rfl, h1, h2, h3, q _ F H M _ (Ex.refl F) L (.int _) h⟩
theorem z_chain {r r' : R2} (h : ZE c ta Γ M fun x M1 => ZE c tb Γ M1 fun y M2 => ZR c r x y M2 fun z M3 => ∃ b, z = .bl b ∧ (b = true → ZE c tc Γ M3 fun u M4 => ZR c r' y u M4 k) ∧ (b = false → k (.bl false) M3)) : ZE c (tChain r r' ta tb tc) Γ M k := fun R F σ H Q hs L X q =>
  h R F σ H _ hs L X fun v F1 H1 M1 x e1 L1 r1 h1 => h1 R F1 σ H1 _ (hs.mono e1) L1 (X.mono e1) fun w F2 H2 M2 y e2 L2 r2 h2 => h2 R F2 H2 v w _ L2 (r1.mono e2) r2 fun z F3 H3 M3 d e3 L3 r3 ⟨b, hb, h3, h4⟩ => by
    subst hb
    refine ⟨b, r3.of_bl, ?_⟩
    have E := (e1.trans e2).trans e3
    cases b with
    | true => exact h3 rfl R F3 σ H3 _ (hs.mono E) L3 (X.mono E) fun u F4 H4 M4 du e4 L4 r4 h5 => h5 R F4 H4 w u Q L4 ((r2.mono e3).mono e4) r4 (q.mono (E.trans e4))
    | false => exact q (.bl false) F3 H3 M3 (.bl false) E L3 (.bl false) (h4 rfl)
theorem zs_par {i j : Nat} {ta : TA} (h : ZA c ta Γ M fun ds M1 => ∃ x y, ds = [x, y] ∧ DD.nx ((Γ.set i (some x)).set j (some y)) M1) : ZS c (tPar i j ta) Γ M DD := fun R F σ H D hs L X q =>
  h R F σ H _ hs L X fun vs F1 H1 M1 ds e1 L1 r1 ⟨x, y, e, h1⟩ => by
    subst e
    obtain ⟨v, w, rfl, r1, r2⟩ := r1.two
    exact ⟨v, w, rfl, q.nx _ F1 H1 M1 _ e1 L1 (((hs.mono e1).set i r1).set j r2) h1⟩
end Z
namespace Z
open PySem PySem.Spec PyProof.Rows L2
theorem boot_len : bootBuiltins "len" = some (.builtin "len") := by decide +kernel
end Z
namespace Z
open PySem PySem.Spec PyProof.Rows L2
variable {c : Cz} {Γ : Gm} {M : Mem} {k : D → Mem → Prop} {ta : TE}
/-- a value handed on: a changing list of Mem changes no more, any other value as it is -/
theorem z_fz2 (h : ZE c ta Γ M fun d M1 => (∃ a i ds, d = .at a ∧ M1[i]? = some (a, .lst ds) ∧ k (.lst ds) (M1.eraseIdx i)) ∨ k d M1) : ZE c (fz ta) Γ M k := fun R F σ H Q hs L X q =>
  h R F σ H Q hs L X fun v F1 H1 M1 d e1 L1 r1 h1 => by
    rcases h1 with ⟨a, i, ds, rfl, hi, hk⟩ | hk
    · have hl : i < M1.length := (List.getElem?_eq_some_iff.mp hi).1
      have hi' : (M1 ++ R)[i]? = some (a, .lst ds) := by rw [List.getElem?_append_left hl]; exact hi
      obtain ⟨vs, hv, rv⟩ := L1.at_ hi'
      obtain ⟨L2, e2⟩ := L1.frz hi' hv
      rw [List.eraseIdx_append_of_lt_length hl] at L2
      rw [r1.of_at]
      exact q (.ref a) _ H1 _ (.lst ds) (e1.trans e2) L2 (.mk_lst upd_same (rv.mono e2)) hk
    · exact q v F1 H1 M1 d e1 L1 r1 hk
end Z
set_option Elab.async false
set_option linter.all false
set_option maxRecDepth 100000
set_option maxHeartbeats 4000000
/-! ZDeep: == and != of data at any depth. -/
namespace Z
open PySem PySem.Spec PyProof.Rows L2
mutual
inductive Pd (M : Mem) : D → PyData → Prop
  | non : Pd M .non .none
  | bl (b : Bool) : Pd M (.bl b) (.bool b)
  | int (i : Int) : Pd M (.int i) (.int i)
  | str (x : Str) : Pd M (.str x) (.str x)
  | tup {ds : List D} {es : List PyData} : PdAll M ds es → Pd M (.tup ds) (.tuple es)
  | lst {ds : List D} {es : List PyData} : PdAll M ds es → Pd M (.lst ds) (.list es)
  | scr {ds : List D} {es : List PyData} : PdAll M ds es → Pd M (.scr ds) (.list es)
  | «at» {a : Addr} {i : Nat} {ds : List D} {es : List PyData} : M[i]? = some (a, .lst ds) → PdAll M ds es → Pd M (.at a) (.list es)
inductive PdAll (M : Mem) : List D → List PyData → Prop
  | nil : PdAll M [] []
  | cons {d : D} {ds : List D} {e : PyData} {es : List PyData} : Pd M d e → PdAll M ds es → PdAll M (d :: ds) (e :: es)
end
section
variable {K : Fg} {F H : Hp} {M R : Mem}
mutual
theorem Pd.dp (L : Lay K F (M ++ R) H) : ∀ (e : PyData) (d : D) (v : V), Pd M d e → Rp K F v d → L2.Dp K H v e
  | .none, _, _, h, r => by cases h; rw [r.of_non]; exact .non
  | .bool b, _, _, h, r => by cases h; rw [r.of_bl]; exact .bl _
  | .int i, _, _, h, r => by cases h; rw [r.of_int]; exact .int _
  | .str x, _, _, h, r => by cases h; rw [r.of_str]; exact .str _
  | .tuple es, _, _, h, r => by
    cases h with
    | tup h =>
      obtain ⟨a, vs, rfl, q, rr⟩ := r.of_tup
      exact .tup (ex_t L.fr q) (Pd.dpAll L es _ _ h rr)
  | .list es, _, _, h, r => by
    cases h with
    | lst h =>
      obtain ⟨a, vs, rfl, q, rr⟩ := r.of_lst
      exact .lst (.inl (.inl (L.fr _ _ q))) (Pd.dpAll L es _ _ h rr)
    | scr h =>
      obtain ⟨a, vs, rfl, q, rr⟩ := r.of_scr
      exact .lst (ex_l L.fr q) (Pd.dpAll L es _ _ h rr)
    | «at» hi h =>
      rw [r.of_at]
      have hl := (List.getElem?_eq_some_iff.mp hi).1
      obtain ⟨vs, q, rr⟩ := L.at_ (by rw [List.getElem?_append_left hl]; exact hi)
      exact .lst (.inl (.inl q)) (Pd.dpAll L es _ _ h rr)
  | .dict es, _, _, h, r => by cases h
theorem Pd.dpAll (L : Lay K F (M ++ R) H) : ∀ (es : List PyData) (ds : List D) (vs : List V), PdAll M ds es → Rps K F vs ds → L2.DpAll K H vs es
  | [], _, _, h, r => by cases h; rw [r.unnil]; exact .nil
  | e :: es, _, _, h, r => by
    cases h with
    | cons h1 h2 =>
      obtain ⟨v, vs', rfl, r1, r2⟩ := r.uncons
      exact .cons (Pd.dp L e _ _ h1 r1) (Pd.dpAll L es _ _ h2 r2)
end
end
variable {c : Cz} {M : Mem} {k : D → Mem → Prop} {x y : D} {d e : PyData}
theorem zr_eqD (h1 : Pd M x d) (h2 : Pd M y e) (s1 : SeqAt.shaped d = true) (s2 : SeqAt.shaped e = true) (h : k (.bl (PyData.eqv d e)) M) : ZR c (rEqZ c.K) x y M k := fun R F H v w Q L r1 r2 q =>
  .inr ⟨d, e, Pd.dp L d x v h1 r1, Pd.dp L e y w h2 r2, s1, s2, q _ F H M _ (Ex.refl F) L (.bl _) h⟩
theorem zr_neD (h1 : Pd M x d) (h2 : Pd M y e) (s1 : SeqAt.shaped d = true) (s2 : SeqAt.shaped e = true) (h : k (.bl (!PyData.eqv d e)) M) : ZR c (rNeZ c.K) x y M k := fun R F H v w Q L r1 r2 q =>
  .inr ⟨d, e, Pd.dp L d x v h1 r1, Pd.dp L e y w h2 r2, s1, s2, q _ F H M _ (Ex.refl F) L (.bl _) h⟩
/-- rows of ints as data -/
theorem PdAll.ints {M : Mem} : ∀ (r : List Int), PdAll M (r.map D.int) (r.map PyData.int)
  | [] => .nil
  | x :: r => .cons (.int x) (PdAll.ints r)
theorem PdAll.map {α : Type} {M : Mem} {f : α → D} {g : α → PyData} (h : ∀ x, Pd M (f x) (g x)) : ∀ (r : List α), PdAll M (r.map f) (r.map g)
  | [] => .nil
  | x :: r => .cons (h x) (PdAll.map h r)
theorem canLay_map {α : Type} {g : α → PyData} (h : ∀ x, (g x).canLay0 = true) : ∀ r : List α, PyData.canLayAll0 (r.map g) = true
  | [] => rfl
  | x :: r => by rw [List.map_cons]; show (_ && _) = true; rw [h x, canLay_map h r]; rfl
theorem depth_map {α : Type} {g : α → PyData} {n : Nat} (h : ∀ x, (g x).depth ≤ n) : ∀ r : List α, PyData.depthAll (r.map g) ≤ n
  | [] => Nat.zero_le _
  | x :: r => by rw [List.map_cons]; exact Nat.max_le.mpr ⟨h x, depth_map h r⟩
end Z
set_option Elab.async false
set_option linter.all false
set_option maxRecDepth 100000
set_option maxHeartbeats 4000000
/-! ZSort: sorted() of ints, and of (int, thing) pairs whose ints are all unlike. -/
namespace Z
open PySem PySem.Spec PyProof.Rows L2 SrtO
section
variable {prog : Program} {w : World} {A : Around} {E : Value → Shared → Prop} {s : Shared}
/-- a tuple of an int and a reference -/
def IsIR (h : Heap) (v : Value) (x : Int) (r : Addr) : Prop := ∃ a o t n, v = .ref a ∧ h.get? a = some o ∧ o.cls = .type "tuple" ∧ o.data = .seq #[.int x t, .ref r] n
theorem IsIR.keeps {h h' : Heap} {v : Value} {x : Int} {r : Addr} (p : IsIR h v x r) (k : ∀ b o, h.get? b = some o → o.cls = .type "tuple" → h'.get? b = some o) : IsIR h' v x r := by
  obtain ⟨a, o, t, n, e, ho, hc, hd⟩ := p
  exact ⟨a, o, t, n, e, k _ _ ho hc, hc, hd⟩
theorem ir_cmp {vs : List Value} {k : Value → Int} {rf : Value → Addr} (hp : ∀ v ∈ vs, IsIR s.heap v (k v) (rf v)) (hk : ∀ v ∈ vs, ∀ u ∈ vs, k v = k u → rf v = rf u) : Cmp prog w A s (tuples' true) (fun p => p.1 ∈ vs) (lt2 fun v u => decide (k v < k u)) := by
  intro p q hm hm'
  have h1 := hp _ hm
  have h2 := hp _ hm'
  have h3 := hk _ hm _ hm'
  show wpAny (model prog w) A (keyLt' (tuples' true) p.1 q.1) (fun r s' => s' = s ∧ r = decide (k p.1 < k q.1)) (fun _ _ => False) s
  generalize k p.1 = x at h1 h3 ⊢
  generalize rf p.1 = y at h1 h3 ⊢
  generalize k q.1 = x' at h2 h3 ⊢
  generalize rf q.1 = y' at h2 h3 ⊢
  obtain ⟨a, o, t, n, e, ho, hc, hd⟩ := h1
  obtain ⟨a', o', t', n', e', ho', hc', hd'⟩ := h2
  rw [e, e']
  refine PySem.W.kat_lt ho hd ho' hd' ?_
  show PySem.W.KatLex prog w A true (decide (2 < 2)) _ [(.int x t, .int x' t'), (.ref y, .ref y')] 0 s
  refine PySem.W.kat_cons (SeqAt.EqAt.int_int x t x' t' prog w _ _ ?_)
  refine PySem.W.kat_go (fun e1 => ?_) (fun e1 => ?_)
  · have ex : x = x' := by simpa using e1
    have ey : y = y' := h3 ex
    subst ex ey
    refine PySem.W.kat_yes (PySem.W.kat_cons (SeqAt.EqAt.same _ prog w _ _ ?_))
    refine PySem.W.kat_go (fun e2 => ?_) (fun e2 => absurd e2 (by decide))
    exact PySem.W.kat_yes (PySem.W.kat_nil ⟨rfl, (decide_eq_false (Int.lt_irrefl _)).symm⟩)
  · exact PySem.W.kat_no (oneLt_int ⟨rfl, rfl⟩)
theorem ir_firsts {h : Heap} : ∀ {vs : List Value}, (∀ v ∈ vs, ∃ x r, IsIR h v x r) → ∃ fs : List Value, PySem.W.KatTups h vs fs ∧ fs.length = vs.length ∧ ∀ f ∈ fs, ∃ x t, f = Value.int x t
  | [], _ => ⟨[], PySem.W.KatTups.nil, rfl, fun _ hm => by simp at hm⟩
  | v :: vs, hp => by
    obtain ⟨fs, h1, h2, h3⟩ := ir_firsts (vs := vs) fun v' hm => hp v' (List.mem_cons_of_mem _ hm)
    obtain ⟨x, r, a, o, t, n, e, ho, hc, hd⟩ := hp v (List.mem_cons_self ..)
    subst e
    refine ⟨.int x t :: fs, PySem.W.KatTups.cons ho hc hd rfl h1, by rw [List.length_cons, List.length_cons, h2], fun f hm => ?_⟩
    rcases List.mem_cons.mp hm with rfl | hm
    · exact ⟨x, t, rfl⟩
    · exact h3 f hm
theorem ir_sortable {a : Addr} {vs : List Value} {k : Value → Int} {rf : Value → Addr} (h0 : 0 < vs.length) (hp : ∀ v ∈ vs, IsIR s.heap v (k v) (rf v)) (hk : ∀ v ∈ vs, ∀ u ∈ vs, k v = k u → rf v = rf u) (ha : ∀ o, s.heap.get? a = some o → o.cls ≠ .type "tuple") : SortableO prog w A s a vs fun v u => decide (k v < k u) := by
  intro h' keep
  have hp' : ∀ v ∈ vs, IsIR h' v (k v) (rf v) := fun v hm => (hp v hm).keeps fun b o e c => keep b o (fun z => by subst z; exact ha o e c) e
  obtain ⟨fs, h1, h2, h3⟩ := ir_firsts fun v hm => ⟨_, _, hp' v hm⟩
  refine ⟨tuples' true, fun Q E hq => ?_, ir_cmp hp' hk⟩
  refine PySem.W.kat_kind (T := .type "int") h1 (by omega) (fun f hm => ?_) (by rfl) ?_
  · obtain ⟨x, t, rfl⟩ := h3 f hm
    exact PySem.W.Looks.now
  · have e : (Value.type "int" != Value.type "tuple") = true := by first | decide +kernel | rfl | decide
    rw [e]
    exact hq
theorem swo_key (k : Value → Int) : Swo fun v u => decide (k v < k u) := by
  refine ⟨fun x y h => ?_, fun x y z h1 h2 => ?_⟩
  · have := of_decide_eq_true h
    exact decide_eq_false (by omega)
  · have a := of_decide_eq_false h1
    have b := of_decide_eq_false h2
    exact decide_eq_false (by omega)
theorem sorted_ir {l : Addr} {vs : List Value} {k : Value → Int} {rf : Value → Addr} {Q : Value → Shared → Prop} (hl : s.heap.IsList l vs.toArray) (hz : vs.length ≤ sizeLine) (hp : ∀ v ∈ vs, IsIR s.heap v (k v) (rf v)) (hk : ∀ v ∈ vs, ∀ u ∈ vs, k v = k u → rf v = rf u)
    (h : ∀ (h' : Heap) (d : Addr) (out : List Value), Srtd (fun v u => decide (k v < k u)) out → out.Perm vs → (∀ b o, s.heap.get? b = some o → h'.get? b = some o) → s.heap.objs.size ≤ d → (∃ n, h'.get? d = some (seqObj "list" out.toArray n)) → Q (.ref d) { s with heap := h' }) :
    wpAny (model prog w) A (call (.builtin "sorted") [.ref l]) Q E s := by
  refine sorted_ord (swo_key k) hl hz (fun h2 h₁ a ha kk => ?_) fun out hs hb => ?_
  · refine ir_sortable (s := { s with heap := h₁ }) (by omega) (fun v hm => (hp v hm).keeps fun b o e _ => (kk b o e).2) hk fun o e => ?_
    have e' : some o = some (seqObj "list" vs.toArray 0) := e.symm.trans ha
    cases e'
    intro c
    exact absurd (Value.type.inj c) (by decide)
  · exact h _ _ out hs hb.perm (fun b o e => sortedAll_old e) (Nat.le_succ _) (sortedAll_at s.heap vs out.toArray)
end

/-! ### over the layer, on data -/
abbrev IR := Addr × Int × Addr
def irV (p : IR) : V := .ref p.1
def rSortF (K : Fg) : List V → Hp → VK → Prop := fun vs H Q => ∃ (a : Addr) (ps : List IR), vs = [.ref a] ∧ SqL K H a (ps.map irV) ∧ (∀ p ∈ ps, SqT K H p.1 [.int p.2.1, .ref p.2.2]) ∧ (ps.map (·.2.1)).Nodup ∧
  ∀ (ps' : List IR) (p : Addr), ps'.Perm ps → ps'.Pairwise (fun x y => x.2.1 ≤ y.2.1) → H p = none → Q (.ref p) (upd H p (.lst (ps'.map irV)))
theorem nodup_key {ps : List IR} (h : (ps.map (·.2.1)).Nodup) : ∀ p ∈ ps, ∀ q ∈ ps, p.2.1 = q.2.1 → p = q := by
  induction ps with
  | nil => intro p hp; cases hp
  | cons x ps ih =>
    rw [List.map_cons, List.nodup_cons] at h
    intro p hp q hq e
    rcases List.mem_cons.mp hp with e1 | hp1
    · rcases List.mem_cons.mp hq with e2 | hq1
      · rw [e1, e2]
      · rw [e1] at e
        exact absurd (List.mem_map.mpr ⟨q, hq1, e.symm⟩) h.1
    · rcases List.mem_cons.mp hq with e2 | hq1
      · rw [e2] at e
        exact absurd (List.mem_map.mpr ⟨p, hp1, e⟩) h.1
      · exact ih h.2 p hp1 q hq1 e
theorem cr_sortF {X : Cx} : CallR X (.builtin "sorted") (rSortF X.K) := by
  intro pins s σ H vs us Q I r h
  obtain ⟨a, ps, rfl, hs, hx, hnd, q⟩ := h
  obtain ⟨its, rv, hl, hz⟩ := I.list hs
  obtain ⟨u, rfl, ru⟩ := vals1 r
  obtain rfl : u = Value.ref a := ru
  have hits : its = ps.map fun p => Value.ref p.1 := by
    have key : ∀ (ps : List IR) (its : List Value), Vals (ps.map irV) its → its = ps.map fun p => Value.ref p.1 := by
      intro ps
      induction ps with
      | nil => intro its h; cases h; rfl
      | cons p ps ih =>
        intro its h
        cases h with
        | cons h1 h2 => rw [List.map_cons, ← ih _ h2]; exact congrArg (· :: _) h1
    exact key ps its rv
  let g : Value → IR := fun v => match v with
    | .ref t => (ps.find? fun p => decide (p.1 = t)).getD (0, 0, 0)
    | _ => (0, 0, 0)
  have huniq : ∀ p ∈ ps, ∀ p' ∈ ps, p'.1 = p.1 → p' = p := fun p hp p' hp' e => by
    have h1 := hx p hp
    have h2 := hx p' hp'
    rw [e] at h2
    have := I.tuple_inj h1 h2
    simp at this
    exact nodup_key hnd p' hp' p hp this.1.symm
  have hg : ∀ p ∈ ps, g (.ref p.1) = p := fun p hp => by
    show (ps.find? fun q => decide (q.1 = p.1)).getD (0, 0, 0) = p
    cases e : ps.find? fun q => decide (q.1 = p.1) with
    | none => have := List.find?_eq_none.mp e p hp; simp at this
    | some p' =>
      have h1 := List.mem_of_find?_eq_some e
      have h2 := List.find?_some e
      exact huniq p hp p' h1 (of_decide_eq_true h2)
  refine sorted_ir (k := fun v => (g v).2.1) (rf := fun v => (g v).2.2) hl.isList (by rw [← rv.length]; exact hz) (fun v hv => ?_) (fun v hv u hu e => ?_) fun h' d out hsrt hperm kp hd hn => ?_
  · rw [hits] at hv
    obtain ⟨p, hp, rfl⟩ := List.mem_map.mp hv
    rw [hg p hp]
    obtain ⟨its2, r2, ⟨o, ho, hc, n, hd⟩, _⟩ := I.tuple (hx p hp)
    obtain ⟨u1, u2, rfl, ri, rj⟩ := vals2 r2
    obtain ⟨t1, rfl⟩ := ri
    obtain rfl : u2 = Value.ref p.2.2 := rj
    exact ⟨p.1, o, t1, n, rfl, ho, hc, hd⟩
  · rw [hits] at hv hu
    obtain ⟨p, hp, rfl⟩ := List.mem_map.mp hv
    obtain ⟨p', hp', rfl⟩ := List.mem_map.mp hu
    rw [hg p hp, hg p' hp'] at e ⊢
    rw [nodup_key hnd p hp p' hp' e]
  · obtain ⟨n, hn⟩ := hn
    have hback : ∀ v ∈ out, Value.ref (g v).1 = v ∧ g v ∈ ps := fun v hv => by
      have hv := hperm.mem_iff.mp hv
      rw [hits] at hv
      obtain ⟨p, hp, rfl⟩ := List.mem_map.mp hv
      rw [hg p hp]; exact ⟨rfl, hp⟩
    have hp2 : (out.map g).Perm ps := by
      have := hperm.map g
      rw [hits, List.map_map] at this
      have e : ps.map (g ∘ fun p => Value.ref p.1) = ps := by
        have e2 : ps.map (g ∘ fun p => Value.ref p.1) = ps.map id := List.map_congr_left fun p hp => hg p hp
        rw [e2, List.map_id]
      rwa [e] at this
    have hvals : Vals ((out.map g).map irV) out := by
      rw [List.map_map]
      have key : ∀ l : List Value, (∀ v ∈ l, Value.ref (g v).1 = v) → Vals (l.map (irV ∘ g)) l := by
        intro l
        induction l with
        | nil => intro _; exact .nil
        | cons v l ih => intro h; exact .cons (h v List.mem_cons_self).symm (ih fun u hu => h u (List.mem_cons_of_mem _ hu))
      exact key out fun v hv => (hback v hv).1
    have hsl : ((out.map g).map irV).length ≤ sizeLine := by
      rw [List.length_map, hp2.length_eq]
      rw [List.length_map] at hz; exact hz
    refine ⟨.ref d, upd H d (.lst ((out.map g).map irV)), I.laid (t' := s.toks) kp hd ⟨hsl, out, n, hvals, hn⟩, rfl, q _ d hp2 ?_ (I.hok.fresh hd)⟩
    refine List.pairwise_map.mpr (hsrt.imp fun h => ?_)
    have := of_decide_eq_false h
    omega
def rSortZ (K : Fg) : List V → Hp → VK → Prop := fun vs H Q => rSortedI K vs H Q ∨ rSortF K vs H Q
theorem cz_sorted {X : Cx} : CallR X (.builtin "sorted") (rSortZ X.K) := cr_sortedI.or cr_sortF
variable {c : Cz} {M : Mem} {k : D → Mem → Prop} {d : D}
theorem zc_sortI {ns : List Int} (s : Sl M d (ns.map D.int)) (h : ∀ ns' : List Int, ns'.Perm ns → ns'.Pairwise (· ≤ ·) → k (.lst (ns'.map D.int)) M) : ZC c (rSortZ c.K) [d] M k := fun R F H vs Q L r q => by
  obtain ⟨v, rfl, r1⟩ := r.one1
  obtain ⟨a, vs, rfl, p, rr⟩ := s.read L r1
  rw [rr.ints] at p
  refine .inl ⟨a, ns, rfl, p, fun ns' l h1 h2 hl => q _ _ _ M _ (ex_upd (L.free hl)) (L.new hl) (.mk_lst upd_same (Rps.of_map fun x _ => .int x)) (h ns' h1 h2)⟩
abbrev irD (p : Int × List D) : D := .tup [.int p.1, .tup p.2]
theorem zc_sortF {ps : List (Int × List D)} (s : Sl M d (ps.map irD)) (hnd : (ps.map (·.1)).Nodup) (h : ∀ ps' : List (Int × List D), ps'.Perm ps → ps'.Pairwise (fun x y => x.1 ≤ y.1) → k (.lst (ps'.map irD)) M) : ZC c (rSortZ c.K) [d] M k := fun R F H vs Q L r q => by
  obtain ⟨v, rfl, r1⟩ := r.one1
  obtain ⟨a, vs, rfl, p, rr⟩ := s.read L r1
  -- each item's two refs
  have hits : ∀ (ps : List (Int × List D)) (vs : List V), Rps c.K F vs (ps.map irD) → ∃ qs : List (IR × List D), vs = qs.map (fun q => irV q.1) ∧ ps = qs.map (fun q => (q.1.2.1, q.2)) ∧ ∀ q ∈ qs, SqT c.K H q.1.1 [.int q.1.2.1, .ref q.1.2.2] ∧ Rp c.K F (irV q.1) (irD (q.1.2.1, q.2)) := by
    intro ps
    induction ps with
    | nil => intro vs r; rw [r.unnil]; exact ⟨[], rfl, rfl, fun q h => by cases h⟩
    | cons p ps ih =>
      intro vs r
      obtain ⟨v, vs', rfl, r1, r2⟩ := r.uncons
      obtain ⟨qs, e1, e2, e3⟩ := ih vs' r2
      obtain ⟨t, ws, rfl, ht, rw_⟩ := r1.of_tup
      obtain ⟨v1, v2, rfl, s1, s2⟩ := rw_.two
      have hv1 := s1.of_int
      obtain ⟨t2, ws2, rfl, _, _⟩ := s2.of_tup
      subst hv1
      refine ⟨((t, p.1, t2), p.2) :: qs, by rw [e1]; rfl, by rw [List.map_cons, ← e2], fun q hq => ?_⟩
      rcases List.mem_cons.mp hq with rfl | hq
      · exact ⟨ex_t L.fr ht, r1⟩
      · exact e3 q hq
  obtain ⟨qs, rfl, rfl, h3⟩ := hits ps vs rr
  refine .inr ⟨a, qs.map (·.1), rfl, by rw [List.map_map]; exact p, fun x hx => ?_, ?_, fun ps' l h1 h2 hl => ?_⟩
  · obtain ⟨z, hz, rfl⟩ := List.mem_map.mp hx
    exact (h3 z hz).1
  · rw [List.map_map] at hnd ⊢; exact hnd
  · -- the order carried to the data
    have hnd2 : (qs.map fun q => q.1.2.1).Nodup := by rw [List.map_map] at hnd; exact hnd
    let g : IR → List D := fun p => ((qs.find? fun q => decide (q.1.2.1 = p.2.1)).map (·.2)).getD []
    have hg : ∀ z ∈ qs, g z.1 = z.2 := fun z hz => by
      have key : ∀ (qs : List (IR × List D)), (qs.map fun q => q.1.2.1).Nodup → ∀ z ∈ qs, (qs.find? fun q => decide (q.1.2.1 = z.1.2.1)) = some z := by
        intro qs
        induction qs with
        | nil => intro _ z hz; cases hz
        | cons y qs ih =>
          intro hn z hz
          rw [List.map_cons, List.nodup_cons] at hn
          rw [List.find?_cons]
          rcases List.mem_cons.mp hz with rfl | hz
          · simp
          · have hne : ¬ y.1.2.1 = z.1.2.1 := fun e => hn.1 (List.mem_map.mpr ⟨z, hz, e.symm⟩)
            rw [decide_eq_false hne]; exact ih hn.2 z hz
      show ((qs.find? fun q => decide (q.1.2.1 = z.1.2.1)).map (·.2)).getD [] = z.2
      rw [key qs hnd2 z hz]; rfl
    have hm : ∀ x ∈ ps', ∃ z ∈ qs, z.1 = x := fun x hx => by
      obtain ⟨z, hz, e⟩ := List.mem_map.mp (h1.mem_iff.mp hx)
      exact ⟨z, hz, e⟩
    have hperm : (ps'.map fun x => (x.2.1, g x)).Perm (qs.map fun q => (q.1.2.1, q.2)) := by
      have := h1.map fun x : IR => (x.2.1, g x)
      rw [List.map_map] at this
      have e : qs.map ((fun x : IR => (x.2.1, g x)) ∘ (·.1)) = qs.map fun q => (q.1.2.1, q.2) := List.map_congr_left fun z hz => by
        show (z.1.2.1, g z.1) = _
        rw [hg z hz]
      rwa [e] at this
    have hk := h (ps'.map fun x => (x.2.1, g x)) hperm (List.pairwise_map.mpr (h2.imp fun h => h))
    refine q _ _ _ M _ (ex_upd (L.free hl)) (L.new hl) (.mk_lst upd_same ((?_ : Rps c.K F (ps'.map irV) _).mono (ex_upd (L.free hl)))) hk
    rw [List.map_map]
    refine Rps.of_map fun x hx => ?_
    obtain ⟨z, hz, rfl⟩ := hm x hx
    show Rp c.K F (irV z.1) (irD (z.1.2.1, g z.1))
    rw [hg z hz]; exact (h3 z hz).2
section
variable {P : Program} {w : World} {K : Fg} {mg : Str → Option Value} {base : Heap} {x qual : Str} {params : Arguments} {body : List Stmt} {scope : Scope} {dvs : List V} {kws : List (Str × V)} {f : Addr} {fd : FuncData} {ps : List Str} {k : Nat}
/-- a def with defaults is called with all its arguments -/
theorem fnz_dfl {S : ZSp} (F : FunD K x qual params body scope dvs kws f fd) (G : FnOk P w K mg base CX0 k f fd ps (toSp K S)) (hm : mg x = some (.ref f)) (hb : ∃ ds, Vals [] ds ∧ Binds K fd ps ds) : FnZ P w K mg base x k S := by
  obtain ⟨ds, hd, hb⟩ := hb
  exact ⟨f, fd, ps, toSp K S, ds, [], G, hm, F.kp, hb, hd, fun vs H Q ⟨R, F, M, ds, kk, L, r, s, q⟩ => by rw [List.append_nil]; exact ⟨R, F, M, ds, kk, L, r, s, q⟩⟩
end
end Z
set_option Elab.async false
set_option linter.all false
set_option maxRecDepth 100000
set_option maxHeartbeats 4000000
/-! YOps: what operators and built-ins do to plain data; none where the layer has no rule. -/
namespace Z
open PySem PySem.Spec PyProof.Rows L2
/-- two results at once -/
def bp {α β γ : Type} (m : Option (α × β)) (f : α → β → Option γ) : Option γ := m.bind fun p => f p.1 p.2
@[simp] theorem bp_some {α β γ : Type} (a : α) (b : β) (f : α → β → Option γ) : bp (some (a, b)) f = f a b := rfl
@[simp] theorem bp_none {α β γ : Type} (f : α → β → Option γ) : bp none f = none := rfl
def mulB (i j : Int) : Bool := decide (i.natAbs < 2 ^ 64) || decide (j.natAbs < 2 ^ 64) || decide (i.natAbs.log2 + j.natAbs.log2 < 1000000)
theorem mulB_ok {i j : Int} (h : mulB i j = true) : MulOk i j := by
  unfold mulB at h
  rw [Bool.or_eq_true, Bool.or_eq_true] at h
  rcases h with (h | h) | h
  · exact .left (of_decide_eq_true h)
  · exact .right (of_decide_eq_true h)
  · exact .of (of_decide_eq_true h)
def divB (j : Int) : Bool := decide (j ≠ 0) && decide (j.natAbs.log2 < 9000)
theorem divB_ok {i j : Int} (h : divB j = true) : DivOk i j := by
  unfold divB at h
  rw [Bool.and_eq_true] at h
  exact ⟨of_decide_eq_true h.1, PyProof.noPylong_of_log2 (of_decide_eq_true h.2)⟩
def powB (i j : Int) : Bool := decide (0 ≤ j) && decide (j ≤ 1000000) && decide (i.natAbs < 2 ^ 64)
theorem powB_ok {i j : Int} (h : powB i j = true) : CPow i j := by
  unfold powB at h
  rw [Bool.and_eq_true, Bool.and_eq_true] at h
  exact ⟨of_decide_eq_true h.1.1, of_decide_eq_true h.1.2, of_decide_eq_true h.2⟩
def gd (b : Bool) (d : D) : Option D := if b then some d else none
theorem gd_some {b : Bool} {d e : D} (h : gd b d = some e) : b = true ∧ d = e := by
  unfold gd at h
  cases b with
  | true => exact ⟨rfl, Option.some.inj h⟩
  | false => cases h
@[simp] theorem gd_true (d : D) : gd true d = some d := rfl
theorem gd_of {b : Bool} {d : D} (h : b = true) : gd b d = some d := by rw [h]; rfl
def dAdd : D → D → Option D
  | .int i, .int j => some (.int (i + j))
  | .tup x, .tup y => gd (decide (x.length + y.length ≤ sizeLine)) (.tup (x ++ y))
  | .lst x, .lst y => gd (decide (x.length + y.length ≤ sizeLine)) (.lst (x ++ y))
  | .str x, .str y => gd (decide (x.length + y.length ≤ sizeLine)) (.str (x ++ y))
  | _, _ => none
def dSub : D → D → Option D
  | .int i, .int j => some (.int (i - j))
  | _, _ => none
def repB (n : Nat) (j : Int) : Bool := decide (-(2 ^ 63) ≤ j) && decide (j < 2 ^ 63) && decide (n * j.toNat ≤ sizeLine)
def dMul : D → D → Option D
  | .int i, .int j => gd (mulB i j) (.int (i * j))
  | .lst x, .int j => gd (repB x.length j) (.lst (List.replicate j.toNat x).flatten)
  | _, _ => none
def dMod : D → D → Option D
  | .int i, .int j => gd (decide (0 < j)) (.int (i % j))
  | _, _ => none
def dDiv : D → D → Option D
  | .int i, .int j => gd (divB j) (.int (i.fdiv j))
  | _, _ => none
def dPow : D → D → Option D
  | .int i, .int j => gd (powB i j) (.int (i ^ j.toNat))
  | _, _ => none
def dNeg : D → Option D
  | .int i => some (.int (-i))
  | _ => none
def bLt : D → D → Option Bool
  | .int i, .int j => some (decide (i < j))
  | _, _ => none
def bLe : D → D → Option Bool
  | .int i, .int j => some (decide (i ≤ j))
  | _, _ => none
def bGt : D → D → Option Bool
  | .int i, .int j => some (decide (j < i))
  | _, _ => none
def bGe : D → D → Option Bool
  | .int i, .int j => some (decide (j ≤ i))
  | _, _ => none
mutual
def toPy : D → Option PyData
  | .non => some .none
  | .bl b => some (.bool b)
  | .int i => some (.int i)
  | .str x => some (.str x)
  | .tup ds => (toPys ds).map .tuple
  | .lst ds => (toPys ds).map .list
  | .scr ds => (toPys ds).map .list
  | _ => none
def toPys : List D → Option (List PyData)
  | [] => some []
  | d :: ds => match toPy d, toPys ds with
    | some x, some y => some (x :: y)
    | _, _ => none
end
mutual
theorem toPy_pd {M : Mem} : ∀ (d : D) (p : PyData), toPy d = some p → Pd M d p
  | .non, p, h => by cases h; exact .non
  | .bl b, p, h => by cases h; exact .bl b
  | .int i, p, h => by cases h; exact .int i
  | .str x, p, h => by cases h; exact .str x
  | .tup ds, p, h => by
    unfold toPy at h
    obtain ⟨q, hq, rfl⟩ := Option.map_eq_some_iff.mp h
    exact .tup (toPys_pd ds q hq)
  | .lst ds, p, h => by
    unfold toPy at h
    obtain ⟨q, hq, rfl⟩ := Option.map_eq_some_iff.mp h
    exact .lst (toPys_pd ds q hq)
  | .scr ds, p, h => by
    unfold toPy at h
    obtain ⟨q, hq, rfl⟩ := Option.map_eq_some_iff.mp h
    exact .scr (toPys_pd ds q hq)
  | .ty _, p, h => by cases h
  | .obj _ _, p, h => by cases h
  | .at _, p, h => by cases h
theorem toPys_pd {M : Mem} : ∀ (ds : List D) (ps : List PyData), toPys ds = some ps → PdAll M ds ps
  | [], ps, h => by cases h; exact .nil
  | d :: ds, ps, h => by
    unfold toPys at h
    cases h1 : toPy d with
    | none => rw [h1] at h; cases h
    | some x =>
      rw [h1] at h
      cases h2 : toPys ds with
      | none => rw [h2] at h; cases h
      | some y =>
        rw [h2] at h
        cases h
        exact .cons (toPy_pd d x h1) (toPys_pd ds y h2)
end
def shp (p : PyData) : Bool := SeqAt.shaped p
def bEqP (x y : D) : Option Bool := (toPy x).bind fun p => (toPy y).bind fun q => if shp p && shp q then some (PyData.eqv p q) else none
def bEq : D → D → Option Bool
  | .int i, .int j => some (decide (i = j))
  | .bl i, .bl j => some (decide (i = j))
  | .str i, .str j => some (decide (i = j))
  | .tup x, .tup y => bEqP (.tup x) (.tup y)
  | .lst x, .lst y => bEqP (.lst x) (.lst y)
  | x, y => bEqP x y
def bNe (x y : D) : Option Bool := (bEq x y).map (!·)
def asInts : List D → Option (List Int)
  | [] => some []
  | .int i :: ds => (asInts ds).map (i :: ·)
  | _ => none
theorem asInts_eq : ∀ {ds : List D} {ns : List Int}, asInts ds = some ns → ds = ns.map D.int
  | [], ns, h => by cases h; rfl
  | .int i :: ds, ns, h => by
    unfold asInts at h
    obtain ⟨q, hq, rfl⟩ := Option.map_eq_some_iff.mp h
    rw [asInts_eq hq]; rfl
  | .non :: _, _, h | .bl _ :: _, _, h | .str _ :: _, _, h | .ty _ :: _, _, h | .tup _ :: _, _, h | .lst _ :: _, _, h | .scr _ :: _, _, h | .obj _ _ :: _, _, h | .at _ :: _, _, h => by cases h
@[simp] theorem asInts_map : ∀ ns : List Int, asInts (ns.map D.int) = some ns
  | [] => rfl
  | n :: ns => by rw [List.map_cons]; unfold asInts; rw [asInts_map ns]; rfl
def asBls : List D → Option (List Bool)
  | [] => some []
  | .bl i :: ds => (asBls ds).map (i :: ·)
  | _ => none
theorem asBls_eq : ∀ {ds : List D} {ns : List Bool}, asBls ds = some ns → ds = ns.map D.bl
  | [], ns, h => by cases h; rfl
  | .bl i :: ds, ns, h => by
    unfold asBls at h
    obtain ⟨q, hq, rfl⟩ := Option.map_eq_some_iff.mp h
    rw [asBls_eq hq]; rfl
  | .non :: _, _, h | .int _ :: _, _, h | .str _ :: _, _, h | .ty _ :: _, _, h | .tup _ :: _, _, h | .lst _ :: _, _, h | .scr _ :: _, _, h | .obj _ _ :: _, _, h | .at _ :: _, _, h => by cases h
@[simp] theorem asBls_map : ∀ ns : List Bool, asBls (ns.map D.bl) = some ns
  | [] => rfl
  | n :: ns => by rw [List.map_cons]; unfold asBls; rw [asBls_map ns]; rfl
/-- the items of a list or a tuple -/
def items : D → Option (List D)
  | .tup x => some x
  | .lst x => some x
  | .scr x => some x
  | _ => none
def bIn (x : D) (y : D) : Option Bool := match x with
  | .int i => (items y).bind fun ds => (asInts ds).bind fun ns => some (decide (i ∈ ns))
  | _ => none
def bTru : D → Option Bool
  | .non => some false
  | .bl b => some b
  | .int i => some (i != 0)
  | .tup x => some (!x.isEmpty)
  | .lst x => some (!x.isEmpty)
  | .scr x => some (!x.isEmpty)
  | _ => none
def dBl : D → Option Bool
  | .bl b => some b
  | _ => none
def dLen : D → Option D
  | .tup x => some (.int (x.length : Nat))
  | .lst x => some (.int (x.length : Nat))
  | .scr x => some (.int (x.length : Nat))
  | .str z => gd (decide (z.length ≤ sizeLine)) (.int (z.length : Nat))
  | _ => none
def dIx : D → D → Option D
  | .tup x, .int i => L2.atI x i
  | .lst x, .int i => L2.atI x i
  | .scr x, .int i => L2.atI x i
  | .str z, .int i => if z.length ≤ sizeLine then (L2.atI z.cps.toList i).map fun n => .str ⟨#[n]⟩ else none
  | _, _ => none
/-- a part of a slice -/
def dPart : D → Option (Option Int)
  | .int i => some (some i)
  | _ => none
def dSlice : D → Option Int → Option Int → Option D
  | .tup x, lo, hi => some (.tup (cutD x lo hi))
  | .lst x, lo, hi => some (.lst (cutD x lo hi))
  | .scr x, lo, hi => some (.lst (cutD x lo hi))
  | .str z, lo, hi => gd (decide (z.length ≤ sizeLine)) (.str (cutS z lo hi))
  | _, _, _ => none
def dAbs : D → Option D
  | .int i => some (.int (i.natAbs : Int))
  | _ => none
def dMax2 : D → D → Option D
  | .int i, .int j => some (.int (max i j))
  | _, _ => none
def dMin2 : D → D → Option D
  | .int i, .int j => some (.int (min i j))
  | _, _ => none
def dGcd : D → D → Option D
  | .int i, .int j => some (.int ((Nat.gcd i.natAbs j.natAbs : Nat) : Int))
  | _, _ => none
def lcmB (i j : Int) : Bool := decide (i.natAbs.log2 < 13400) && decide (j.natAbs.log2 < 13400) && decide ((Nat.lcm i.natAbs j.natAbs).log2 < bitsLine)
def dLcm : D → D → Option D
  | .int i, .int j => gd (lcmB i j) (.int ((Nat.lcm i.natAbs j.natAbs : Nat) : Int))
  | _, _ => none
def dInt : D → Option D
  | .int i => some (.int i)
  | .bl b => some (.int (if b then 1 else 0))
  | _ => none
def itemsL : D → Option (List D)
  | .lst x => some x
  | .scr x => some x
  | _ => none
def dSum (d : D) : Option D := (itemsL d).bind fun ds => (asInts ds).bind fun ns => some (.int ns.sum)
def dAll (d : D) : Option D := (itemsL d).bind fun ds => (asBls ds).bind fun ns => some (.bl (ns.all id))
def dAny (d : D) : Option D := (itemsL d).bind fun ds => (asBls ds).bind fun ns => some (.bl (ns.any id))
def dList (d : D) : Option D := (items d).bind fun ds => some (.lst ds)
def dTuple (d : D) : Option D := (items d).bind fun ds => some (.tup ds)
/-- isinstance of built-in classes -/
def isiT (t u : String) : Option Bool := if u = "int" then (if t = "int" ∨ t = "bool" then some true else some false) else if u = "bool" ∨ u = "str" ∨ u = "tuple" ∨ u = "list" then some (t == u) else none
def bIsi (d : D) (u : String) : Option Bool := (tyD d).bind fun t => isiT t u
theorem kit_tab : ∀ t ∈ ["NoneType", "bool", "int", "str", "tuple", "list"], ∀ u ∈ ["int", "bool", "str", "tuple", "list"], kitB t u = isiT t u := by decide +kernel
theorem tyD_mem {d : D} {t : String} (h : tyD d = some t) : t ∈ ["NoneType", "bool", "int", "str", "tuple", "list"] := by
  cases d <;> cases h <;> simp
theorem isi_ok {t u : String} {b : Bool} (ht : t ∈ ["NoneType", "bool", "int", "str", "tuple", "list"]) (h : isiT t u = some b) : kitB t u = some b := by
  have hu : u ∈ ["int", "bool", "str", "tuple", "list"] := by
    unfold isiT at h
    by_cases h1 : u = "int"
    · simp [h1]
    rw [if_neg h1] at h
    by_cases h2 : u = "bool" ∨ u = "str" ∨ u = "tuple" ∨ u = "list"
    · simp only [List.mem_cons]
      rcases h2 with h | h | h | h
      · exact .inr (.inl h)
      · exact .inr (.inr (.inl h))
      · exact .inr (.inr (.inr (.inl h)))
      · exact .inr (.inr (.inr (.inr (.inl h))))
    · rw [if_neg h2] at h; cases h
  rw [kit_tab t ht u hu]; exact h
/-- unpacking -/
def un2 : D → Option (D × D)
  | .tup [a, b] => some (a, b)
  | _ => none
def un3 : D → Option (D × D × D)
  | .tup [a, b, c] => some (a, b, c)
  | _ => none
theorem un2_some {d a b : D} (h : un2 d = some (a, b)) : d = .tup [a, b] := by
  unfold un2 at h
  split at h
  · cases h; rfl
  · cases h
theorem un3_some {d a b c : D} (h : un3 d = some (a, b, c)) : d = .tup [a, b, c] := by
  unfold un3 at h
  split at h
  · cases h; rfl
  · cases h
/-! loops -/
inductive Fl (N S R : Type) where
  | nx (n : N) | ct (s : S) | bk (s : S) | rt (r : R)
section
variable {N S R α : Type}
/-- the rest behind a part that may also leave -/
def Fl.seq {N' : Type} (m : Option (Fl N S R)) (f : N → Option (Fl N' S R)) : Option (Fl N' S R) := m.bind fun
  | .nx n => f n
  | .ct s => some (.ct s)
  | .bk s => some (.bk s)
  | .rt r => some (.rt r)
/-- the rest of a def behind such a part -/
def Fl.fin (m : Option (Fl N S α)) (f : N → Option α) : Option α := m.bind fun
  | .nx n => f n
  | .rt r => some r
  | _ => none
def foldO (f : S → D → Option S) : List D → S → Option S
  | [], s => some s
  | d :: ds, s => (f s d).bind fun s' => foldO f ds s'
def forL (f : S → D → Option (Fl S S R)) : List D → S → Option (Fl S S R)
  | [], s => some (.nx s)
  | d :: ds, s => (f s d).bind fun
    | .nx s' => forL f ds s'
    | .ct s' => forL f ds s'
    | .bk s' => some (.nx s')
    | .rt r => some (.rt r)
def whlN (f : S → Option (Fl S S R)) : Nat → S → Option (Fl S S R)
  | 0, _ => none
  | n + 1, s => (f s).bind fun
    | .nx s' => whlN f n s'
    | .ct s' => whlN f n s'
    | .bk s' => some (.nx s')
    | .rt r => some (.rt r)
open Classical in
noncomputable def whl (f : S → Option (Fl S S R)) (s : S) : Option (Fl S S R) := if h : ∃ n r, whlN f n s = some r then some h.choose_spec.choose else none
theorem whlN_mono {f : S → Option (Fl S S R)} : ∀ {n m : Nat} {s : S} {r : Fl S S R}, n ≤ m → whlN f n s = some r → whlN f m s = some r
  | 0, _, _, _, _, h => by cases h
  | n + 1, 0, _, _, h, _ => by omega
  | n + 1, m + 1, s, r, hm, h => by
    unfold whlN at h ⊢
    cases e : f s with
    | none => rw [e] at h; cases h
    | some x =>
      rw [e] at h
      cases x with
      | nx s' => exact whlN_mono (Nat.le_of_succ_le_succ hm) h
      | ct s' => exact whlN_mono (Nat.le_of_succ_le_succ hm) h
      | bk s' => exact h
      | rt r' => exact h
theorem whl_of {f : S → Option (Fl S S R)} {n : Nat} {s : S} {r : Fl S S R} (h : whlN f n s = some r) : whl f s = some r := by
  have hx : ∃ n r, whlN f n s = some r := ⟨n, r, h⟩
  unfold whl
  rw [dif_pos hx]
  have h2 := hx.choose_spec.choose_spec
  have h3 := whlN_mono (Nat.le_max_left n hx.choose) h
  have h4 := whlN_mono (Nat.le_max_right n hx.choose) h2
  rw [h3] at h4
  exact h4.symm
theorem whl_ex {f : S → Option (Fl S S R)} {s : S} {r : Fl S S R} (h : whl f s = some r) : ∃ n, whlN f n s = some r := by
  unfold whl at h
  split at h
  · rename_i hx
    cases h
    exact ⟨_, hx.choose_spec.choose_spec⟩
  · cases h
theorem whl_nx {f : S → Option (Fl S S R)} {s s' : S} {r : Fl S S R} (h : f s = some (.nx s')) (h2 : whl f s' = some r) : whl f s = some r := by
  obtain ⟨n, hn⟩ := whl_ex h2
  exact whl_of (n := n + 1) (by unfold whlN; rw [h]; exact hn)
theorem whl_bk {f : S → Option (Fl S S R)} {s s' : S} (h : f s = some (.bk s')) : whl f s = some (.nx s') := whl_of (n := 1) (by unfold whlN; rw [h]; rfl)
theorem whl_rt {f : S → Option (Fl S S R)} {s : S} {r : R} (h : f s = some (.rt r)) : whl f s = some (.rt r) := whl_of (n := 1) (by unfold whlN; rw [h]; rfl)
/-- comprehensions -/
def mapO (f : D → Option D) : List D → Option (List D)
  | [] => some []
  | d :: ds => (f d).bind fun y => (mapO f ds).bind fun ys => some (y :: ys)
def mapS (f : S → D → Option (D × S)) : List D → S → Option (List D × S)
  | [], s => some ([], s)
  | d :: ds, s => bp (f s d) fun y s => bp (mapS f ds s) fun ys s => some (y :: ys, s)
def filO (f : D → Option (Option D)) : List D → Option (List D)
  | [] => some []
  | d :: ds => (f d).bind fun y => (filO f ds).bind fun ys => some (y.toList ++ ys)
/-- iterators -/
def itSeq : D → Option (List D) := items
def rngB (i : Int) : Bool := decide (-(2 ^ 62) ≤ i) && decide (i < 2 ^ 62)
def itRng1 : D → Option (List D)
  | .int j => if rngB j then some (rngD 0 j.toNat) else none
  | _ => none
def itRng2 : D → D → Option (List D)
  | .int i, .int j => if rngB i && rngB j then some (rngD i (j - i).toNat) else none
  | _, _ => none
def itEnum (d : D) : Option (List D) := (items d).bind fun ds => some (enumD ds)
def itZip : D → D → Option (List D)
  | .tup x, .tup y => some (zipD x y)
  | .lst x, .lst y => some (zipD x y)
  | _, _ => none
def szB (ds : List D) : Option (List D) := if ds.length ≤ sizeLine then some ds else none
end
end Z
set_option Elab.async false
set_option linter.all false
set_option maxRecDepth 100000
set_option maxHeartbeats 4000000
/-! Printed by mkslots.py. -/
namespace Z
open PySem PySem.Spec PyProof.Rows L2
section
variable {c : Cz} {M : Mem} {k : D → Mem → Prop} {kg : Gm → Mem → Prop} {d : D} {r : Gm}
theorem zv0 (h : k d M) : ZE c (tVar 0) (some d :: r) M k := z_var rfl h
theorem zg0 {a : Option D} (h : kg (some d :: r) M) : ZG c (gName 0) d (a :: r) M kg := zg_name h
theorem zv1 {a0 : Option D} (h : k d M) : ZE c (tVar 1) (a0 :: some d :: r) M k := z_var rfl h
theorem zg1 {a0 : Option D} {a : Option D} (h : kg (a0 :: some d :: r) M) : ZG c (gName 1) d (a0 :: a :: r) M kg := zg_name h
theorem zv2 {a0 a1 : Option D} (h : k d M) : ZE c (tVar 2) (a0 :: a1 :: some d :: r) M k := z_var rfl h
theorem zg2 {a0 a1 : Option D} {a : Option D} (h : kg (a0 :: a1 :: some d :: r) M) : ZG c (gName 2) d (a0 :: a1 :: a :: r) M kg := zg_name h
theorem zv3 {a0 a1 a2 : Option D} (h : k d M) : ZE c (tVar 3) (a0 :: a1 :: a2 :: some d :: r) M k := z_var rfl h
theorem zg3 {a0 a1 a2 : Option D} {a : Option D} (h : kg (a0 :: a1 :: a2 :: some d :: r) M) : ZG c (gName 3) d (a0 :: a1 :: a2 :: a :: r) M kg := zg_name h
theorem zv4 {a0 a1 a2 a3 : Option D} (h : k d M) : ZE c (tVar 4) (a0 :: a1 :: a2 :: a3 :: some d :: r) M k := z_var rfl h
theorem zg4 {a0 a1 a2 a3 : Option D} {a : Option D} (h : kg (a0 :: a1 :: a2 :: a3 :: some d :: r) M) : ZG c (gName 4) d (a0 :: a1 :: a2 :: a3 :: a :: r) M kg := zg_name h
theorem zv5 {a0 a1 a2 a3 a4 : Option D} (h : k d M) : ZE c (tVar 5) (a0 :: a1 :: a2 :: a3 :: a4 :: some d :: r) M k := z_var rfl h
theorem zg5 {a0 a1 a2 a3 a4 : Option D} {a : Option D} (h : kg (a0 :: a1 :: a2 :: a3 :: a4 :: some d :: r) M) : ZG c (gName 5) d (a0 :: a1 :: a2 :: a3 :: a4 :: a :: r) M kg := zg_name h
theorem zv6 {a0 a1 a2 a3 a4 a5 : Option D} (h : k d M) : ZE c (tVar 6) (a0 :: a1 :: a2 :: a3 :: a4 :: a5 :: some d :: r) M k := z_var rfl h
theorem zg6 {a0 a1 a2 a3 a4 a5 : Option D} {a : Option D} (h : kg (a0 :: a1 :: a2 :: a3 :: a4 :: a5 :: some d :: r) M) : ZG c (gName 6) d (a0 :: a1 :: a2 :: a3 :: a4 :: a5 :: a :: r) M kg := zg_name h
theorem zv7 {a0 a1 a2 a3 a4 a5 a6 : Option D} (h : k d M) : ZE c (tVar 7) (a0 :: a1 :: a2 :: a3 :: a4 :: a5 :: a6 :: some d :: r) M k := z_var rfl h
theorem zg7 {a0 a1 a2 a3 a4 a5 a6 : Option D} {a : Option D} (h : kg (a0 :: a1 :: a2 :: a3 :: a4 :: a5 :: a6 :: some d :: r) M) : ZG c (gName 7) d (a0 :: a1 :: a2 :: a3 :: a4 :: a5 :: a6 :: a :: r) M kg := zg_name h
theorem zv8 {a0 a1 a2 a3 a4 a5 a6 a7 : Option D} (h : k d M) : ZE c (tVar 8) (a0 :: a1 :: a2 :: a3 :: a4 :: a5 :: a6 :: a7 :: some d :: r) M k := z_var rfl h
theorem zg8 {a0 a1 a2 a3 a4 a5 a6 a7 : Option D} {a : Option D} (h : kg (a0 :: a1 :: a2 :: a3 :: a4 :: a5 :: a6 :: a7 :: some d :: r) M) : ZG c (gName 8) d (a0 :: a1 :: a2 :: a3 :: a4 :: a5 :: a6 :: a7 :: a :: r) M kg := zg_name h
theorem zv9 {a0 a1 a2 a3 a4 a5 a6 a7 a8 : Option D} (h : k d M) : ZE c (tVar 9) (a0 :: a1 :: a2 :: a3 :: a4 :: a5 :: a6 :: a7 :: a8 :: some d :: r) M k := z_var rfl h
theorem zg9 {a0 a1 a2 a3 a4 a5 a6 a7 a8 : Option D} {a : Option D} (h : kg (a0 :: a1 :: a2 :: a3 :: a4 :: a5 :: a6 :: a7 :: a8 :: some d :: r) M) : ZG c (gName 9) d (a0 :: a1 :: a2 :: a3 :: a4 :: a5 :: a6 :: a7 :: a8 :: a :: r) M kg := zg_name h
theorem zv10 {a0 a1 a2 a3 a4 a5 a6 a7 a8 a9 : Option D} (h : k d M) : ZE c (tVar 10) (a0 :: a1 :: a2 :: a3 :: a4 :: a5 :: a6 :: a7 :: a8 :: a9 :: some d :: r) M k := z_var rfl h
theorem zg10 {a0 a1 a2 a3 a4 a5 a6 a7 a8 a9 : Option D} {a : Option D} (h : kg (a0 :: a1 :: a2 :: a3 :: a4 :: a5 :: a6 :: a7 :: a8 :: a9 :: some d :: r) M) : ZG c (gName 10) d (a0 :: a1 :: a2 :: a3 :: a4 :: a5 :: a6 :: a7 :: a8 :: a9 :: a :: r) M kg := zg_name h
theorem zv11 {a0 a1 a2 a3 a4 a5 a6 a7 a8 a9 a10 : Option D} (h : k d M) : ZE c (tVar 11) (a0 :: a1 :: a2 :: a3 :: a4 :: a5 :: a6 :: a7 :: a8 :: a9 :: a10 :: some d :: r) M k := z_var rfl h
theorem zg11 {a0 a1 a2 a3 a4 a5 a6 a7 a8 a9 a10 : Option D} {a : Option D} (h : kg (a0 :: a1 :: a2 :: a3 :: a4 :: a5 :: a6 :: a7 :: a8 :: a9 :: a10 :: some d :: r) M) : ZG c (gName 11) d (a0 :: a1 :: a2 :: a3 :: a4 :: a5 :: a6 :: a7 :: a8 :: a9 :: a10 :: a :: r) M kg := zg_name h
theorem zv12 {a0 a1 a2 a3 a4 a5 a6 a7 a8 a9 a10 a11 : Option D} (h : k d M) : ZE c (tVar 12) (a0 :: a1 :: a2 :: a3 :: a4 :: a5 :: a6 :: a7 :: a8 :: a9 :: a10 :: a11 :: some d :: r) M k := z_var rfl h
theorem zg12 {a0 a1 a2 a3 a4 a5 a6 a7 a8 a9 a10 a11 : Option D} {a : Option D} (h : kg (a0 :: a1 :: a2 :: a3 :: a4 :: a5 :: a6 :: a7 :: a8 :: a9 :: a10 :: a11 :: some d :: r) M) : ZG c (gName 12) d (a0 :: a1 :: a2 :: a3 :: a4 :: a5 :: a6 :: a7 :: a8 :: a9 :: a10 :: a11 :: a :: r) M kg := zg_name h
theorem zv13 {a0 a1 a2 a3 a4 a5 a6 a7 a8 a9 a10 a11 a12 : Option D} (h : k d M) : ZE c (tVar 13) (a0 :: a1 :: a2 :: a3 :: a4 :: a5 :: a6 :: a7 :: a8 :: a9 :: a10 :: a11 :: a12 :: some d :: r) M k := z_var rfl h
theorem zg13 {a0 a1 a2 a3 a4 a5 a6 a7 a8 a9 a10 a11 a12 : Option D} {a : Option D} (h : kg (a0 :: a1 :: a2 :: a3 :: a4 :: a5 :: a6 :: a7 :: a8 :: a9 :: a10 :: a11 :: a12 :: some d :: r) M) : ZG c (gName 13) d (a0 :: a1 :: a2 :: a3 :: a4 :: a5 :: a6 :: a7 :: a8 :: a9 :: a10 :: a11 :: a12 :: a :: r) M kg := zg_name h
theorem zv14 {a0 a1 a2 a3 a4 a5 a6 a7 a8 a9 a10 a11 a12 a13 : Option D} (h : k d M) : ZE c (tVar 14) (a0 :: a1 :: a2 :: a3 :: a4 :: a5 :: a6 :: a7 :: a8 :: a9 :: a10 :: a11 :: a12 :: a13 :: some d :: r) M k := z_var rfl h
theorem zg14 {a0 a1 a2 a3 a4 a5 a6 a7 a8 a9 a10 a11 a12 a13 : Option D} {a : Option D} (h : kg (a0 :: a1 :: a2 :: a3 :: a4 :: a5 :: a6 :: a7 :: a8 :: a9 :: a10 :: a11 :: a12 :: a13 :: some d :: r) M) : ZG c (gName 14) d (a0 :: a1 :: a2 :: a3 :: a4 :: a5 :: a6 :: a7 :: a8 :: a9 :: a10 :: a11 :: a12 :: a13 :: a :: r) M kg := zg_name h
theorem zv15 {a0 a1 a2 a3 a4 a5 a6 a7 a8 a9 a10 a11 a12 a13 a14 : Option D} (h : k d M) : ZE c (tVar 15) (a0 :: a1 :: a2 :: a3 :: a4 :: a5 :: a6 :: a7 :: a8 :: a9 :: a10 :: a11 :: a12 :: a13 :: a14 :: some d :: r) M k := z_var rfl h
theorem zg15 {a0 a1 a2 a3 a4 a5 a6 a7 a8 a9 a10 a11 a12 a13 a14 : Option D} {a : Option D} (h : kg (a0 :: a1 :: a2 :: a3 :: a4 :: a5 :: a6 :: a7 :: a8 :: a9 :: a10 :: a11 :: a12 :: a13 :: a14 :: some d :: r) M) : ZG c (gName 15) d (a0 :: a1 :: a2 :: a3 :: a4 :: a5 :: a6 :: a7 :: a8 :: a9 :: a10 :: a11 :: a12 :: a13 :: a14 :: a :: r) M kg := zg_name h
theorem zv16 {a0 a1 a2 a3 a4 a5 a6 a7 a8 a9 a10 a11 a12 a13 a14 a15 : Option D} (h : k d M) : ZE c (tVar 16) (a0 :: a1 :: a2 :: a3 :: a4 :: a5 :: a6 :: a7 :: a8 :: a9 :: a10 :: a11 :: a12 :: a13 :: a14 :: a15 :: some d :: r) M k := z_var rfl h
theorem zg16 {a0 a1 a2 a3 a4 a5 a6 a7 a8 a9 a10 a11 a12 a13 a14 a15 : Option D} {a : Option D} (h : kg (a0 :: a1 :: a2 :: a3 :: a4 :: a5 :: a6 :: a7 :: a8 :: a9 :: a10 :: a11 :: a12 :: a13 :: a14 :: a15 :: some d :: r) M) : ZG c (gName 16) d (a0 :: a1 :: a2 :: a3 :: a4 :: a5 :: a6 :: a7 :: a8 :: a9 :: a10 :: a11 :: a12 :: a13 :: a14 :: a15 :: a :: r) M kg := zg_name h
theorem zv17 {a0 a1 a2 a3 a4 a5 a6 a7 a8 a9 a10 a11 a12 a13 a14 a15 a16 : Option D} (h : k d M) : ZE c (tVar 17) (a0 :: a1 :: a2 :: a3 :: a4 :: a5 :: a6 :: a7 :: a8 :: a9 :: a10 :: a11 :: a12 :: a13 :: a14 :: a15 :: a16 :: some d :: r) M k := z_var rfl h
theorem zg17 {a0 a1 a2 a3 a4 a5 a6 a7 a8 a9 a10 a11 a12 a13 a14 a15 a16 : Option D} {a : Option D} (h : kg (a0 :: a1 :: a2 :: a3 :: a4 :: a5 :: a6 :: a7 :: a8 :: a9 :: a10 :: a11 :: a12 :: a13 :: a14 :: a15 :: a16 :: some d :: r) M) : ZG c (gName 17) d (a0 :: a1 :: a2 :: a3 :: a4 :: a5 :: a6 :: a7 :: a8 :: a9 :: a10 :: a11 :: a12 :: a13 :: a14 :: a15 :: a16 :: a :: r) M kg := zg_name h
theorem zv18 {a0 a1 a2 a3 a4 a5 a6 a7 a8 a9 a10 a11 a12 a13 a14 a15 a16 a17 : Option D} (h : k d M) : ZE c (tVar 18) (a0 :: a1 :: a2 :: a3 :: a4 :: a5 :: a6 :: a7 :: a8 :: a9 :: a10 :: a11 :: a12 :: a13 :: a14 :: a15 :: a16 :: a17 :: some d :: r) M k := z_var rfl h
theorem zg18 {a0 a1 a2 a3 a4 a5 a6 a7 a8 a9 a10 a11 a12 a13 a14 a15 a16 a17 : Option D} {a : Option D} (h : kg (a0 :: a1 :: a2 :: a3 :: a4 :: a5 :: a6 :: a7 :: a8 :: a9 :: a10 :: a11 :: a12 :: a13 :: a14 :: a15 :: a16 :: a17 :: some d :: r) M) : ZG c (gName 18) d (a0 :: a1 :: a2 :: a3 :: a4 :: a5 :: a6 :: a7 :: a8 :: a9 :: a10 :: a11 :: a12 :: a13 :: a14 :: a15 :: a16 :: a17 :: a :: r) M kg := zg_name h
theorem zv19 {a0 a1 a2 a3 a4 a5 a6 a7 a8 a9 a10 a11 a12 a13 a14 a15 a16 a17 a18 : Option D} (h : k d M) : ZE c (tVar 19) (a0 :: a1 :: a2 :: a3 :: a4 :: a5 :: a6 :: a7 :: a8 :: a9 :: a10 :: a11 :: a12 :: a13 :: a14 :: a15 :: a16 :: a17 :: a18 :: some d :: r) M k := z_var rfl h
theorem zg19 {a0 a1 a2 a3 a4 a5 a6 a7 a8 a9 a10 a11 a12 a13 a14 a15 a16 a17 a18 : Option D} {a : Option D} (h : kg (a0 :: a1 :: a2 :: a3 :: a4 :: a5 :: a6 :: a7 :: a8 :: a9 :: a10 :: a11 :: a12 :: a13 :: a14 :: a15 :: a16 :: a17 :: a18 :: some d :: r) M) : ZG c (gName 19) d (a0 :: a1 :: a2 :: a3 :: a4 :: a5 :: a6 :: a7 :: a8 :: a9 :: a10 :: a11 :: a12 :: a13 :: a14 :: a15 :: a16 :: a17 :: a18 :: a :: r) M kg := zg_name h
theorem zv20 {a0 a1 a2 a3 a4 a5 a6 a7 a8 a9 a10 a11 a12 a13 a14 a15 a16 a17 a18 a19 : Option D} (h : k d M) : ZE c (tVar 20) (a0 :: a1 :: a2 :: a3 :: a4 :: a5 :: a6 :: a7 :: a8 :: a9 :: a10 :: a11 :: a12 :: a13 :: a14 :: a15 :: a16 :: a17 :: a18 :: a19 :: some d :: r) M k := z_var rfl h
theorem zg20 {a0 a1 a2 a3 a4 a5 a6 a7 a8 a9 a10 a11 a12 a13 a14 a15 a16 a17 a18 a19 : Option D} {a : Option D} (h : kg (a0 :: a1 :: a2 :: a3 :: a4 :: a5 :: a6 :: a7 :: a8 :: a9 :: a10 :: a11 :: a12 :: a13 :: a14 :: a15 :: a16 :: a17 :: a18 :: a19 :: some d :: r) M) : ZG c (gName 20) d (a0 :: a1 :: a2 :: a3 :: a4 :: a5 :: a6 :: a7 :: a8 :: a9 :: a10 :: a11 :: a12 :: a13 :: a14 :: a15 :: a16 :: a17 :: a18 :: a19 :: a :: r) M kg := zg_name h
theorem zv21 {a0 a1 a2 a3 a4 a5 a6 a7 a8 a9 a10 a11 a12 a13 a14 a15 a16 a17 a18 a19 a20 : Option D} (h : k d M) : ZE c (tVar 21) (a0 :: a1 :: a2 :: a3 :: a4 :: a5 :: a6 :: a7 :: a8 :: a9 :: a10 :: a11 :: a12 :: a13 :: a14 :: a15 :: a16 :: a17 :: a18 :: a19 :: a20 :: some d :: r) M k := z_var rfl h
theorem zg21 {a0 a1 a2 a3 a4 a5 a6 a7 a8 a9 a10 a11 a12 a13 a14 a15 a16 a17 a18 a19 a20 : Option D} {a : Option D} (h : kg (a0 :: a1 :: a2 :: a3 :: a4 :: a5 :: a6 :: a7 :: a8 :: a9 :: a10 :: a11 :: a12 :: a13 :: a14 :: a15 :: a16 :: a17 :: a18 :: a19 :: a20 :: some d :: r) M) : ZG c (gName 21) d (a0 :: a1 :: a2 :: a3 :: a4 :: a5 :: a6 :: a7 :: a8 :: a9 :: a10 :: a11 :: a12 :: a13 :: a14 :: a15 :: a16 :: a17 :: a18 :: a19 :: a20 :: a :: r) M kg := zg_name h
theorem zv22 {a0 a1 a2 a3 a4 a5 a6 a7 a8 a9 a10 a11 a12 a13 a14 a15 a16 a17 a18 a19 a20 a21 : Option D} (h : k d M) : ZE c (tVar 22) (a0 :: a1 :: a2 :: a3 :: a4 :: a5 :: a6 :: a7 :: a8 :: a9 :: a10 :: a11 :: a12 :: a13 :: a14 :: a15 :: a16 :: a17 :: a18 :: a19 :: a20 :: a21 :: some d :: r) M k := z_var rfl h
theorem zg22 {a0 a1 a2 a3 a4 a5 a6 a7 a8 a9 a10 a11 a12 a13 a14 a15 a16 a17 a18 a19 a20 a21 : Option D} {a : Option D} (h : kg (a0 :: a1 :: a2 :: a3 :: a4 :: a5 :: a6 :: a7 :: a8 :: a9 :: a10 :: a11 :: a12 :: a13 :: a14 :: a15 :: a16 :: a17 :: a18 :: a19 :: a20 :: a21 :: some d :: r) M) : ZG c (gName 22) d (a0 :: a1 :: a2 :: a3 :: a4 :: a5 :: a6 :: a7 :: a8 :: a9 :: a10 :: a11 :: a12 :: a13 :: a14 :: a15 :: a16 :: a17 :: a18 :: a19 :: a20 :: a21 :: a :: r) M kg := zg_name h
theorem zv23 {a0 a1 a2 a3 a4 a5 a6 a7 a8 a9 a10 a11 a12 a13 a14 a15 a16 a17 a18 a19 a20 a21 a22 : Option D} (h : k d M) : ZE c (tVar 23) (a0 :: a1 :: a2 :: a3 :: a4 :: a5 :: a6 :: a7 :: a8 :: a9 :: a10 :: a11 :: a12 :: a13 :: a14 :: a15 :: a16 :: a17 :: a18 :: a19 :: a20 :: a21 :: a22 :: some d :: r) M k := z_var rfl h
theorem zg23 {a0 a1 a2 a3 a4 a5 a6 a7 a8 a9 a10 a11 a12 a13 a14 a15 a16 a17 a18 a19 a20 a21 a22 : Option D} {a : Option D} (h : kg (a0 :: a1 :: a2 :: a3 :: a4 :: a5 :: a6 :: a7 :: a8 :: a9 :: a10 :: a11 :: a12 :: a13 :: a14 :: a15 :: a16 :: a17 :: a18 :: a19 :: a20 :: a21 :: a22 :: some d :: r) M) : ZG c (gName 23) d (a0 :: a1 :: a2 :: a3 :: a4 :: a5 :: a6 :: a7 :: a8 :: a9 :: a10 :: a11 :: a12 :: a13 :: a14 :: a15 :: a16 :: a17 :: a18 :: a19 :: a20 :: a21 :: a22 :: a :: r) M kg := zg_name h
theorem zv24 {a0 a1 a2 a3 a4 a5 a6 a7 a8 a9 a10 a11 a12 a13 a14 a15 a16 a17 a18 a19 a20 a21 a22 a23 : Option D} (h : k d M) : ZE c (tVar 24) (a0 :: a1 :: a2 :: a3 :: a4 :: a5 :: a6 :: a7 :: a8 :: a9 :: a10 :: a11 :: a12 :: a13 :: a14 :: a15 :: a16 :: a17 :: a18 :: a19 :: a20 :: a21 :: a22 :: a23 :: some d :: r) M k := z_var rfl h
theorem zg24 {a0 a1 a2 a3 a4 a5 a6 a7 a8 a9 a10 a11 a12 a13 a14 a15 a16 a17 a18 a19 a20 a21 a22 a23 : Option D} {a : Option D} (h : kg (a0 :: a1 :: a2 :: a3 :: a4 :: a5 :: a6 :: a7 :: a8 :: a9 :: a10 :: a11 :: a12 :: a13 :: a14 :: a15 :: a16 :: a17 :: a18 :: a19 :: a20 :: a21 :: a22 :: a23 :: some d :: r) M) : ZG c (gName 24) d (a0 :: a1 :: a2 :: a3 :: a4 :: a5 :: a6 :: a7 :: a8 :: a9 :: a10 :: a11 :: a12 :: a13 :: a14 :: a15 :: a16 :: a17 :: a18 :: a19 :: a20 :: a21 :: a22 :: a23 :: a :: r) M kg := zg_name h
theorem zv25 {a0 a1 a2 a3 a4 a5 a6 a7 a8 a9 a10 a11 a12 a13 a14 a15 a16 a17 a18 a19 a20 a21 a22 a23 a24 : Option D} (h : k d M) : ZE c (tVar 25) (a0 :: a1 :: a2 :: a3 :: a4 :: a5 :: a6 :: a7 :: a8 :: a9 :: a10 :: a11 :: a12 :: a13 :: a14 :: a15 :: a16 :: a17 :: a18 :: a19 :: a20 :: a21 :: a22 :: a23 :: a24 :: some d :: r) M k := z_var rfl h
theorem zg25 {a0 a1 a2 a3 a4 a5 a6 a7 a8 a9 a10 a11 a12 a13 a14 a15 a16 a17 a18 a19 a20 a21 a22 a23 a24 : Option D} {a : Option D} (h : kg (a0 :: a1 :: a2 :: a3 :: a4 :: a5 :: a6 :: a7 :: a8 :: a9 :: a10 :: a11 :: a12 :: a13 :: a14 :: a15 :: a16 :: a17 :: a18 :: a19 :: a20 :: a21 :: a22 :: a23 :: a24 :: some d :: r) M) : ZG c (gName 25) d (a0 :: a1 :: a2 :: a3 :: a4 :: a5 :: a6 :: a7 :: a8 :: a9 :: a10 :: a11 :: a12 :: a13 :: a14 :: a15 :: a16 :: a17 :: a18 :: a19 :: a20 :: a21 :: a22 :: a23 :: a24 :: a :: r) M kg := zg_name h
theorem zv26 {a0 a1 a2 a3 a4 a5 a6 a7 a8 a9 a10 a11 a12 a13 a14 a15 a16 a17 a18 a19 a20 a21 a22 a23 a24 a25 : Option D} (h : k d M) : ZE c (tVar 26) (a0 :: a1 :: a2 :: a3 :: a4 :: a5 :: a6 :: a7 :: a8 :: a9 :: a10 :: a11 :: a12 :: a13 :: a14 :: a15 :: a16 :: a17 :: a18 :: a19 :: a20 :: a21 :: a22 :: a23 :: a24 :: a25 :: some d :: r) M k := z_var rfl h
theorem zg26 {a0 a1 a2 a3 a4 a5 a6 a7 a8 a9 a10 a11 a12 a13 a14 a15 a16 a17 a18 a19 a20 a21 a22 a23 a24 a25 : Option D} {a : Option D} (h : kg (a0 :: a1 :: a2 :: a3 :: a4 :: a5 :: a6 :: a7 :: a8 :: a9 :: a10 :: a11 :: a12 :: a13 :: a14 :: a15 :: a16 :: a17 :: a18 :: a19 :: a20 :: a21 :: a22 :: a23 :: a24 :: a25 :: some d :: r) M) : ZG c (gName 26) d (a0 :: a1 :: a2 :: a3 :: a4 :: a5 :: a6 :: a7 :: a8 :: a9 :: a10 :: a11 :: a12 :: a13 :: a14 :: a15 :: a16 :: a17 :: a18 :: a19 :: a20 :: a21 :: a22 :: a23 :: a24 :: a25 :: a :: r) M kg := zg_name h
theorem zv27 {a0 a1 a2 a3 a4 a5 a6 a7 a8 a9 a10 a11 a12 a13 a14 a15 a16 a17 a18 a19 a20 a21 a22 a23 a24 a25 a26 : Option D} (h : k d M) : ZE c (tVar 27) (a0 :: a1 :: a2 :: a3 :: a4 :: a5 :: a6 :: a7 :: a8 :: a9 :: a10 :: a11 :: a12 :: a13 :: a14 :: a15 :: a16 :: a17 :: a18 :: a19 :: a20 :: a21 :: a22 :: a23 :: a24 :: a25 :: a26 :: some d :: r) M k := z_var rfl h
theorem zg27 {a0 a1 a2 a3 a4 a5 a6 a7 a8 a9 a10 a11 a12 a13 a14 a15 a16 a17 a18 a19 a20 a21 a22 a23 a24 a25 a26 : Option D} {a : Option D} (h : kg (a0 :: a1 :: a2 :: a3 :: a4 :: a5 :: a6 :: a7 :: a8 :: a9 :: a10 :: a11 :: a12 :: a13 :: a14 :: a15 :: a16 :: a17 :: a18 :: a19 :: a20 :: a21 :: a22 :: a23 :: a24 :: a25 :: a26 :: some d :: r) M) : ZG c (gName 27) d (a0 :: a1 :: a2 :: a3 :: a4 :: a5 :: a6 :: a7 :: a8 :: a9 :: a10 :: a11 :: a12 :: a13 :: a14 :: a15 :: a16 :: a17 :: a18 :: a19 :: a20 :: a21 :: a22 :: a23 :: a24 :: a25 :: a26 :: a :: r) M kg := zg_name h
theorem zv28 {a0 a1 a2 a3 a4 a5 a6 a7 a8 a9 a10 a11 a12 a13 a14 a15 a16 a17 a18 a19 a20 a21 a22 a23 a24 a25 a26 a27 : Option D} (h : k d M) : ZE c (tVar 28) (a0 :: a1 :: a2 :: a3 :: a4 :: a5 :: a6 :: a7 :: a8 :: a9 :: a10 :: a11 :: a12 :: a13 :: a14 :: a15 :: a16 :: a17 :: a18 :: a19 :: a20 :: a21 :: a22 :: a23 :: a24 :: a25 :: a26 :: a27 :: some d :: r) M k := z_var rfl h
theorem zg28 {a0 a1 a2 a3 a4 a5 a6 a7 a8 a9 a10 a11 a12 a13 a14 a15 a16 a17 a18 a19 a20 a21 a22 a23 a24 a25 a26 a27 : Option D} {a : Option D} (h : kg (a0 :: a1 :: a2 :: a3 :: a4 :: a5 :: a6 :: a7 :: a8 :: a9 :: a10 :: a11 :: a12 :: a13 :: a14 :: a15 :: a16 :: a17 :: a18 :: a19 :: a20 :: a21 :: a22 :: a23 :: a24 :: a25 :: a26 :: a27 :: some d :: r) M) : ZG c (gName 28) d (a0 :: a1 :: a2 :: a3 :: a4 :: a5 :: a6 :: a7 :: a8 :: a9 :: a10 :: a11 :: a12 :: a13 :: a14 :: a15 :: a16 :: a17 :: a18 :: a19 :: a20 :: a21 :: a22 :: a23 :: a24 :: a25 :: a26 :: a27 :: a :: r) M kg := zg_name h
theorem zv29 {a0 a1 a2 a3 a4 a5 a6 a7 a8 a9 a10 a11 a12 a13 a14 a15 a16 a17 a18 a19 a20 a21 a22 a23 a24 a25 a26 a27 a28 : Option D} (h : k d M) : ZE c (tVar 29) (a0 :: a1 :: a2 :: a3 :: a4 :: a5 :: a6 :: a7 :: a8 :: a9 :: a10 :: a11 :: a12 :: a13 :: a14 :: a15 :: a16 :: a17 :: a18 :: a19 :: a20 :: a21 :: a22 :: a23 :: a24 :: a25 :: a26 :: a27 :: a28 :: some d :: r) M k := z_var rfl h
theorem zg29 {a0 a1 a2 a3 a4 a5 a6 a7 a8 a9 a10 a11 a12 a13 a14 a15 a16 a17 a18 a19 a20 a21 a22 a23 a24 a25 a26 a27 a28 : Option D} {a : Option D} (h : kg (a0 :: a1 :: a2 :: a3 :: a4 :: a5 :: a6 :: a7 :: a8 :: a9 :: a10 :: a11 :: a12 :: a13 :: a14 :: a15 :: a16 :: a17 :: a18 :: a19 :: a20 :: a21 :: a22 :: a23 :: a24 :: a25 :: a26 :: a27 :: a28 :: some d :: r) M) : ZG c (gName 29) d (a0 :: a1 :: a2 :: a3 :: a4 :: a5 :: a6 :: a7 :: a8 :: a9 :: a10 :: a11 :: a12 :: a13 :: a14 :: a15 :: a16 :: a17 :: a18 :: a19 :: a20 :: a21 :: a22 :: a23 :: a24 :: a25 :: a26 :: a27 :: a28 :: a :: r) M kg := zg_name h
end
end Z
set_option Elab.async false
set_option linter.all false
set_option maxRecDepth 100000
set_option maxHeartbeats 4000000
/-! YBase: the walk against a mirror: h says that the mirror's rest gives out. -/
namespace Z
open PySem PySem.Spec PyProof.Rows L2
/-! ### peeling -/
theorem ob {α β : Type} {m : Option α} {f : α → Option β} {o : β} {P : Prop} (h : m.bind f = some o) (k : ∀ v, m = some v → f v = some o → P) : P := by
  obtain ⟨v, h1, h2⟩ := Option.bind_eq_some_iff.mp h
  exact k v h1 h2
theorem obp {α β γ : Type} {m : Option (α × β)} {f : α → β → Option γ} {o : γ} {P : Prop} (h : bp m f = some o) (k : ∀ a b, m = some (a, b) → f a b = some o → P) : P := by
  unfold bp at h
  obtain ⟨⟨a, b⟩, h1, h2⟩ := Option.bind_eq_some_iff.mp h
  exact k a b h1 h2
theorem obp3 {α β δ γ : Type} {m : Option (α × β × δ)} {f : α → β × δ → Option γ} {o : γ} {P : Prop} (h : bp m f = some o) (k : ∀ a b c, m = some (a, b, c) → f a (b, c) = some o → P) : P := by
  unfold bp at h
  obtain ⟨⟨a, b, c⟩, h1, h2⟩ := Option.bind_eq_some_iff.mp h
  exact k a b c h1 h2
theorem ifT {α : Type} {b : Bool} {x y : α} {o : α} (hb : b = true) (h : (if b = true then x else y) = o) : x = o := by rw [if_pos hb] at h; exact h
theorem ifF {α : Type} {b : Bool} {x y : α} {o : α} (hb : b = false) (h : (if b = true then x else y) = o) : y = o := by rw [hb] at h; exact h
theorem nT {b : Bool} (h : (!b) = true) : b = false := by cases b <;> simp_all
theorem nF {b : Bool} (h : (!b) = false) : b = true := by cases b <;> simp_all
/-! ### what a slot's datum stands for -/
inductive View (M : Mem) : D → D → Prop
  | eq {d : D} : View M d d
  | «at» {a : Addr} {ds : List D} (i : Nat) (h : M[i]? = some (a, .lst ds)) : View M (.at a) (.lst ds)
section
variable {M : Mem} {dx x dy y : D} {ds : List D}
theorem View.int {i : Int} (v : View M dx (.int i)) : dx = .int i := by cases v; rfl
theorem View.bl {i : Bool} (v : View M dx (.bl i)) : dx = .bl i := by cases v; rfl
theorem View.str {i : Str} (v : View M dx (.str i)) : dx = .str i := by cases v; rfl
theorem View.tup {i : List D} (v : View M dx (.tup i)) : dx = .tup i := by cases v; rfl
theorem View.scr {i : List D} (v : View M dx (.scr i)) : dx = .scr i := by cases v; rfl
theorem View.lstSt (v : View M dx (.lst ds)) : St M dx ds := by
  cases v with
  | eq => exact .lst
  | «at» i h => exact .at i h
theorem View.sq (v : View M dx x) (h : items x = some ds) : Sq M dx ds := by
  cases v with
  | eq =>
    cases dx <;> cases h
    · exact .tup
    · exact .lst
    · exact .scr
  | «at» i h2 => cases h; exact .at i h2
theorem View.sl (v : View M dx x) (h : itemsL x = some ds) : Sl M dx ds := by
  cases v with
  | eq =>
    cases dx <;> cases h
    · exact .lst
    · exact .scr
  | «at» i h2 => cases h; exact .at i h2
theorem View.non (v : View M dx x) : isNon dx = isNon x := by
  cases v <;> rfl
end
variable {c : Cz}
section
variable {M : Mem} {k : D → Mem → Prop} {dx x dy y z : D} {ds : List D} {b : Bool} {lo hi : Option Int}
/-! ### operators -/
theorem y_add (vx : View M dx x) (vy : View M dy y) (h : dAdd x y = some z) (hk : k z M) : ZR c (rAddZ c.K) dx dy M k := by
  unfold dAdd at h
  split at h
  · rw [vx.int, vy.int]; cases h; exact zr_addI hk
  · obtain ⟨h1, rfl⟩ := gd_some h
    rw [vx.tup, vy.tup]; exact zr_addT (of_decide_eq_true h1) hk
  · obtain ⟨h1, rfl⟩ := gd_some h
    exact zr_addL vx.lstSt vy.lstSt (of_decide_eq_true h1) hk
  · obtain ⟨h1, rfl⟩ := gd_some h
    rw [vx.str, vy.str]; exact zr_addS (of_decide_eq_true h1) hk
  · cases h
theorem y_sub (vx : View M dx x) (vy : View M dy y) (h : dSub x y = some z) (hk : k z M) : ZR c rSubZ dx dy M k := by
  unfold dSub at h
  split at h
  · rw [vx.int, vy.int]; cases h; exact zr_sub hk
  · cases h
theorem y_mul (vx : View M dx x) (vy : View M dy y) (h : dMul x y = some z) (hk : k z M) : ZR c rMulZ dx dy M k := by
  unfold dMul at h
  split at h
  · obtain ⟨h1, rfl⟩ := gd_some h
    rw [vx.int, vy.int]; exact zr_mulI (mulB_ok h1) hk
  · obtain ⟨h1, rfl⟩ := gd_some h
    unfold repB at h1
    rw [Bool.and_eq_true, Bool.and_eq_true] at h1
    rw [vy.int]; exact zr_repL vx.lstSt (of_decide_eq_true h1.1.1) (of_decide_eq_true h1.1.2) (of_decide_eq_true h1.2) hk
  · cases h
theorem y_mod (vx : View M dx x) (vy : View M dy y) (h : dMod x y = some z) (hk : k z M) : ZR c rModZ dx dy M k := by
  unfold dMod at h
  split at h
  · obtain ⟨h1, rfl⟩ := gd_some h
    rw [vx.int, vy.int]; exact zr_mod (of_decide_eq_true h1) hk
  · cases h
theorem y_div (vx : View M dx x) (vy : View M dy y) (h : dDiv x y = some z) (hk : k z M) : ZR c rDivZ dx dy M k := by
  unfold dDiv at h
  split at h
  · obtain ⟨h1, rfl⟩ := gd_some h
    rw [vx.int, vy.int]; exact zr_div (divB_ok h1) hk
  · cases h
theorem y_pow (vx : View M dx x) (vy : View M dy y) (h : dPow x y = some z) (hk : k z M) : ZR c rPowZ dx dy M k := by
  unfold dPow at h
  split at h
  · obtain ⟨h1, rfl⟩ := gd_some h
    rw [vx.int, vy.int]; exact zr_pow (powB_ok h1) hk
  · cases h
theorem y_neg (vx : View M dx x) (h : dNeg x = some z) (hk : k z M) : ZU c uNegZ dx M k := by
  unfold dNeg at h
  split at h
  · rw [vx.int]; cases h; exact zu_neg hk
  · cases h
theorem y_lt (vx : View M dx x) (vy : View M dy y) (h : bLt x y = some b) (hk : k (.bl b) M) : ZR c rLtZ dx dy M k := by
  unfold bLt at h
  split at h
  · rw [vx.int, vy.int]; cases h; exact zr_lt hk
  · cases h
theorem y_le (vx : View M dx x) (vy : View M dy y) (h : bLe x y = some b) (hk : k (.bl b) M) : ZR c rLeZ dx dy M k := by
  unfold bLe at h
  split at h
  · rw [vx.int, vy.int]; cases h; exact zr_le hk
  · cases h
theorem y_gt (vx : View M dx x) (vy : View M dy y) (h : bGt x y = some b) (hk : k (.bl b) M) : ZR c rGtZ dx dy M k := by
  unfold bGt at h
  split at h
  · rw [vx.int, vy.int]; cases h; exact zr_gt hk
  · cases h
theorem y_ge (vx : View M dx x) (vy : View M dy y) (h : bGe x y = some b) (hk : k (.bl b) M) : ZR c rGeZ dx dy M k := by
  unfold bGe at h
  split at h
  · rw [vx.int, vy.int]; cases h; exact zr_ge hk
  · cases h
theorem View.pd {p : PyData} (v : View M dx x) (h : toPy x = some p) : Pd M dx p := by
  cases v with
  | eq => exact toPy_pd _ p h
  | «at» i hi =>
    unfold toPy at h
    obtain ⟨q, hq, rfl⟩ := Option.map_eq_some_iff.mp h
    exact .at hi (toPys_pd _ q hq)
theorem eqP_ok (vx : View M dx x) (vy : View M dy y) (h : bEqP x y = some b) : ∃ p q, Pd M dx p ∧ Pd M dy q ∧ SeqAt.shaped p = true ∧ SeqAt.shaped q = true ∧ b = PyData.eqv p q := by
  unfold bEqP at h
  obtain ⟨p, h1, h⟩ := Option.bind_eq_some_iff.mp h
  obtain ⟨q, h2, h⟩ := Option.bind_eq_some_iff.mp h
  split at h
  · rename_i hs
    rw [Bool.and_eq_true] at hs
    cases h
    exact ⟨p, q, vx.pd h1, vy.pd h2, hs.1, hs.2, rfl⟩
  · cases h
theorem y_eq (vx : View M dx x) (vy : View M dy y) (h : bEq x y = some b) (hk : k (.bl b) M) : ZR c (rEqZ c.K) dx dy M k := by
  unfold bEq at h
  split at h
  · rw [vx.int, vy.int]; cases h; exact zr_eqI hk
  · rw [vx.bl, vy.bl]; cases h; exact zr_eqB hk
  · rw [vx.str, vy.str]; cases h; exact zr_eqS hk
  all_goals
    obtain ⟨p, q, h1, h2, h3, h4, rfl⟩ := eqP_ok vx vy h
    exact zr_eqD h1 h2 h3 h4 hk
theorem y_ne (vx : View M dx x) (vy : View M dy y) (h : bNe x y = some b) (hk : k (.bl b) M) : ZR c (rNeZ c.K) dx dy M k := by
  unfold bNe at h
  obtain ⟨b', h', rfl⟩ := Option.map_eq_some_iff.mp h
  clear h
  unfold bEq at h'
  split at h'
  · rw [vx.int, vy.int]; cases h'; exact zr_neI hk
  · rw [vx.bl, vy.bl]; cases h'; exact zr_neB hk
  · rw [vx.str, vy.str]; cases h'; exact zr_neS hk
  all_goals
    obtain ⟨p, q, h1, h2, h3, h4, rfl⟩ := eqP_ok vx vy h'
    exact zr_neD h1 h2 h3 h4 hk
theorem y_isN (vx : View M dx x) (hk : k (.bl (isNon x)) M) : ZR c rIsNZ dx .non M k := zr_isN (by rw [vx.non]; exact hk)
theorem y_notN (vx : View M dx x) (hk : k (.bl (!isNon x)) M) : ZR c rNotNZ dx .non M k := zr_notN (by rw [vx.non]; exact hk)
theorem y_in (vx : View M dx x) (vy : View M dy y) (h : bIn x y = some b) (hk : k (.bl b) M) : ZR c (rInZ c.K) dx dy M k := by
  unfold bIn at h
  split at h
  · obtain ⟨ds, h1, h⟩ := Option.bind_eq_some_iff.mp h
    obtain ⟨ns, h2, h⟩ := Option.bind_eq_some_iff.mp h
    cases h
    rw [vx.int]
    exact zr_inI (by rw [← asInts_eq h2]; exact vy.sq h1) hk
  · cases h
theorem y_notIn (vx : View M dx x) (vy : View M dy y) (h : bIn x y = some b) (hk : k (.bl (!b)) M) : ZR c (rNotInZ c.K) dx dy M k := by
  unfold bIn at h
  split at h
  · obtain ⟨ds, h1, h⟩ := Option.bind_eq_some_iff.mp h
    obtain ⟨ns, h2, h⟩ := Option.bind_eq_some_iff.mp h
    cases h
    rw [vx.int]
    exact zr_notInI (by rw [← asInts_eq h2]; exact vy.sq h1) hk
  · cases h
theorem y_ix (vx : View M dx x) (vy : View M dy y) (h : dIx x y = some z) (hk : k z M) : ZR c (rIxZ c.K) dx dy M k := by
  unfold dIx at h
  split at h
  · rw [vy.int]; exact zr_ix (vx.sq rfl) h hk
  · rw [vy.int]; exact zr_ix (vx.sq rfl) h hk
  · rw [vy.int]; exact zr_ix (vx.sq rfl) h hk
  · rw [vx.str, vy.int]
    split at h
    · rename_i hz
      obtain ⟨n, hn, rfl⟩ := Option.map_eq_some_iff.mp h
      exact zr_ixS hz hn hk
    · cases h
  · cases h
theorem y_slice (vx : View M dx x) (h : dSlice x lo hi = some z) (hk : k z M) : ZSl c (rSlZ c.K) dx lo hi M k := by
  unfold dSlice at h
  split at h
  · rw [vx.tup]; cases h; exact zl_tup hk
  · cases h; exact zl_list (vx.sl rfl) hk
  · cases h; exact zl_list (vx.sl rfl) hk
  · obtain ⟨h1, rfl⟩ := gd_some h
    rw [vx.str]; exact zl_str (of_decide_eq_true h1) hk
  · cases h
theorem zo_some' {te : TE} {Γ : Gm} {k : Option Int → Mem → Prop} (h : ZE c te Γ M fun d M1 => ∃ o, dPart d = some o ∧ k o M1) : ZO c (tPart te) Γ M k := zo_some (h.imp fun d M1 ⟨o, h1, h2⟩ => by
  unfold dPart at h1
  split at h1
  · cases h1; exact ⟨_, rfl, h2⟩
  · cases h1)
theorem y_truD (vx : View M dx x) (h : bTru x = some b) : TruD M dx b := by
  unfold bTru at h
  split at h <;> cases h
  · cases vx; exact .non
  · rw [vx.bl]; exact .bl _
  · rw [vx.int]; exact .int _
  · exact .sq (vx.sq rfl)
  · exact .sq (vx.sq rfl)
  · exact .sq (vx.sq rfl)
theorem dBl_some (h : dBl x = some b) : x = .bl b := by
  unfold dBl at h
  split at h
  · cases h; rfl
  · cases h
/-! ### built-ins -/
theorem y_len (vx : View M dx x) (h : dLen x = some z) (hk : k z M) : ZC c (rLenZ c.K) [dx] M k := by
  unfold dLen at h
  split at h
  · cases h; exact zc_len (vx.sq rfl) hk
  · cases h; exact zc_len (vx.sq rfl) hk
  · cases h; exact zc_len (vx.sq rfl) hk
  · obtain ⟨h1, rfl⟩ := gd_some h
    rw [vx.str]; exact zc_lenS (of_decide_eq_true h1) hk
  · cases h
theorem y_abs (h : dAbs x = some z) (hk : k z M) : ZC c rAbsZ [x] M k := by
  unfold dAbs at h
  split at h
  · cases h; exact zc_abs hk
  · cases h
theorem y_max2 (h : dMax2 x y = some z) (hk : k z M) : ZC c rMax2Z [x, y] M k := by
  unfold dMax2 at h
  split at h
  · cases h; exact zc_max2 hk
  · cases h
theorem y_min2 (h : dMin2 x y = some z) (hk : k z M) : ZC c rMin2Z [x, y] M k := by
  unfold dMin2 at h
  split at h
  · cases h; exact zc_min2 hk
  · cases h
theorem y_gcd (h : dGcd x y = some z) (hk : k z M) : ZC c rGcdZ [x, y] M k := by
  unfold dGcd at h
  split at h
  · cases h; exact zc_gcd hk
  · cases h
theorem y_lcm (h : dLcm x y = some z) (hk : k z M) : ZC c rLcmZ [x, y] M k := by
  unfold dLcm at h
  split at h
  · obtain ⟨h1, rfl⟩ := gd_some h
    unfold lcmB at h1
    rw [Bool.and_eq_true, Bool.and_eq_true] at h1
    exact zc_lcm (of_decide_eq_true h1.1.1) (of_decide_eq_true h1.1.2) (of_decide_eq_true h1.2) hk
  · cases h
theorem y_int (h : dInt x = some z) (hk : k z M) : ZC c rIntZ [x] M k := by
  unfold dInt at h
  split at h
  · cases h; exact zc_int hk
  · cases h; exact zc_intB hk
  · cases h
theorem y_sum (vx : View M dx x) (h : dSum x = some z) (hk : k z M) : ZC c (rSumZ c.K) [dx] M k := by
  unfold dSum at h
  obtain ⟨ds, h1, h⟩ := Option.bind_eq_some_iff.mp h
  obtain ⟨ns, h2, h⟩ := Option.bind_eq_some_iff.mp h
  cases h
  exact zc_sum (by rw [← asInts_eq h2]; exact vx.sl h1) hk
theorem y_all (vx : View M dx x) (h : dAll x = some z) (hk : k z M) : ZC c (rAllZ c.K) [dx] M k := by
  unfold dAll at h
  obtain ⟨ds, h1, h⟩ := Option.bind_eq_some_iff.mp h
  obtain ⟨ns, h2, h⟩ := Option.bind_eq_some_iff.mp h
  cases h
  exact zc_all (by rw [← asBls_eq h2]; exact vx.sl h1) hk
theorem y_any (vx : View M dx x) (h : dAny x = some z) (hk : k z M) : ZC c (rAnyZ c.K) [dx] M k := by
  unfold dAny at h
  obtain ⟨ds, h1, h⟩ := Option.bind_eq_some_iff.mp h
  obtain ⟨ns, h2, h⟩ := Option.bind_eq_some_iff.mp h
  cases h
  exact zc_any (by rw [← asBls_eq h2]; exact vx.sl h1) hk
theorem y_list (vx : View M dx x) (h : dList x = some z) (hk : k z M) : ZC c (rListZ c.K) [dx] M k := by
  unfold dList at h
  obtain ⟨ds, h1, h⟩ := Option.bind_eq_some_iff.mp h
  cases h
  exact zc_list (vx.sq h1) hk
theorem y_tuple (vx : View M dx x) (h : dTuple x = some z) (hk : k z M) : ZC c (rTupZ c.K) [dx] M k := by
  unfold dTuple at h
  obtain ⟨ds, h1, h⟩ := Option.bind_eq_some_iff.mp h
  cases h
  cases vx with
  | eq =>
    cases dx <;> cases h1
    · exact zc_tupleT hk
    · exact zc_tuple .lst hk
    · exact zc_tuple .scr hk
  | «at» i hi => cases h1; exact zc_tuple (.at i hi) hk
theorem y_isi {u : String} (vx : View M dx x) (h : bIsi x u = some b) (hk : k (.bl b) M) : ZC c (rIsiZ c.K) [dx, .ty u] M k := by
  unfold bIsi at h
  obtain ⟨t, h1, h⟩ := Option.bind_eq_some_iff.mp h
  have hk2 := isi_ok (tyD_mem h1) h
  cases vx with
  | eq => exact zc_isi h1 hk2 hk
  | «at» i hi => cases h1; exact zc_isiAt hi hk2 hk
end
/-! ### unpacking, iterators -/
section
variable {Γ : Gm} {M : Mem} {kg : Gm → Mem → Prop} {d a b e : D}
theorem zg_un2 {g1 g2 : TG} (h : un2 d = some (a, b)) (hk : ZG c g1 a Γ M fun Γ1 M1 => ZG c g2 b Γ1 M1 kg) : ZG c (gTup c.K 2 (gCons g1 (gCons g2 gNil))) d Γ M kg := by
  rw [un2_some h]
  exact zg_tup rfl (zgs_cons (fun R F σ H v Q hs L X r q => hk R F σ H v Q hs L X r fun σ' F' H' M' Γ' ee L' hs' h' => q σ' F' H' M' Γ' ee L' hs' (zgs_cons (fun R F σ H v Q hs L X r q => h' R F σ H v Q hs L X r fun σ' F' H' M' Γ' ee L' hs' h' => q σ' F' H' M' Γ' ee L' hs' (zgs_nil h')))))
theorem zg_un3 {g1 g2 g3 : TG} (h : un3 d = some (a, b, e)) (hk : ZG c g1 a Γ M fun Γ1 M1 => ZG c g2 b Γ1 M1 fun Γ2 M2 => ZG c g3 e Γ2 M2 kg) : ZG c (gTup c.K 3 (gCons g1 (gCons g2 (gCons g3 gNil)))) d Γ M kg := by
  rw [un3_some h]
  exact zg_tup rfl (zgs_cons (fun R F σ H v Q hs L X r q => hk R F σ H v Q hs L X r fun σ' F' H' M' Γ' ee L' hs' h' => q σ' F' H' M' Γ' ee L' hs' (zgs_cons (fun R F σ H v Q hs L X r q => h' R F σ H v Q hs L X r fun σ' F' H' M' Γ' ee L' hs' h' => q σ' F' H' M' Γ' ee L' hs' (zgs_cons (fun R F σ H v Q hs L X r q => h' R F σ H v Q hs L X r fun σ' F' H' M' Γ' ee L' hs' h' => q σ' F' H' M' Γ' ee L' hs' (zgs_nil h')))))))
variable {kk : List D → Mem → Prop} {ds : List D}
theorem y_sf (h : itSeq d = some ds) : Sf d ds := by
  unfold itSeq at h
  cases d <;> cases h
  · exact .tup
  · exact .lst
  · exact .scr
theorem rngB_ok {i : Int} (h : rngB i = true) : -(2 ^ 62) ≤ i ∧ i < 2 ^ 62 := by
  unfold rngB at h
  rw [Bool.and_eq_true] at h
  exact ⟨of_decide_eq_true h.1, of_decide_eq_true h.2⟩
theorem zi_rng1' {ta : TA} (h : ZA c ta Γ M fun xs M1 => ∃ d ds, xs = [d] ∧ itRng1 d = some ds ∧ kk ds M1) : ZI c (iRng1 ta) Γ M kk := zi_rng1 (h.imp fun xs M1 ⟨d, ds, e, h1, h2⟩ => by
  subst e
  unfold itRng1 at h1
  split at h1
  · split at h1
    · rename_i hr
      cases h1
      obtain ⟨h3, h4⟩ := rngB_ok hr
      exact ⟨_, rfl, h3, h4, h2⟩
    · cases h1
  · cases h1)
theorem zi_rng2' {ta : TA} (h : ZA c ta Γ M fun xs M1 => ∃ d e ds, xs = [d, e] ∧ itRng2 d e = some ds ∧ kk ds M1) : ZI c (iRng2 ta) Γ M kk := zi_rng2 (h.imp fun xs M1 ⟨d, d', ds, e, h1, h2⟩ => by
  subst e
  unfold itRng2 at h1
  split at h1
  · split at h1
    · rename_i hr
      rw [Bool.and_eq_true] at hr
      cases h1
      exact ⟨_, _, rfl, ⟨(rngB_ok hr.1).1, (rngB_ok hr.1).2, (rngB_ok hr.2).1, (rngB_ok hr.2).2⟩, h2⟩
    · cases h1
  · cases h1)
theorem zi_enum' {ta : TA} (h : ZA c ta Γ M fun xs M1 => ∃ d ds, xs = [d] ∧ itEnum d = some ds ∧ kk ds M1) : ZI c (iEnumZ c.K ta) Γ M kk := zi_enum (h.imp fun xs M1 ⟨d, ds, e, h1, h2⟩ => by
  subst e
  unfold itEnum at h1
  obtain ⟨ys, h3, h1⟩ := Option.bind_eq_some_iff.mp h1
  cases h1
  refine ⟨d, ys, rfl, ?_, h2⟩
  cases d <;> cases h3
  · exact .tup
  · exact .lst
  · exact .scr)
end
/-! ### weakening -/
structure Wk (Γ Γ' : Gm) : Prop where
  len : Γ'.length = Γ.length
  at_ : ∀ (i : Nat) (d : D), Γ'[i]? = some (some d) → Γ[i]? = some (some d)
theorem Wk.rfl {Γ : Gm} : Wk Γ Γ := ⟨Eq.refl _, fun _ _ h => h⟩
theorem Wk.nil : Wk [] [] := .rfl
theorem Wk.keep {Γ Γ' : Gm} {o : Option D} (h : Wk Γ Γ') : Wk (o :: Γ) (o :: Γ') := ⟨by rw [List.length_cons, List.length_cons, h.len], fun i d e => by
  cases i with
  | zero => exact e
  | succ i => rw [List.getElem?_cons_succ] at e ⊢; exact h.at_ i d e⟩
theorem Wk.drop {Γ Γ' : Gm} {o : Option D} (h : Wk Γ Γ') : Wk (o :: Γ) (none :: Γ') := ⟨by rw [List.length_cons, List.length_cons, h.len], fun i d e => by
  cases i with
  | zero => cases e
  | succ i => rw [List.getElem?_cons_succ] at e ⊢; exact h.at_ i d e⟩
theorem Wk.has {K : Fg} {F : Hp} {σ : L2.St} {Γ Γ' : Gm} (w : Wk Γ Γ') (h : Has K F σ Γ) : Has K F σ Γ' := h.weak w.len fun i d e => ⟨d, w.at_ i d e, fun _ r => r⟩
theorem zs_weak {t : TS} {Γ Γ' : Gm} {M : Mem} {DD : ZEnds} (w : Wk Γ Γ') (h : ZS c t Γ' M DD) : ZS c t Γ M DD := fun R F σ H D hs L X q => h R F σ H D (w.has hs) L X q
theorem zg_weak {g : TG} {d : D} {Γ Γ' : Gm} {M : Mem} {k : Gm → Mem → Prop} (w : Wk Γ Γ') (h : ZG c g d Γ' M k) : ZG c g d Γ M k := fun R F σ H v Q hs L X r q => h R F σ H v Q (w.has hs) L X r q
theorem zt_weak {t : TT} {Γ Γ' : Gm} {M : Mem} {k : Bool → Mem → Prop} (w : Wk Γ Γ') (h : ZT c t Γ' M k) : ZT c t Γ M k := fun R F σ H Q hs L X q => h R F σ H Q (w.has hs) L X q
/-! ### joins -/
section
variable {N S R α : Type} {Γ : Gm} {M : Mem} {DD : ZEnds} {t u : TS} {out : α}
structure NxH (Γs : N → Gm) (Ms : N → Mem) (nx : Gm → Mem → Prop) (s : N) : Prop where
  go : ∀ Γ', Wk Γ' (Γs s) → nx Γ' (Ms s)
theorem y_nx {Γs : N → Gm} {Ms : N → Mem} {s s0 : N} {nx nx' : Gm → Mem → Prop} {M : Mem} (h : some s = some s0) (J : NxH Γs Ms nx s0) (w : Wk Γ (Γs s)) (hM : Ms s = M) (hn : nx = nx') : nx' Γ M := by
  cases h; subst hM hn; exact J.go Γ w
theorem y_join (Γs : N → Gm) (Ms : N → Mem) {m1 : Option N} {mr : N → Option α} (h : m1.bind mr = some out)
    (h1 : ∀ s, m1 = some s → ∀ DD' : ZEnds, NxH Γs Ms DD'.nx s → ZS c t Γ M DD') (h2 : ∀ s, mr s = some out → ZS c u (Γs s) (Ms s) DD) : ZS c (tSeq t u) Γ M DD := by
  obtain ⟨s, e1, e2⟩ := Option.bind_eq_some_iff.mp h
  exact zs_seq (h1 s e1 _ ⟨fun Γ' w => zs_weak w (h2 s e2)⟩)
/-- expressions' joins -/
def OrK (c : Cz) (u : TT) (Γ : Gm) (M : Mem) (b : Bool) (k : Bool → Mem → Prop) : Prop := (b = true → k true M) ∧ (b = false → ZT c u Γ M k)
theorem zt_or' {t u : TT} {k : Bool → Mem → Prop} (h : ZT c t Γ M fun b M1 => OrK c u Γ M1 b k) : ZT c (tOr t u) Γ M k := zt_or h
def AndK (c : Cz) (u : TT) (Γ : Gm) (M : Mem) (b : Bool) (k : Bool → Mem → Prop) : Prop := (b = true → ZT c u Γ M k) ∧ (b = false → k false M)
theorem zt_and' {t u : TT} {k : Bool → Mem → Prop} (h : ZT c t Γ M fun b M1 => AndK c u Γ M1 b k) : ZT c (tAnd t u) Γ M k := zt_and h
def OrV (c : Cz) (u : TE) (Γ : Gm) (M : Mem) (b : Bool) (k : D → Mem → Prop) : Prop := (b = true → k (.bl true) M) ∧ (b = false → ZE c u Γ M k)
theorem z_orV' {ta tb : TE} {k : D → Mem → Prop} (h : ZE c ta Γ M fun d M1 => ∃ b, d = .bl b ∧ OrV c tb Γ M1 b k) : ZE c (tOrV ta tb) Γ M k := z_orV h
def AndV (c : Cz) (u : TE) (Γ : Gm) (M : Mem) (b : Bool) (k : D → Mem → Prop) : Prop := (b = true → ZE c u Γ M k) ∧ (b = false → k (.bl false) M)
theorem z_andV' {ta tb : TE} {k : D → Mem → Prop} (h : ZE c ta Γ M fun d M1 => ∃ b, d = .bl b ∧ AndV c tb Γ M1 b k) : ZE c (tAndV ta tb) Γ M k := z_andV h
def IfE (c : Cz) (ta tb : TE) (Γ : Gm) (M : Mem) (b : Bool) (k : D → Mem → Prop) : Prop := (b = true → ZE c ta Γ M k) ∧ (b = false → ZE c tb Γ M k)
theorem z_if' {t : TT} {ta tb : TE} {k : D → Mem → Prop} (h : ZT c t Γ M fun b M1 => IfE c ta tb Γ M1 b k) : ZE c (tIf t ta tb) Γ M k := z_if h
theorem y_ifE {ta tb : TE} {mA mB : Option D} {mr : D → Option α} {b : Bool} {k : D → Mem → Prop} (h : (if b = true then mA else mB).bind mr = some out) (hA : ∀ v, mA = some v → ∀ k' : D → Mem → Prop, k' v M → ZE c ta Γ M k') (hB : ∀ v, mB = some v → ∀ k' : D → Mem → Prop, k' v M → ZE c tb Γ M k')
    (hk : ∀ v, mr v = some out → k v M) : IfE c ta tb Γ M b k := by
  obtain ⟨v, e1, e2⟩ := Option.bind_eq_some_iff.mp h
  exact ⟨fun hb => hA v (ifT hb e1) k (hk v e2), fun hb => hB v (ifF hb e1) k (hk v e2)⟩
theorem y_lf {v v0 : D} {k : D → Mem → Prop} (h : some v = some v0) (hk : k v0 M) : k v M := by cases h; exact hk
theorem y_lfB {v v0 : Bool} {k : Bool → Mem → Prop} (h : some v = some v0) (hk : k v0 M) : k v M := by cases h; exact hk
theorem y_and {tb : TT} {m2 : Option Bool} {mr : Bool → Option α} {b : Bool} {k : Bool → Mem → Prop} (h : (if b = true then m2 else some false).bind mr = some out) (h2 : ∀ v, m2 = some v → ∀ k' : Bool → Mem → Prop, k' v M → ZT c tb Γ M k')
    (hk : ∀ v, mr v = some out → k v M) : AndK c tb Γ M b k := by
  obtain ⟨v, e1, e2⟩ := Option.bind_eq_some_iff.mp h
  exact ⟨fun hb => h2 v (ifT hb e1) k (hk v e2), fun hb => by cases (ifF hb e1); exact hk _ e2⟩
theorem y_or {tb : TT} {m2 : Option Bool} {mr : Bool → Option α} {b : Bool} {k : Bool → Mem → Prop} (h : (if b = true then some true else m2).bind mr = some out) (h2 : ∀ v, m2 = some v → ∀ k' : Bool → Mem → Prop, k' v M → ZT c tb Γ M k')
    (hk : ∀ v, mr v = some out → k v M) : OrK c tb Γ M b k := by
  obtain ⟨v, e1, e2⟩ := Option.bind_eq_some_iff.mp h
  exact ⟨fun hb => by cases (ifT hb e1); exact hk _ e2, fun hb => h2 v (ifF hb e1) k (hk v e2)⟩
theorem y_andX {tb : TT} (Ms : S → Mem) {m2 : Option (Bool × S)} {mr : Bool → S → Option α} {b : Bool} {s : S} {k : Bool → Mem → Prop} (h : bp (if b = true then m2 else some (false, s)) mr = some out) (h2 : ∀ v s', m2 = some (v, s') → ∀ k' : Bool → Mem → Prop, k' v (Ms s') → ZT c tb Γ (Ms s) k')
    (hM : Ms s = M) (hk : ∀ v s', mr v s' = some out → k v (Ms s')) : AndK c tb Γ M b k := by
  subst hM
  unfold bp at h
  obtain ⟨⟨v, s'⟩, e1, e2⟩ := Option.bind_eq_some_iff.mp h
  exact ⟨fun hb => h2 v s' (ifT hb e1) k (hk v s' e2), fun hb => by cases (ifF hb e1); exact hk _ _ e2⟩
theorem y_orX {tb : TT} (Ms : S → Mem) {m2 : Option (Bool × S)} {mr : Bool → S → Option α} {b : Bool} {s : S} {k : Bool → Mem → Prop} (h : bp (if b = true then some (true, s) else m2) mr = some out) (h2 : ∀ v s', m2 = some (v, s') → ∀ k' : Bool → Mem → Prop, k' v (Ms s') → ZT c tb Γ (Ms s) k')
    (hM : Ms s = M) (hk : ∀ v s', mr v s' = some out → k v (Ms s')) : OrK c tb Γ M b k := by
  subst hM
  unfold bp at h
  obtain ⟨⟨v, s'⟩, e1, e2⟩ := Option.bind_eq_some_iff.mp h
  exact ⟨fun hb => by cases (ifT hb e1); exact hk _ _ e2, fun hb => h2 v s' (ifF hb e1) k (hk v s' e2)⟩
theorem y_lfX {Ms : S → Mem} {v v0 : Bool} {s s0 : S} {k : Bool → Mem → Prop} (h : some (v, s) = some (v0, s0)) (hk : k v0 (Ms s0)) (hM : Ms s = M) : k v M := by cases h; subst hM; exact hk
theorem y_lfXD {Ms : S → Mem} {v v0 : D} {s s0 : S} {k : D → Mem → Prop} (h : some (v, s) = some (v0, s0)) (hk : k v0 (Ms s0)) (hM : Ms s = M) : k v M := by cases h; subst hM; exact hk
theorem y_andV {tb : TE} {m2 : Option D} {mr : D → Option α} {b : Bool} {k : D → Mem → Prop} (h : (if b = true then m2 else some (.bl false)).bind mr = some out) (h2 : ∀ v, m2 = some v → ∀ k' : D → Mem → Prop, k' v M → ZE c tb Γ M k')
    (hk : ∀ v, mr v = some out → k v M) : AndV c tb Γ M b k := by
  obtain ⟨v, e1, e2⟩ := Option.bind_eq_some_iff.mp h
  exact ⟨fun hb => h2 v (ifT hb e1) k (hk v e2), fun hb => by cases (ifF hb e1); exact hk _ e2⟩
theorem y_orV {tb : TE} {m2 : Option D} {mr : D → Option α} {b : Bool} {k : D → Mem → Prop} (h : (if b = true then some (.bl true) else m2).bind mr = some out) (h2 : ∀ v, m2 = some v → ∀ k' : D → Mem → Prop, k' v M → ZE c tb Γ M k')
    (hk : ∀ v, mr v = some out → k v M) : OrV c tb Γ M b k := by
  obtain ⟨v, e1, e2⟩ := Option.bind_eq_some_iff.mp h
  exact ⟨fun hb => by cases (ifT hb e1); exact hk _ e2, fun hb => h2 v (ifF hb e1) k (hk v e2)⟩
end
/-! ### loops -/
section
variable {S R α : Type} {Γ : Gm} {M : Mem} {DD : ZEnds} {u tb : TS} {g : TG} {out : α} {ds : List D}
theorem drop_cons {α : Type} {l : List α} {i : Nat} {d : α} (h : l[i]? = some d) : l.drop i = d :: l.drop (i + 1) := by
  obtain ⟨hi, e⟩ := List.getElem?_eq_some_iff.mp h
  rw [List.drop_eq_getElem_cons hi, e]
/-- a loop that only steps -/
theorem y_forO (Γs : S → Gm) (Ms : S → Mem) {f : S → D → Option S} {s0 : S} {mr : S → Option α} (h : (foldO f ds s0).bind mr = some out) (w : Wk Γ (Γs s0))
    (hb : ∀ s d s', f s d = some s' → ∀ DD' : ZEnds, NxH Γs Ms DD'.nx s' → ZG c g d (Γs s) (Ms s) fun Γ2 M2 => ZS c tb Γ2 M2 DD')
    (h2 : ∀ s, mr s = some out → ZS c u (Γs s) (Ms s) DD) (hM : Ms s0 = M) : ForK c g tb Γ { DD with nx := fun Γ' M' => ZS c u Γ' M' DD } ds M := by
  subst hM
  obtain ⟨se, e1, e2⟩ := Option.bind_eq_some_iff.mp h
  refine ⟨fun i Γ' M' => ∃ s, foldO f (ds.drop i) s = some se ∧ Wk Γ' (Γs s) ∧ M' = Ms s, ⟨s0, by rw [List.drop_zero]; exact e1, w, rfl⟩, ?_, ?_⟩
  · rintro i d Γ1 M1 hd ⟨s, hs, w1, rfl⟩
    rw [drop_cons hd] at hs
    unfold foldO at hs
    obtain ⟨s', h1, h3⟩ := Option.bind_eq_some_iff.mp hs
    exact zg_weak w1 (hb s d s' h1 _ ⟨fun Γ' w' => ⟨s', h3, w', rfl⟩⟩)
  · rintro Γ1 M1 ⟨s, hs, w1, rfl⟩
    rw [List.drop_length] at hs
    cases hs
    exact zs_weak w1 (h2 _ e2)
/-- what a part that may leave hands on -/
structure FlH {N : Type} (Γn : N → Gm) (Mn : N → Mem) (Γl : S → Gm) (Ml : S → Mem) (kd : R → D × Mem) (DD : ZEnds) (x : Fl N S R) : Prop where
  nx : ∀ n, x = .nx n → ∀ Γ', Wk Γ' (Γn n) → DD.nx Γ' (Mn n)
  ct : ∀ s, x = .ct s → ∀ Γ', Wk Γ' (Γl s) → DD.ct Γ' (Ml s)
  bk : ∀ s, x = .bk s → ∀ Γ', Wk Γ' (Γl s) → DD.bk Γ' (Ml s)
  rt : ∀ r, x = .rt r → ∀ G, DD.rt (kd r).1 (G ++ (kd r).2)
theorem y_forL (Γs : S → Gm) (Ms : S → Mem) (kd : R → D × Mem) {f : S → D → Option (Fl S S R)} {s0 : S} {res : Fl S S R} (h : forL f ds s0 = some res) (w : Wk Γ (Γs s0))
    (hb : ∀ s d x, f s d = some x → ∀ DD' : ZEnds, FlH Γs Ms Γs Ms kd DD' x → ZG c g d (Γs s) (Ms s) fun Γ2 M2 => ZS c tb Γ2 M2 DD')
    (hn : ∀ s, res = .nx s → ∀ Γ', Wk Γ' (Γs s) → DD.nx Γ' (Ms s)) (hr : ∀ r, res = .rt r → ∀ G, DD.rt (kd r).1 (G ++ (kd r).2)) : ForK c g tb Γ DD ds (Ms s0) := by
  refine ⟨fun i Γ' M' => ∃ s, forL f (ds.drop i) s = some res ∧ Wk Γ' (Γs s) ∧ M' = Ms s, ⟨s0, by rw [List.drop_zero]; exact h, w, rfl⟩, ?_, ?_⟩
  · rintro i d Γ1 M1 hd ⟨s, hs, w1, rfl⟩
    rw [drop_cons hd] at hs
    unfold forL at hs
    obtain ⟨x, h1, h3⟩ := Option.bind_eq_some_iff.mp hs
    refine zg_weak w1 (hb s d x h1 _ ⟨fun s' e Γ' w' => ?_, fun s' e Γ' w' => ?_, fun s' e Γ' w' => ?_, fun r e G => ?_⟩)
    · subst e; exact ⟨s', h3, w', rfl⟩
    · subst e; exact ⟨s', h3, w', rfl⟩
    · subst e; exact hn s' (Option.some.inj h3).symm Γ' w'
    · subst e; exact hr r (Option.some.inj h3).symm G
  · rintro Γ1 M1 ⟨s, hs, w1, rfl⟩
    rw [List.drop_length] at hs
    exact hn s (Option.some.inj hs).symm _ w1
theorem y_whl (Γs : S → Gm) (Ms : S → Mem) (kd : R → D × Mem) {t : TT} {f : S → Option (Fl S S R)} {s0 : S} {res : Fl S S R} (h : whl f s0 = some res) (w : Wk Γ (Γs s0))
    (hb : ∀ s x, f s = some x → ∀ DD' : ZEnds, FlH Γs Ms Γs Ms kd DD' x → ZT c t (Γs s) (Ms s) fun b M2 => (b = true → ZS c tb (Γs s) M2 DD') ∧ (b = false → ∀ Γ', Wk Γ' (Γs s) → DD'.bk Γ' M2))
    (hn : ∀ s, res = .nx s → ∀ Γ', Wk Γ' (Γs s) → DD.nx Γ' (Ms s)) (hr : ∀ r, res = .rt r → ∀ G, DD.rt (kd r).1 (G ++ (kd r).2)) : ZS c (tWhile t tb) Γ (Ms s0) DD := by
  obtain ⟨n, hn0⟩ := whl_ex h
  refine zs_while (fun m Γ' M' => ∃ s, whlN f m s = some res ∧ Wk Γ' (Γs s) ∧ M' = Ms s) n ⟨s0, hn0, w, rfl⟩ ?_
  rintro m Γ1 M1 ⟨s, hs, w1, rfl⟩
  cases m with
  | zero => cases hs
  | succ m =>
    unfold whlN at hs
    obtain ⟨x, h1, h3⟩ := Option.bind_eq_some_iff.mp hs
    have key := zt_weak w1 (hb s x h1 { DD with nx := fun Γ' M' => ∃ m', m' < m + 1 ∧ ∃ s, whlN f m' s = some res ∧ Wk Γ' (Γs s) ∧ M' = Ms s, ct := fun Γ' M' => ∃ m', m' < m + 1 ∧ ∃ s, whlN f m' s = some res ∧ Wk Γ' (Γs s) ∧ M' = Ms s, bk := DD.nx } ⟨fun s' e Γ' w' => ?_, fun s' e Γ' w' => ?_, fun s' e Γ' w' => ?_, fun r e G => ?_⟩)
    · refine key.imp fun b M2 ⟨k1, k2⟩ => ⟨fun hb => zs_weak w1 (k1 hb), fun hb => k2 hb _ w1⟩
    · subst e; exact ⟨m, Nat.lt_succ_self m, s', h3, w', rfl⟩
    · subst e; exact ⟨m, Nat.lt_succ_self m, s', h3, w', rfl⟩
    · subst e; exact hn s' (Option.some.inj h3).symm Γ' w'
    · subst e; exact hr r (Option.some.inj h3).symm G
end
end Z
set_option Elab.async false
set_option linter.all false
set_option maxRecDepth 100000
set_option maxHeartbeats 4000000
/-! YDef: comprehensions, lists that change, ends, defs. -/
namespace Z
open PySem PySem.Spec PyProof.Rows L2
/-! ### comprehensions -/
def lcO (f : D → Option D) (ds : List D) : Option (List D) := if ds.length ≤ sizeLine then mapO f ds else none
def lcS {S : Type} (f : S → D → Option (D × S)) (ds : List D) (s : S) : Option (List D × S) := if ds.length ≤ sizeLine then mapS f ds s else none
def lcF (f : D → Option (Option D)) (ds : List D) : Option (List D) := if ds.length ≤ sizeLine then filO f ds else none
theorem mapO_len {f : D → Option D} : ∀ {ds ys : List D}, mapO f ds = some ys → ys.length = ds.length
  | [], ys, h => by cases h; rfl
  | d :: ds, ys, h => by
    unfold mapO at h
    obtain ⟨y, h1, h⟩ := Option.bind_eq_some_iff.mp h
    obtain ⟨zs, h2, h⟩ := Option.bind_eq_some_iff.mp h
    cases h
    rw [List.length_cons, List.length_cons, mapO_len h2]
variable {c : Cz}
section
variable {S : Type} {Γ : Gm} {M : Mem} {kk : List D → Mem → Prop} {g : TG} {te : TE} {tt : TT} {vs : List Nat} {ds ys : List D}
theorem y_lcO {f : D → Option D} (h : lcO f ds = some ys) (hb : ∀ d y, f d = some y → ∀ k' : D → Mem → Prop, k' y M → ZG c g d (zwipe Γ vs) M fun Γ2 M2 => ZE c te Γ2 M2 k') (hk : kk ys M) : LcK c g tYes te vs Γ kk ds M := by
  unfold lcO at h
  split at h
  · rename_i hl
    refine ⟨hl, fun i acc M1 => M1 = M ∧ ∃ zs, mapO f (ds.drop i) = some zs ∧ acc ++ zs = ys, ⟨rfl, ys, by rw [List.drop_zero]; exact h, rfl⟩, fun i d acc M1 hd _ ⟨e1, zs, e2, e3⟩ => ?_, fun acc M1 ⟨e1, zs, e2, e3⟩ => ?_⟩
    · subst e1
      rw [drop_cons hd] at e2
      unfold mapO at e2
      obtain ⟨y, h1, e2⟩ := Option.bind_eq_some_iff.mp e2
      obtain ⟨ws, h2, e2⟩ := Option.bind_eq_some_iff.mp e2
      cases e2
      have key := hb d y h1 (fun y M4 => M4 = M1 ∧ ∃ zs, mapO f (ds.drop (i + 1)) = some zs ∧ (acc ++ [y]) ++ zs = ys) ⟨rfl, ws, h2, by rw [List.append_assoc]; exact e3⟩
      refine fun R F σ H v Q hs L X r q => key R F σ H v Q hs L X r fun σ' F' H' M' Γ' e L' hs' h' => q σ' F' H' M' Γ' e L' hs' ?_
      exact zt_yes ⟨fun _ => h', fun z => nomatch z⟩
    · subst e1
      rw [List.drop_length] at e2
      cases e2
      rw [List.append_nil] at e3
      subst e3; exact hk
  · cases h
theorem y_lcS (Ms : S → Mem) {f : S → D → Option (D × S)} {s s1 : S} (h : lcS f ds s = some (ys, s1)) (hb : ∀ s d y s', f s d = some (y, s') → ∀ k' : D → Mem → Prop, k' y (Ms s') → ZG c g d (zwipe Γ vs) (Ms s) fun Γ2 M2 => ZE c te Γ2 M2 k') (hM : Ms s = M) (hk : kk ys (Ms s1)) : LcK c g tYes te vs Γ kk ds M := by
  subst hM
  unfold lcS at h
  split at h
  · rename_i hl
    refine ⟨hl, fun i acc M1 => ∃ s zs, M1 = Ms s ∧ mapS f (ds.drop i) s = some (zs, s1) ∧ acc ++ zs = ys, ⟨s, ys, rfl, by rw [List.drop_zero]; exact h, rfl⟩, fun i d acc M1 hd _ ⟨s, zs, e1, e2, e3⟩ => ?_, fun acc M1 ⟨s, zs, e1, e2, e3⟩ => ?_⟩
    · subst e1
      rw [drop_cons hd] at e2
      unfold mapS bp at e2
      obtain ⟨⟨y, s'⟩, h1, e2⟩ := Option.bind_eq_some_iff.mp e2
      obtain ⟨⟨ws, s2⟩, h2, e2⟩ := Option.bind_eq_some_iff.mp e2
      cases e2
      have key := hb s d y s' h1 (fun y M4 => ∃ s zs, M4 = Ms s ∧ mapS f (ds.drop (i + 1)) s = some (zs, s2) ∧ (acc ++ [y]) ++ zs = ys) ⟨s', ws, rfl, h2, by rw [List.append_assoc]; exact e3⟩
      refine fun R F σ H v Q hs L X r q => key R F σ H v Q hs L X r fun σ' F' H' M' Γ' e L' hs' h' => q σ' F' H' M' Γ' e L' hs' ?_
      exact zt_yes ⟨fun _ => h', fun z => nomatch z⟩
    · subst e1
      rw [List.drop_length] at e2
      cases e2
      rw [List.append_nil] at e3
      subst e3; exact hk
  · cases h
theorem y_lcF {f : D → Option (Option D)} (h : lcF f ds = some ys) (hb : ∀ d r, f d = some r → ∀ (kT : D → Mem → Prop) (kF : Mem → Prop), (∀ y, r = some y → kT y M) → (r = none → kF M) → ZG c g d (zwipe Γ vs) M fun Γ2 M2 => ZT c tt Γ2 M2 fun b M3 => (b = true → ZE c te Γ2 M3 kT) ∧ (b = false → kF M3)) (hk : kk ys M) : LcK c g tt te vs Γ kk ds M := by
  unfold lcF at h
  split at h
  · rename_i hl
    refine ⟨hl, fun i acc M1 => M1 = M ∧ ∃ zs, filO f (ds.drop i) = some zs ∧ acc ++ zs = ys, ⟨rfl, ys, by rw [List.drop_zero]; exact h, rfl⟩, fun i d acc M1 hd _ ⟨e1, zs, e2, e3⟩ => ?_, fun acc M1 ⟨e1, zs, e2, e3⟩ => ?_⟩
    · subst e1
      rw [drop_cons hd] at e2
      unfold filO at e2
      obtain ⟨y, h1, e2⟩ := Option.bind_eq_some_iff.mp e2
      obtain ⟨ws, h2, e2⟩ := Option.bind_eq_some_iff.mp e2
      cases e2
      refine hb d y h1 (fun y M4 => M4 = M1 ∧ ∃ zs, filO f (ds.drop (i + 1)) = some zs ∧ (acc ++ [y]) ++ zs = ys) (fun M4 => M4 = M1 ∧ ∃ zs, filO f (ds.drop (i + 1)) = some zs ∧ acc ++ zs = ys) (fun z hz => ?_) (fun hz => ?_)
      · subst hz
        exact ⟨rfl, ws, h2, by rw [List.append_assoc]; exact e3⟩
      · subst hz
        exact ⟨rfl, ws, h2, e3⟩
    · subst e1
      rw [List.drop_length] at e2
      cases e2
      rw [List.append_nil] at e3
      subst e3; exact hk
  · cases h
theorem y_fT {y : D} {r : Option D} {kT : D → Mem → Prop} (h : some (some y) = some r) (k : ∀ y, r = some y → kT y M) : kT y M := k y (Option.some.inj h).symm
theorem y_fF {r : Option D} {kF : Mem → Prop} (h : some none = some r) (k : r = none → kF M) : kF M := k (Option.some.inj h).symm
end
/-! ### lists that change -/
def dApp (ds : List D) (d : D) : Option (List D) := if ds.length < sizeLine then some (ds ++ [d]) else none
def dExt (ds : List D) (d : D) : Option (List D) := match d with
  | .lst es => if ds.length + es.length ≤ sizeLine then some (ds ++ es) else none
  | _ => none
def dPop (ds : List D) : Option (D × List D) := (ds[ds.length - 1]?).map fun d => (d, ds.dropLast)
def dPopAt (ds : List D) : D → Option (D × List D)
  | .int z => if -(2 ^ 63) ≤ z ∧ z < 2 ^ 63 then (seqIndex? z ds.length).bind fun n => (ds[n]?).map fun d => (d, ds.eraseIdx n) else none
  | _ => none
def dIns (ds : List D) (x : D) (d : D) : Option (List D) := match x with
  | .int z => if ds.length < sizeLine ∧ 0 ≤ z ∧ z < 2 ^ 63 then some (ds.take z.toNat ++ [d] ++ ds.drop z.toNat) else none
  | _ => none
def dSet (ds : List D) (x : D) (d : D) : Option (List D) := match x with
  | .int z => (ixN ds.length z).map fun j => ds.set j d
  | _ => none
section
variable {M M' : Mem} {k : D → Mem → Prop} {i : Nat} {a : Addr} {ds ds' : List D} {d x : D}
theorem y_append (hi : M[i]? = some (a, .lst ds)) (h : dApp ds d = some ds') (hM : M.set i (a, .lst ds') = M') (hk : k .non M') : ZM c rAppend (.at a) [d] M k := by
  unfold dApp at h
  split at h
  · rename_i hl
    cases h
    subst hM
    exact zm_append hi hl hk
  · cases h
theorem y_extend (hi : M[i]? = some (a, .lst ds)) (v : View M x d) (h : dExt ds d = some ds') (hM : M.set i (a, .lst ds') = M') (hk : k .non M') : ZM c rExtend (.at a) [x] M k := by
  unfold dExt at h
  split at h
  · split at h
    · rename_i hl
      cases h
      subst hM
      exact zm_extend hi v.lstSt hl hk
    · cases h
  · cases h
theorem y_pop (hi : M[i]? = some (a, .lst ds)) (h : dPop ds = some (d, ds')) (hM : M.set i (a, .lst ds') = M') (hk : k d M') : ZM c rPop (.at a) [] M k := by
  unfold dPop at h
  obtain ⟨e, h1, h2⟩ := Option.map_eq_some_iff.mp h
  cases h2
  subst hM
  exact zm_pop hi h1 hk
theorem y_popAt (hi : M[i]? = some (a, .lst ds)) (h : dPopAt ds x = some (d, ds')) (hM : M.set i (a, .lst ds') = M') (hk : k d M') : ZM c rPopAt (.at a) [x] M k := by
  unfold dPopAt at h
  split at h
  · split at h
    · rename_i hz
      obtain ⟨n, h1, h⟩ := Option.bind_eq_some_iff.mp h
      obtain ⟨e, h2, h3⟩ := Option.map_eq_some_iff.mp h
      cases h3
      subst hM
      exact zm_popAt hi hz.1 hz.2 h1 h2 hk
    · cases h
  · cases h
theorem y_insert (hi : M[i]? = some (a, .lst ds)) (h : dIns ds x d = some ds') (hM : M.set i (a, .lst ds') = M') (hk : k .non M') : ZM c rInsZ (.at a) [x, d] M k := by
  unfold dIns at h
  split at h
  · split at h
    · rename_i hz
      cases h
      subst hM
      exact zm_insert hi hz.1 hz.2.1 hz.2.2 hk
    · cases h
  · cases h
theorem y_reverse (hi : M[i]? = some (a, .lst ds)) (hM : M.set i (a, .lst ds.reverse) = M') (hk : k .non M') : ZM c rReverse (.at a) [] M k := by
  subst hM; exact zm_reverse hi hk
theorem zg_setL' {to ti : TE} {Γ : Gm} {kg : Gm → Mem → Prop} (h : ZE c to Γ M fun o M1 => ZE c ti Γ M1 fun x M2 => ∃ a i ds ds' M', o = .at a ∧ M2[i]? = some (a, .lst ds) ∧ dSet ds x d = some ds' ∧ M2.set i (a, .lst ds') = M' ∧ kg Γ M') : ZG c (gSub to ti rSetL) d Γ M kg := zg_setL (h.imp fun o M1 h1 => h1.imp fun x M2 ⟨a, i, ds, ds', M', e, hi, hs, hM, hk⟩ => by
  subst e hM
  unfold dSet at hs
  split at hs
  · obtain ⟨j, h2, rfl⟩ := Option.map_eq_some_iff.mp hs
    exact ⟨a, i, ds, _, j, rfl, rfl, hi, h2, hk⟩
  · cases hs)
/-- lists made that may change -/
def dRgL : D → Option (List D)
  | .int n => if -(2 ^ 62) ≤ n ∧ n ≤ 2 ^ 24 then some (rngD 0 n.toNat) else none
  | _ => none
theorem dRgL_ok {d : D} {ds : List D} (h : dRgL d = some ds) : ∃ n, d = .int n ∧ RgOk 0 n ∧ ds = rngD 0 n.toNat := by
  unfold dRgL at h
  split at h
  · split at h
    · rename_i hr
      cases h
      obtain ⟨h1, h2⟩ := hr
      exact ⟨_, rfl, ⟨by omega, by omega, by omega, by omega, by omega⟩, rfl⟩
    · cases h
  · cases h
theorem z_rgF {te : TE} {Γ : Gm} (h : ZE c te Γ M fun d M1 => ∃ ds, dRgL d = some ds ∧ k (.lst ds) M1) : ZE c (tLstRg (tRg1 te)) Γ M k := z_listRg1 (h.imp fun d M1 ⟨ds, h1, h2⟩ => by
  obtain ⟨n, e1, e2, e3⟩ := dRgL_ok h1
  subst e3
  exact ⟨n, e1, e2, h2⟩)
theorem z_rgM {te : TE} {Γ : Gm} (h : ZE c te Γ M fun d M1 => ∃ ds, dRgL d = some ds ∧ ∀ p, k (.at p) ((p, .lst ds) :: M1)) : ZE c (tLstRg (tRg1 te)) Γ M k := z_listRg1M (h.imp fun d M1 ⟨ds, h1, h2⟩ => by
  obtain ⟨n, e1, e2, e3⟩ := dRgL_ok h1
  subst e3
  exact ⟨n, e1, e2, h2⟩)
theorem z_lsM {ta : TA} {Γ : Gm} (h : ZA c ta Γ M fun xs M1 => ∃ dx d ds, xs = [dx] ∧ View M1 dx d ∧ items d = some ds ∧ ∀ p, k (.at p) ((p, .lst ds) :: M1)) : ZE c (tCB (rListZ c.K) ta) Γ M k := z_listM (h.imp fun xs M1 ⟨dx, d, ds, e, v, hi, hk⟩ => ⟨dx, ds, e, v.sq hi, hk⟩)
def dRep (ds : List D) : D → Option (List D)
  | .int j => if repB ds.length j then some (List.replicate j.toNat ds).flatten else none
  | _ => none
theorem z_repM {ta tb : TE} {Γ : Gm} (h : ZE c ta Γ M fun x M1 => ZE c tb Γ M1 fun y M2 => ∃ ds rs, View M2 x (.lst ds) ∧ dRep ds y = some rs ∧ ∀ p, k (.at p) ((p, .lst rs) :: M2)) : ZE c (tOp rMulZ ta tb) Γ M k := z_repLM (h.imp fun x M1 h1 => h1.imp fun y M2 ⟨ds, rs, v, hr, hk⟩ => by
  unfold dRep at hr
  split at hr
  · split at hr
    · rename_i hb
      cases hr
      unfold repB at hb
      rw [Bool.and_eq_true, Bool.and_eq_true] at hb
      exact ⟨_, _, v.lstSt, rfl, of_decide_eq_true hb.1.1, of_decide_eq_true hb.1.2, of_decide_eq_true hb.2, hk⟩
    · cases hr
  · cases hr)
end
/-! ### ends -/
/-- a def's end: what is returned, what its changing parameters hold -/
structure HitD {α : Type} (kd : α → D × Mem) (DD : ZEnds) (out : α) : Prop where
  rt : ∀ G, DD.rt (kd out).1 (G ++ (kd out).2)
  nn : (kd out).1 = .non → ∀ Γ' G, DD.nx Γ' (G ++ (kd out).2)
theorem y_ret {α : Type} {kd : α → D × Mem} {rt : D → Mem → Prop} {x out : α} {d : D} {M : Mem} (G : Mem) (h : some x = some out) (hit : ∀ G, rt (kd out).1 (G ++ (kd out).2)) (hd : (kd x).1 = d) (hM : G ++ (kd x).2 = M) : rt d M := by
  cases h; subst hd hM; exact hit G
theorem y_end {α : Type} {kd : α → D × Mem} {DD : ZEnds} {x out : α} {Γ : Gm} (G : Mem) {M : Mem} (h : some x = some out) (hit : HitD kd DD out) (hx : (kd x).1 = .non) (hM : G ++ (kd x).2 = M) : DD.nx Γ M := by
  cases h; subst hM; exact hit.nn hx Γ G
section
variable {N N' S R α : Type} {Γ : Gm} {M : Mem} {DD : ZEnds} {t u tb : TS} {Γn : N → Gm} {Mn : N → Mem} {Γl : S → Gm} {Ml : S → Mem} {kd : R → D × Mem}
theorem y_nxF {x : Fl N S R} {n : N} {nx : Gm → Mem → Prop} (h : some (.nx n) = some x) (J : FlH Γn Mn Γl Ml kd DD x) (w : Wk Γ (Γn n)) (hM : Mn n = M) (hn : DD.nx = nx) : nx Γ M := by cases h; subst hM hn; exact J.nx n rfl Γ w
theorem y_ctF {x : Fl N S R} {n : S} {ct : Gm → Mem → Prop} (h : some (.ct n) = some x) (J : FlH Γn Mn Γl Ml kd DD x) (w : Wk Γ (Γl n)) (hM : Ml n = M) (hn : DD.ct = ct) : ct Γ M := by cases h; subst hM hn; exact J.ct n rfl Γ w
theorem y_bkF {x : Fl N S R} {n : S} {bk : Gm → Mem → Prop} (h : some (.bk n) = some x) (J : FlH Γn Mn Γl Ml kd DD x) (w : Wk Γ (Γl n)) (hM : Ml n = M) (hn : DD.bk = bk) : bk Γ M := by cases h; subst hM hn; exact J.bk n rfl Γ w
theorem y_bkW {x : Fl N S R} {n : S} (h : some (.bk n) = some x) (J : FlH Γn Mn Γl Ml kd DD x) (hM : Ml n = M) : ∀ Γ', Wk Γ' (Γl n) → DD.bk Γ' M := by cases h; subst hM; exact J.bk n rfl
theorem y_rtF {x : Fl N S R} {r : R} {rt : D → Mem → Prop} {d : D} (G : Mem) (h : some (.rt r) = some x) (J : FlH Γn Mn Γl Ml kd DD x) (hd : (kd r).1 = d) (hM : G ++ (kd r).2 = M) (hn : DD.rt = rt) : rt d M := by cases h; subst hd hM hn; exact J.rt r rfl G
/-- a part that may leave, then the rest: within a part that may leave -/
theorem y_joinF {Γm : N' → Gm} {Mm : N' → Mem} (Γn : N → Gm) (Mn : N → Mem) {m1 : Option (Fl N S R)} {mr : N → Option (Fl N' S R)} {out : Fl N' S R} (h : Fl.seq m1 mr = some out) (J : FlH Γm Mm Γl Ml kd DD out)
    (h1 : ∀ x, m1 = some x → ∀ DD' : ZEnds, FlH Γn Mn Γl Ml kd DD' x → ZS c t Γ M DD') (h2 : ∀ s, mr s = some out → ZS c u (Γn s) (Mn s) DD) : ZS c (tSeq t u) Γ M DD := by
  unfold Fl.seq at h
  obtain ⟨x, e1, e2⟩ := Option.bind_eq_some_iff.mp h
  refine zs_seq (h1 x e1 _ ⟨fun n e Γ' w => ?_, fun n e => ?_, fun n e => ?_, fun n e => ?_⟩)
  · subst e; exact zs_weak w (h2 n e2)
  · subst e; cases e2; exact J.ct n rfl
  · subst e; cases e2; exact J.bk n rfl
  · subst e; cases e2; exact J.rt n rfl
/-- .. at a def's level -/
theorem y_joinD {kd : α → D × Mem} (Γn : N → Gm) (Mn : N → Mem) {m1 : Option (Fl N Unit α)} {mr : N → Option α} {out : α} (h : Fl.fin m1 mr = some out) (hit : ∀ G, DD.rt (kd out).1 (G ++ (kd out).2))
    (h1 : ∀ x, m1 = some x → ∀ DD' : ZEnds, FlH Γn Mn (fun _ => []) (fun _ => []) kd DD' x → ZS c t Γ M DD') (h2 : ∀ s, mr s = some out → ZS c u (Γn s) (Mn s) DD) : ZS c (tSeq t u) Γ M DD := by
  unfold Fl.fin at h
  obtain ⟨x, e1, e2⟩ := Option.bind_eq_some_iff.mp h
  refine zs_seq (h1 x e1 _ ⟨fun n e Γ' w => ?_, fun n e => ?_, fun n e => ?_, fun n e => ?_⟩)
  · subst e; exact zs_weak w (h2 n e2)
  · subst e; cases e2
  · subst e; cases e2
  · subst e; cases e2; exact hit
variable {g : TG} {ds : List D}
def Fl.pass {N' So : Type} (m : Option (Fl S S R)) (f : S → Option (Fl N' So R)) : Option (Fl N' So R) := m.bind fun
  | .nx s => f s
  | .rt r => some (.rt r)
  | _ => none
theorem y_forF {Γm : N' → Gm} {Mm : N' → Mem} {So : Type} {Γl : So → Gm} {Ml : So → Mem} (Γs : S → Gm) (Ms : S → Mem) {f : S → D → Option (Fl S S R)} {s0 : S} {mr : S → Option (Fl N' So R)} {out : Fl N' So R}
    (h : Fl.pass (forL f ds s0) mr = some out) (J : FlH Γm Mm Γl Ml kd DD out) (w : Wk Γ (Γs s0))
    (hb : ∀ s d x, f s d = some x → ∀ DD' : ZEnds, FlH Γs Ms Γs Ms kd DD' x → ZG c g d (Γs s) (Ms s) fun Γ2 M2 => ZS c tb Γ2 M2 DD') (h2 : ∀ s, mr s = some out → ZS c u (Γs s) (Ms s) DD) (hM : Ms s0 = M) : ForK c g tb Γ { DD with nx := fun Γ' M' => ZS c u Γ' M' DD } ds M := by
  subst hM
  unfold Fl.pass at h
  obtain ⟨x, e1, e2⟩ := Option.bind_eq_some_iff.mp h
  refine y_forL Γs Ms kd e1 w hb (fun s e Γ' w => ?_) (fun r e => ?_)
  · subst e; exact zs_weak w (h2 s e2)
  · subst e; cases e2; exact J.rt r rfl
theorem y_forD {kd : α → D × Mem} (Γs : S → Gm) (Ms : S → Mem) {f : S → D → Option (Fl S S α)} {s0 : S} {mr : S → Option α} {out : α} (h : Fl.fin (forL f ds s0) mr = some out) (hit : ∀ G, DD.rt (kd out).1 (G ++ (kd out).2)) (w : Wk Γ (Γs s0))
    (hb : ∀ s d x, f s d = some x → ∀ DD' : ZEnds, FlH Γs Ms Γs Ms kd DD' x → ZG c g d (Γs s) (Ms s) fun Γ2 M2 => ZS c tb Γ2 M2 DD') (h2 : ∀ s, mr s = some out → ZS c u (Γs s) (Ms s) DD) (hM : Ms s0 = M) : ForK c g tb Γ { DD with nx := fun Γ' M' => ZS c u Γ' M' DD } ds M := by
  subst hM
  unfold Fl.fin at h
  obtain ⟨x, e1, e2⟩ := Option.bind_eq_some_iff.mp h
  refine y_forL Γs Ms kd e1 w hb (fun s e Γ' w => ?_) (fun r e => ?_)
  · subst e; exact zs_weak w (h2 s e2)
  · subst e; cases e2; exact hit
/-- a loop with break or continue that returns nothing -/
def Fl.out : Fl S S Empty → Option S
  | .nx s => some s
  | _ => none
theorem y_forB (Γs : S → Gm) (Ms : S → Mem) {f : S → D → Option (Fl S S Empty)} {s0 : S} {mr : S → Option α} {out : α} (h : (((forL f ds s0).bind Fl.out).bind mr) = some out) (w : Wk Γ (Γs s0))
    (hb : ∀ s d x, f s d = some x → ∀ DD' : ZEnds, FlH Γs Ms Γs Ms (fun r => nomatch r) DD' x → ZG c g d (Γs s) (Ms s) fun Γ2 M2 => ZS c tb Γ2 M2 DD') (h2 : ∀ s, mr s = some out → ZS c u (Γs s) (Ms s) DD) (hM : Ms s0 = M) : ForK c g tb Γ { DD with nx := fun Γ' M' => ZS c u Γ' M' DD } ds M := by
  subst hM
  obtain ⟨s1, e1, e2⟩ := Option.bind_eq_some_iff.mp h
  obtain ⟨x, e0, e1⟩ := Option.bind_eq_some_iff.mp e1
  refine y_forL Γs Ms _ e0 w hb (fun s' e Γ' w => ?_) (fun r e => nomatch r)
  subst e; cases e1; exact zs_weak w (h2 _ e2)
theorem y_whlB (Γs : S → Gm) (Ms : S → Mem) {tt : TT} {f : S → Option (Fl S S Empty)} {s0 : S} {mr : S → Option α} {out : α} (h : (((whl f s0).bind Fl.out).bind mr) = some out) (w : Wk Γ (Γs s0))
    (hb : ∀ s x, f s = some x → ∀ DD' : ZEnds, FlH Γs Ms Γs Ms (fun r => nomatch r) DD' x → ZT c tt (Γs s) (Ms s) fun b M2 => (b = true → ZS c tb (Γs s) M2 DD') ∧ (b = false → ∀ Γ', Wk Γ' (Γs s) → DD'.bk Γ' M2)) (h2 : ∀ s, mr s = some out → ZS c u (Γs s) (Ms s) DD) (hM : Ms s0 = M) : ZS c (tSeq (tWhile tt tb) u) Γ M DD := by
  subst hM
  obtain ⟨s1, e1, e2⟩ := Option.bind_eq_some_iff.mp h
  obtain ⟨x, e0, e1⟩ := Option.bind_eq_some_iff.mp e1
  refine zs_seq (y_whl Γs Ms _ e0 w hb (fun s' e Γ' w => ?_) (fun r e => nomatch r))
  subst e; cases e1; exact zs_weak w (h2 _ e2)
theorem y_whlD {kd : α → D × Mem} (Γs : S → Gm) (Ms : S → Mem) {tt : TT} {f : S → Option (Fl S S α)} {s0 : S} {mr : S → Option α} {out : α} (h : Fl.fin (whl f s0) mr = some out) (hit : ∀ G, DD.rt (kd out).1 (G ++ (kd out).2)) (w : Wk Γ (Γs s0))
    (hb : ∀ s x, f s = some x → ∀ DD' : ZEnds, FlH Γs Ms Γs Ms kd DD' x → ZT c tt (Γs s) (Ms s) fun b M2 => (b = true → ZS c tb (Γs s) M2 DD') ∧ (b = false → ∀ Γ', Wk Γ' (Γs s) → DD'.bk Γ' M2)) (h2 : ∀ s, mr s = some out → ZS c u (Γs s) (Ms s) DD) (hM : Ms s0 = M) : ZS c (tSeq (tWhile tt tb) u) Γ M DD := by
  subst hM
  unfold Fl.fin at h
  obtain ⟨x, e1, e2⟩ := Option.bind_eq_some_iff.mp h
  refine zs_seq (y_whl Γs Ms kd e1 w hb (fun s e Γ' w => ?_) (fun r e => ?_))
  · subst e; exact zs_weak w (h2 s e2)
  · subst e; cases e2; exact hit
end
/-! ### frames -/
theorem Lay.perm' {K : Fg} {F : Hp} {M M' : Mem} {H : Hp} (L : Lay K F M H) (p : M.Perm M') : Lay K F M' H := L.perm p
theorem Lay.dropR {K : Fg} {F : Hp} {A B : Mem} {H : Hp} (L : Lay K F (A ++ B) H) : Lay K F A H :=
  ⟨L.fr, L.nd.sublist ((List.sublist_append_left A B).map (·.1)), fun p hp => L.ap p (List.mem_append_left _ hp), fun p hp => L.mu p (List.mem_append_left _ hp)⟩
theorem zs_fr {K : Fg} {t : TS} {Γ : Gm} {M M0 R0 : Mem} {DD : ZEnds} (hp : M.Perm (M0 ++ R0))
    (h : ZS { K := K } t Γ M0 { nx := fun Γ' M' => ∃ G M2, (M' ++ R0).Perm (M2 ++ G) ∧ DD.nx Γ' M2, rt := fun d M' => ∃ G M2, (M' ++ R0).Perm (M2 ++ G) ∧ DD.rt d M2 }) : ZS { K := K } t Γ M DD := fun R F σ H Dd hs L X q => by
  have L1 : Lay K F (M0 ++ (R0 ++ R)) H := by
    rw [← List.append_assoc]
    exact L.perm (hp.append_right R)
  refine h (R0 ++ R) F σ H Dd hs L1 (fun _ _ _ _ _ _ _ _ _ _ _ _ z => z.elim) ⟨fun v F' H' M' d e L' r ⟨G, M2, p, k⟩ => ?_, fun v F' H' M' d e L' r ⟨G, M2, p, k⟩ => ?_, fun v F' H' M' d e L' r k => k.elim, fun v F' H' M' d e L' r k => k.elim⟩
  all_goals
    have L2 : Lay K F' (M2 ++ R) H' := by
      rw [← List.append_assoc] at L'
      have L3 := L'.perm (p.append_right R)
      have p2 : (M2 ++ G ++ R).Perm ((M2 ++ R) ++ G) := by
        rw [List.append_assoc, List.append_assoc]
        exact List.Perm.append_left M2 List.perm_append_comm
      exact (L3.perm p2).dropR
  · exact q.nx v F' H' M2 d e L2 r k
  · exact q.rt v F' H' M2 d e L2 r k
theorem perm_pick {M : Mem} {i : Nat} {x : Addr × MO} (h : M[i]? = some x) : M.Perm ([x] ++ M.eraseIdx i) := by
  obtain ⟨hi, rfl⟩ := List.getElem?_eq_some_iff.mp h
  rw [List.eraseIdx_eq_take_drop_succ]
  have e : M = M.take i ++ (M[i] :: M.drop (i + 1)) := by rw [← List.drop_eq_getElem_cons hi, List.take_append_drop]
  refine (List.Perm.of_eq e).trans ?_
  exact List.perm_middle
theorem perm_put {M : Mem} {i : Nat} {x y : Addr × MO} (h : M[i]? = some x) : (M.set i y).Perm ([y] ++ M.eraseIdx i) := by
  have hi := (List.getElem?_eq_some_iff.mp h).1
  have h2 : (M.set i y)[i]? = some y := List.getElem?_set_self hi
  have := perm_pick h2
  have e : (M.set i y).eraseIdx i = M.eraseIdx i := by
    rw [List.eraseIdx_eq_take_drop_succ, List.eraseIdx_eq_take_drop_succ, List.take_set_of_le (Nat.le_refl _), List.drop_set_of_lt (Nat.lt_succ_self _)]
  rw [e] at this; exact this
/-- a def that changes nothing -/
theorem zs_def0 {K : Fg} {t : TS} {Γ : Gm} {M : Mem} {out : D} {kk : D → Mem → Prop} (hk : kk out M) (h : ∀ DD : ZEnds, HitD (fun x : D => (x, [])) DD out → ZS { K := K } t Γ [] DD) : ZS { K := K } t Γ M { nx := fun _ M' => kk .non M', rt := kk } := by
  refine zs_fr (M0 := []) (R0 := M) (.refl _) (h _ ⟨fun G => ⟨G, M, ?_, hk⟩, fun e Γ' G => ⟨G, M, ?_, ?_⟩⟩)
  · show ((G ++ []) ++ M).Perm (M ++ G)
    rw [List.append_nil]; exact List.perm_append_comm
  · show ((G ++ []) ++ M).Perm (M ++ G)
    rw [List.append_nil]; exact List.perm_append_comm
  · have e' : out = .non := e
    subst e'
    exact hk
/-- a def that changes one list -/
theorem zs_def1 {K : Fg} {t : TS} {Γ : Gm} {M : Mem} {i : Nat} {a : Addr} {box : List D} {out : D × List D} {kk : D → Mem → Prop} (hi : M[i]? = some (a, .lst box)) (hk : kk out.1 (M.set i (a, .lst out.2)))
    (h : ∀ DD : ZEnds, HitD (fun x : D × List D => (x.1, [(a, .lst x.2)])) DD out → ZS { K := K } t Γ [(a, .lst box)] DD) : ZS { K := K } t Γ M { nx := fun _ M' => kk .non M', rt := kk } := by
  have key : ∀ G : Mem, ((G ++ [(a, MO.lst out.2)]) ++ M.eraseIdx i).Perm (M.set i (a, .lst out.2) ++ G) := fun G => by
    rw [List.append_assoc]
    exact List.perm_append_comm.trans ((perm_put hi).symm.append_right G)
  refine zs_fr (perm_pick hi) (h _ ⟨fun G => ⟨G, _, key G, hk⟩, fun e Γ' G => ⟨G, _, key G, ?_⟩⟩)
  have e' : out.1 = .non := e
  show kk .non _
  rw [← e']; exact hk
end Z
namespace Z
open PySem PySem.Spec PyProof.Rows L2
variable {c : Cz}
theorem zs_one {t : TS} {Γ : Gm} {M : Mem} {DD : ZEnds} (h : ZS c (tSeq t tNext) Γ M DD) : ZS c t Γ M DD := h
theorem own_t2 {K : Fg} {i j : Nat} {vs : List Nat} (hi : i ∈ vs) (hj : j ∈ vs) : Own (gTup K 2 (gCons (gName i) (gCons (gName j) gNil))) vs :=
  own_tup (owns_cons mono_name (mono_cons mono_name mono_nil) (own_name hi) (owns_cons mono_name mono_nil (own_name hj) owns_nil))
theorem own_t3 {K : Fg} {i j l : Nat} {vs : List Nat} (hi : i ∈ vs) (hj : j ∈ vs) (hl : l ∈ vs) : Own (gTup K 3 (gCons (gName i) (gCons (gName j) (gCons (gName l) gNil)))) vs :=
  own_tup (owns_cons mono_name (mono_cons mono_name (mono_cons mono_name mono_nil)) (own_name hi) (owns_cons mono_name (mono_cons mono_name mono_nil) (own_name hj) (owns_cons mono_name mono_nil (own_name hl) owns_nil)))
theorem own_t12 {K K' : Fg} {i j l : Nat} {vs : List Nat} (hi : i ∈ vs) (hj : j ∈ vs) (hl : l ∈ vs) : Own (gTup K 2 (gCons (gName i) (gCons (gTup K' 2 (gCons (gName j) (gCons (gName l) gNil))) gNil))) vs :=
  own_tup (owns_cons mono_name (mono_cons (mono_tup (mono_cons mono_name (mono_cons mono_name mono_nil))) mono_nil) (own_name hi) (owns_cons (mono_tup (mono_cons mono_name (mono_cons mono_name mono_nil))) mono_nil (own_t2 hj hl) owns_nil))
section
variable {α : Type} {Γ : Gm} {M : Mem} {out : α}
def ChK (c : Cz) (tc : TE) (r' : R2) (y : D) (Γ : Gm) (M : Mem) (b : Bool) (k : D → Mem → Prop) : Prop := (b = true → ZE c tc Γ M fun u M4 => ZR c r' y u M4 k) ∧ (b = false → k (.bl false) M)
theorem z_chain' {r r' : R2} {ta tb tc : TE} {k : D → Mem → Prop} (h : ZE c ta Γ M fun x M1 => ZE c tb Γ M1 fun y M2 => ZR c r x y M2 fun z M3 => ∃ b, z = .bl b ∧ ChK c tc r' y Γ M3 b k) : ZE c (tChain r r' ta tb tc) Γ M k := z_chain h
theorem y_chain {tc : TE} {r' : R2} {y : D} {m2 : Option Bool} {mr : Bool → Option α} {b : Bool} {k : D → Mem → Prop} (h : (if b = true then m2 else some false).bind mr = some out)
    (h2 : ∀ v, m2 = some v → ∀ k' : D → Mem → Prop, k' (.bl v) M → ZE c tc Γ M fun u M4 => ZR c r' y u M4 k') (hk : ∀ v, mr v = some out → k (.bl v) M) : ChK c tc r' y Γ M b k := by
  obtain ⟨v, e1, e2⟩ := Option.bind_eq_some_iff.mp h
  exact ⟨fun hb => h2 v (ifT hb e1) k (hk v e2), fun hb => by cases (ifF hb e1); exact hk _ e2⟩
theorem y_lfC {v v0 : Bool} {k : D → Mem → Prop} (h : some v = some v0) (hk : k (.bl v0) M) : k (.bl v) M := by cases h; exact hk
variable {kk : List D → Mem → Prop} {d e : D} {ds : List D}
theorem zi_zip0 {ta : TA} (h : ZA c ta Γ M fun ds M1 => ∃ xs ys, (ds = [.tup xs, .tup ys] ∨ ds = [.lst xs, .lst ys]) ∧ kk (zipD xs ys) M1) : ZI c (iZipZ c.K ta) Γ M kk := fun R F σ H Q hs L X q =>
  h R F σ H _ hs L X fun ws F1 H1 M1 ds e1 L1 r1 ⟨xs, ys, e, h1⟩ => by
    rcases e with e | e
    all_goals
      subst e
      obtain ⟨v, w, rfl, r2, r3⟩ := r1.two
    · obtain ⟨a, vs, rfl, p, rr⟩ := r2.of_tup
      obtain ⟨b, ws, rfl, p2, rr2⟩ := r3.of_tup
      exact ⟨a, b, vs, ws, rfl, .inr ⟨ex_t L1.fr p, ex_t L1.fr p2, q _ F1 H1 M1 _ e1 L1 (walks_zipT p rr p2 rr2) h1⟩⟩
    · obtain ⟨a, vs, rfl, p, rr⟩ := r2.of_lst
      obtain ⟨b, ws, rfl, p2, rr2⟩ := r3.of_lst
      exact ⟨a, b, vs, ws, rfl, .inl ⟨SqL.of (L1.fr _ _ p), SqL.of (L1.fr _ _ p2), q _ F1 H1 M1 _ e1 L1 (walks_zipL (SqL.of p) rr (SqL.of p2) rr2) h1⟩⟩
theorem zi_zip' {ta : TA} (h : ZA c ta Γ M fun xs M1 => ∃ d e ds, xs = [d, e] ∧ itZip d e = some ds ∧ kk ds M1) : ZI c (iZipZ c.K ta) Γ M kk := zi_zip0 (h.imp fun xs M1 ⟨d, e, ds, ee, h1, h2⟩ => by
  subst ee
  unfold itZip at h1
  split at h1
  · cases h1; exact ⟨_, _, .inl rfl, h2⟩
  · cases h1; exact ⟨_, _, .inr rfl, h2⟩
  · cases h1)
end
end Z
namespace Z
open PySem PySem.Spec PyProof.Rows L2
variable {c : Cz}
section
variable {Γ Γ' : Gm} {M M' : Mem} {DD : ZEnds} {t : TS} {i j : Nat} {a : Addr} {ds : List D}
/-- an owned list is handed on: it changes no more -/
theorem y_frz (hi : M[i]? = some (a, .lst ds)) (hj : Γ[j]? = some (some (.at a))) (hΓ : Γ.set j (some (.lst ds)) = Γ') (hM : M.eraseIdx i = M') (h : ZS c t Γ' M' DD) : ZS c t Γ M DD := by
  subst hΓ hM; exact zs_frz hi hj h
theorem y_forgetS (hM : M.eraseIdx i = M') (h : ZS c t Γ M' DD) : ZS c t Γ M DD := by
  subst hM; exact zs_forget h
theorem zs_par' {i j : Nat} {ta : TA} (h : ZA c ta Γ M fun ds M1 => ∃ x y Γ', ds = [x, y] ∧ (Γ.set i (some x)).set j (some y) = Γ' ∧ DD.nx Γ' M1) : ZS c (tPar i j ta) Γ M DD := zs_par (h.imp fun ds M1 ⟨x, y, Γ', e, e2, h2⟩ => ⟨x, y, e, by rw [e2]; exact h2⟩)
def dAugA : D → D → Option D
  | .int i, .int j => some (.int (i + j))
  | _, _ => none
theorem zs_aug' {te : TE} {f : Int → Int → Int} {n : Nat} {x : D} (hx : Γ[n]? = some (some x)) (h : ZE c te Γ M fun y M1 => ∃ i j, x = .int i ∧ y = .int j ∧ DD.nx (Γ.set n (some (.int (f i j)))) M1) : ZS c (tAug n te (ipI f)) Γ M DD := fun R F σ H D hs L X q => by
  obtain ⟨v, e, r⟩ := hs.at_ n _ hx
  refine ⟨_, e, h R F σ H _ hs L X fun w F1 H1 M1 d e1 L1 r1 ⟨i, j, ei, ej, hk⟩ => ?_⟩
  subst ei ej
  exact ⟨i, j, r.of_int, r1.of_int, q.nx _ F1 H1 M1 _ e1 L1 ((hs.mono e1).set n (.int _)) hk⟩
theorem zs_augA {te : TE} {n : Nat} {x : D} (hx : Γ[n]? = some (some x)) (h : ZE c te Γ M fun y M1 => ∃ z Γ', dAugA x y = some z ∧ Γ.set n (some z) = Γ' ∧ DD.nx Γ' M1) : ZS c (tAug n te (ipI fun i j => i + j)) Γ M DD := zs_aug' hx (h.imp fun y M1 ⟨z, Γ', h1, h2, h3⟩ => by
  unfold dAugA at h1
  split at h1
  · cases h1; exact ⟨_, _, rfl, rfl, by rw [h2]; exact h3⟩
  · cases h1)
theorem zs_augS {te : TE} {n : Nat} {x : D} (hx : Γ[n]? = some (some x)) (h : ZE c te Γ M fun y M1 => ∃ z Γ', dSub x y = some z ∧ Γ.set n (some z) = Γ' ∧ DD.nx Γ' M1) : ZS c (tAug n te (ipI fun i j => i - j)) Γ M DD := zs_aug' hx (h.imp fun y M1 ⟨z, Γ', h1, h2, h3⟩ => by
  unfold dSub at h1
  split at h1
  · cases h1; exact ⟨_, _, rfl, rfl, by rw [h2]; exact h3⟩
  · cases h1)
end
/-- a def whose new list may change -/
structure HitO {α : Type} (kd : α → List D × Mem) (DD : ZEnds) (out : α) : Prop where
  rt : ∀ p G1 G2, DD.rt (.at p) (G1 ++ (p, .lst (kd out).1) :: (G2 ++ (kd out).2))
theorem y_retO {α : Type} {kd : α → List D × Mem} {rt : D → Mem → Prop} {x out : α} {p : Addr} {M : Mem} (G1 G2 : Mem) (h : some x = some out) (hit : ∀ p G1 G2, rt (.at p) (G1 ++ (p, .lst (kd out).1) :: (G2 ++ (kd out).2))) (hM : G1 ++ (p, .lst (kd x).1) :: (G2 ++ (kd x).2) = M) : rt (.at p) M := by
  cases h; subst hM; exact hit p G1 G2
theorem zs_defO0 {K : Fg} {t : TS} {Γ : Gm} {M : Mem} {out : List D} {kk : D → Mem → Prop} (hk : ∀ p, kk (.at p) ((p, .lst out) :: M)) (h : ∀ DD : ZEnds, HitO (fun x : List D => (x, [])) DD out → ZS { K := K } t Γ [] DD) : ZS { K := K } t Γ M { nx := fun _ M' => kk .non M', rt := kk } := by
  refine zs_fr (M0 := []) (R0 := M) (.refl _) ((h { nx := fun _ _ => False, rt := fun d M' => ∃ G M2, (M' ++ M).Perm (M2 ++ G) ∧ kk d M2 } ⟨fun p G1 G2 => ⟨G1 ++ G2, (p, .lst out) :: M, ?_, hk p⟩⟩).imp (fun _ _ h => h.elim) (fun _ _ h => h) (fun _ _ h => h) (fun _ _ h => h))
  show ((G1 ++ (p, MO.lst out) :: (G2 ++ [])) ++ M).Perm ((p, MO.lst out) :: M ++ (G1 ++ G2))
  rw [List.append_nil]
  have e1 : (G1 ++ (p, MO.lst out) :: G2) ++ M = G1 ++ ((p, MO.lst out) :: (G2 ++ M)) := by simp
  rw [e1]
  refine List.perm_middle.trans ?_
  show ((p, MO.lst out) :: (G1 ++ (G2 ++ M))).Perm ((p, MO.lst out) :: (M ++ (G1 ++ G2)))
  refine List.Perm.cons _ ?_
  rw [← List.append_assoc]
  exact List.perm_append_comm
end Z
namespace Z
open PySem PySem.Spec PyProof.Rows L2
variable {c : Cz}
/-- a def that changes two lists -/
theorem perm_pick2 {M : Mem} {i j : Nat} {x y : Addr × MO} (hi : M[i]? = some x) (hj : M[j]? = some y) (hij : i ≠ j) : ∃ R0, M.Perm ([x, y] ++ R0) ∧ ∀ x' y', ((M.set i x').set j y').Perm ([x', y'] ++ R0) := by
  have fin : ∀ l, (M.eraseIdx i)[l]? = some y → (∀ x' y', ((M.set i x').set j y').eraseIdx i = (M.eraseIdx i).set l y') → ∃ R0, M.Perm ([x, y] ++ R0) ∧ ∀ x' y', ((M.set i x').set j y').Perm ([x', y'] ++ R0) := fun l hl he => by
    refine ⟨(M.eraseIdx i).eraseIdx l, (perm_pick hi).trans (List.Perm.append_left [x] (perm_pick hl)), fun x' y' => ?_⟩
    have hi2 : (M.set i x')[i]? = some x' := List.getElem?_set_self (List.getElem?_eq_some_iff.mp hi).1
    have hi3 : ((M.set i x').set j y')[i]? = some x' := by rw [List.getElem?_set_ne (Ne.symm hij)]; exact hi2
    refine (perm_pick hi3).trans (List.Perm.append_left [x'] ?_)
    rw [he x' y']
    exact perm_put hl
  rcases Nat.lt_or_ge j i with h | h
  · refine fin j (by rw [List.getElem?_eraseIdx, if_pos h]; exact hj) fun x' y' => ?_
    rw [List.eraseIdx_set_gt h, List.eraseIdx_set_eq]
  · refine fin (j - 1) (by rw [List.getElem?_eraseIdx, if_neg (by omega), show j - 1 + 1 = j by omega]; exact hj) fun x' y' => ?_
    rw [List.eraseIdx_set_lt (by omega), List.eraseIdx_set_eq]
theorem zs_def2 {K : Fg} {t : TS} {Γ : Gm} {M : Mem} {i j : Nat} {a b : Addr} {ba bb : List D} {out : D × List D × List D} {kk : D → Mem → Prop} (hi : M[i]? = some (a, .lst ba)) (hj : M[j]? = some (b, .lst bb)) (hij : i ≠ j) (hk : kk out.1 ((M.set i (a, .lst out.2.1)).set j (b, .lst out.2.2)))
    (h : ∀ DD : ZEnds, HitD (fun x : D × List D × List D => (x.1, [(a, .lst x.2.1), (b, .lst x.2.2)])) DD out → ZS { K := K } t Γ [(a, .lst ba), (b, .lst bb)] DD) : ZS { K := K } t Γ M { nx := fun _ M' => kk .non M', rt := kk } := by
  obtain ⟨R0, p1, p2⟩ := perm_pick2 hi hj hij
  have key : ∀ G : Mem, ((G ++ [(a, MO.lst out.2.1), (b, MO.lst out.2.2)]) ++ R0).Perm ((M.set i (a, .lst out.2.1)).set j (b, .lst out.2.2) ++ G) := fun G => by
    rw [List.append_assoc]
    exact List.perm_append_comm.trans ((p2 _ _).symm.append_right G)
  refine zs_fr p1 (h _ ⟨fun G => ⟨G, _, key G, hk⟩, fun e Γ' G => ⟨G, _, key G, ?_⟩⟩)
  have e' : out.1 = .non := e
  show kk .non _
  rw [← e']; exact hk
end Z
namespace Z
open PySem PySem.Spec PyProof.Rows L2
variable {c : Cz}
/-! ### sorted -/
def leI (a b : Int) : Bool := decide (a ≤ b)
def sortI (ns : List Int) : List Int := ns.mergeSort leI
theorem sortI_perm (ns : List Int) : (sortI ns).Perm ns := List.mergeSort_perm ns leI
theorem sortI_sorted (ns : List Int) : (sortI ns).Pairwise (· ≤ ·) := by
  have h := List.pairwise_mergeSort (le := leI) (fun a b c h1 h2 => by simp only [leI, decide_eq_true_eq] at *; omega) (fun a b => by simp only [leI, Bool.or_eq_true, decide_eq_true_eq]; omega) ns
  exact h.imp fun h => of_decide_eq_true h
theorem uniq_by {α : Type} {f : α → Int} : ∀ {l m : List α}, l.Perm m → l.Pairwise (fun x y => f x ≤ f y) → m.Pairwise (fun x y => f x ≤ f y) → (∀ x ∈ l, ∀ y ∈ l, f x = f y → x = y) → l = m
  | [], m, h, _, _, _ => (List.perm_nil.mp h.symm).symm
  | x :: l, m, h, h1, h2, hi => by
    cases m with
    | nil => exact absurd (List.perm_nil.mp h) (by simp)
    | cons y m =>
      obtain ⟨a1, a2⟩ := List.pairwise_cons.mp h1
      obtain ⟨b1, b2⟩ := List.pairwise_cons.mp h2
      have hx : x ∈ y :: m := h.mem_iff.mp List.mem_cons_self
      have hy : y ∈ x :: l := h.mem_iff.mpr List.mem_cons_self
      have e1 : f y ≤ f x := by rcases List.mem_cons.mp hx with e | e; rw [e]; exact Int.le_refl _; exact b1 x e
      have e2 : f x ≤ f y := by rcases List.mem_cons.mp hy with e | e; rw [e]; exact Int.le_refl _; exact a1 y e
      have hxy : x = y := hi x List.mem_cons_self y hy (by omega)
      subst hxy
      rw [uniq_by (List.Perm.cons_inv h) a2 b2 fun z hz w hw => hi z (List.mem_cons_of_mem _ hz) w (List.mem_cons_of_mem _ hw)]
def asIR : D → Option (Int × List D)
  | .tup [.int i, .tup ds] => some (i, ds)
  | _ => none
def asIRs : List D → Option (List (Int × List D))
  | [] => some []
  | d :: ds => (asIR d).bind fun p => (asIRs ds).bind fun ps => some (p :: ps)
theorem asIR_eq {d : D} {p : Int × List D} (h : asIR d = some p) : d = irD p := by
  unfold asIR at h
  split at h
  · cases h; rfl
  · cases h
theorem asIRs_eq : ∀ {ds : List D} {ps : List (Int × List D)}, asIRs ds = some ps → ds = ps.map irD
  | [], ps, h => by cases h; rfl
  | d :: ds, ps, h => by
    unfold asIRs at h
    obtain ⟨p, h1, h⟩ := Option.bind_eq_some_iff.mp h
    obtain ⟨qs, h2, h⟩ := Option.bind_eq_some_iff.mp h
    cases h
    rw [asIR_eq h1, asIRs_eq h2]; rfl
theorem asIRs_map : ∀ ps : List (Int × List D), asIRs (ps.map irD) = some ps
  | [] => rfl
  | p :: ps => by
    rw [List.map_cons]; unfold asIRs; rw [asIRs_map ps]; rfl
def leK (p q : Int × List D) : Bool := decide (p.1 ≤ q.1)
def sortK (ps : List (Int × List D)) : List (Int × List D) := ps.mergeSort leK
theorem sortK_perm (ps : List (Int × List D)) : (sortK ps).Perm ps := List.mergeSort_perm ps leK
theorem sortK_sorted (ps : List (Int × List D)) : (sortK ps).Pairwise (fun p q => p.1 ≤ q.1) := by
  have h := List.pairwise_mergeSort (le := leK) (fun a b c h1 h2 => by simp only [leK, decide_eq_true_eq] at *; omega) (fun a b => by simp only [leK, Bool.or_eq_true, decide_eq_true_eq]; omega) ps
  exact h.imp fun h => of_decide_eq_true h
def dSort (d : D) : Option D := (itemsL d).bind fun ds => match asInts ds with
  | some ns => some (.lst ((sortI ns).map .int))
  | none => (asIRs ds).bind fun ps => if (ps.map (·.1)).Nodup then some (.lst ((sortK ps).map irD)) else none
theorem nodup_inj {α : Type} {f : α → Int} : ∀ {l : List α}, (l.map f).Nodup → ∀ x ∈ l, ∀ y ∈ l, f x = f y → x = y
  | [], _, x, hx, _, _, _ => absurd hx List.not_mem_nil
  | z :: l, h, x, hx, y, hy, e => by
    rw [List.map_cons] at h
    obtain ⟨h1, h2⟩ := List.nodup_cons.mp h
    rcases List.mem_cons.mp hx with hx | hx
    · rcases List.mem_cons.mp hy with hy | hy
      · rw [hx, hy]
      · exact absurd (List.mem_map.mpr ⟨y, hy, by rw [← e, hx]⟩) h1
    · rcases List.mem_cons.mp hy with hy | hy
      · exact absurd (List.mem_map.mpr ⟨x, hx, by rw [e, hy]⟩) h1
      · exact nodup_inj h2 x hx y hy e
theorem y_sort {M : Mem} {k : D → Mem → Prop} {dx x z : D} (vx : View M dx x) (h : dSort x = some z) (hk : k z M) : ZC c (rSortZ c.K) [dx] M k := by
  unfold dSort at h
  obtain ⟨ds, h1, h⟩ := Option.bind_eq_some_iff.mp h
  cases e : asInts ds with
  | some ns =>
    rw [e] at h
    cases h
    refine zc_sortI (ns := ns) (by rw [← asInts_eq e]; exact vx.sl h1) fun ns' hp hs => ?_
    have := uniq_by (f := id) (hp.trans (sortI_perm ns).symm) hs (sortI_sorted ns) (fun _ _ _ _ e => e)
    rw [this]; exact hk
  | none =>
    rw [e] at h
    obtain ⟨ps, h2, h⟩ := Option.bind_eq_some_iff.mp h
    split at h
    · rename_i hn
      cases h
      refine zc_sortF (ps := ps) (by rw [← asIRs_eq h2]; exact vx.sl h1) hn fun ps' hp hs => ?_
      have := uniq_by (f := fun p : Int × List D => p.1) (hp.trans (sortK_perm ps).symm) hs (sortK_sorted ps) (fun x hx y hy e => nodup_inj hn x (hp.mem_iff.mp hx) y (hp.mem_iff.mp hy) e)
      rw [this]; exact hk
    · cases h
end Z
set_option Elab.async false
set_option linter.all false
set_option maxRecDepth 100000
set_option maxHeartbeats 4000000
/-! YStr: texts, constants of the module, defs with a star parameter. -/
namespace Z
open PySem PySem.Spec PyProof.Rows L2
variable {c : Cz}
/-! ### texts -/
theorem boot_str' : bootBuiltins "str" = some (.type "str") := by decide +kernel
def rStrZ : List V → Hp → VK → Prop := fun xs H Q => ∃ i : Int, xs = [.int i] ∧ i.natAbs.log2 < 1920 ∧ Q (.str (toString i)) H
theorem cz_str {X : Cx} : CallR X (.type "str") rStrZ := call_str_int
def dStr : D → Option D
  | .int i => gd (decide (i.natAbs.log2 < 1920)) (.str (toString i : Str))
  | _ => none
def dFmt : D → Option D
  | .int i => gd (decide (i.natAbs.log2 < 1920)) (.str (toString i : Str))
  | .str z => gd (decide (z.length ≤ sizeLine)) (.str z)
  | _ => none
def tJoined (ts : List TE) : TE := fun σ H Q => tJs ts Str.empty σ H fun out H1 => Q (.str out) H1
def dJ (acc : Str) : D → Option Str
  | .str y => if (acc ++ y).length ≤ sizeLine then some (acc ++ y) else none
  | _ => none
section
variable {Γ : Gm} {M : Mem} {k : D → Mem → Prop} {x y z dx dy : D} {b : Bool}
theorem y_str (h : dStr x = some z) (hk : k z M) : ZC c rStrZ [x] M k := fun R F H vs Q L r q => by
  obtain ⟨v, rfl, r1⟩ := r.one1
  unfold dStr at h
  split at h
  · obtain ⟨h1, rfl⟩ := gd_some h
    rw [r1.of_int]
    exact ⟨_, rfl, of_decide_eq_true h1, q _ F H M _ (Ex.refl F) L (.str _) hk⟩
  · cases h
theorem z_fmt {te : TE} (h : ZE c te Γ M fun d M1 => ∃ z, dFmt d = some z ∧ k z M1) : ZE c (tFmt te) Γ M k := fun R F σ H Q hs L X q =>
  h R F σ H _ hs L X fun v F1 H1 M1 d e1 L1 r1 ⟨z, hz, hk⟩ => by
    unfold dFmt at hz
    split at hz
    · obtain ⟨h1, rfl⟩ := gd_some hz
      exact .inr ⟨_, r1.of_int, of_decide_eq_true h1, q _ F1 H1 M1 _ e1 L1 (.str _) hk⟩
    · obtain ⟨h1, rfl⟩ := gd_some hz
      exact .inl ⟨_, r1.of_str, of_decide_eq_true h1, q _ F1 H1 M1 _ e1 L1 (.str _) hk⟩
    · cases hz
/-- the parts, one behind another -/
def ZJ (c : Cz) (ts : List TE) (acc : Str) (Γ : Gm) (M : Mem) (k : Str → Mem → Prop) : Prop := ∀ (R : Mem) (F : Hp) (σ : L2.St) (H : Hp) (Q : Str → Hp → Prop), Has c.K F σ Γ → Lay c.K F (M ++ R) H → XOk c R F →
  KOk (fun _ (o : Str) o' => o = o') c.K R F k Q → tJs ts acc σ H Q
theorem zj_nil {acc : Str} {k : Str → Mem → Prop} (h : k acc M) : ZJ c [] acc Γ M k := fun R F σ H Q hs L X q => q acc F H M acc (Ex.refl F) L rfl h
theorem zj_cons {t : TE} {ts : List TE} {acc : Str} {k : Str → Mem → Prop} (h : ZE c t Γ M fun d M1 => ∃ a', dJ acc d = some a' ∧ ZJ c ts a' Γ M1 k) : ZJ c (t :: ts) acc Γ M k := fun R F σ H Q hs L X q =>
  h R F σ H _ hs L X fun v F1 H1 M1 d e1 L1 r1 ⟨a', h1, h2⟩ => by
    unfold dJ at h1
    split at h1
    · split at h1
      · rename_i hl
        cases h1
        exact ⟨_, r1.of_str, hl, h2 R F1 σ H1 Q (hs.mono e1) L1 (X.mono e1) (q.mono e1)⟩
      · cases h1
    · cases h1
theorem z_joined {ts : List TE} (h : ZJ c ts Str.empty Γ M fun out M1 => k (.str out) M1) : ZE c (tJoined ts) Γ M k := fun R F σ H Q hs L X q =>
  h R F σ H _ hs L X fun out F1 H1 M1 out' e1 L1 r1 h1 => by
    subst r1
    exact q _ F1 H1 M1 _ e1 L1 (.str _) h1
theorem p_joined {X : Cx} {v1 v2 : Expr} {rest : List Expr} {ts : List TE} {pos : Pos} (h : PJ X (v1 :: v2 :: rest) ts) : PE X (.JoinedStr (v1 :: v2 :: rest) pos) (tJoined ts) := pe_joined h
/-! in -/
def rInS (n : Bool) : R2 := fun x y H Q => ∃ (c : Nat) (z : Str), x = .str ⟨#[c]⟩ ∧ y = .str z ∧ Q (.bl (if n then !decide (c ∈ z.cps.toList) else decide (c ∈ z.cps.toList))) H
def rInY (K : Fg) (n : Bool) : R2 := fun x y H Q => rIn K n x y H Q ∨ rInS n x y H Q
def bInY (x y : D) : Option Bool := match x, y with
  | .str s, .str z => match s.cps.toList with
    | [c] => if s = ⟨#[c]⟩ then some (decide (c ∈ z.cps.toList)) else none
    | _ => none
  | x, y => bIn x y
section
variable {X : Cx} {a e : Expr} {ta tb : TE} {pos : Pos}
theorem op_inY : OpR X (compareOp .In) (rInY X.K false) := op_in_seq.or op_in_sign
theorem op_notInY : OpR X (compareOp .NotIn) (rInY X.K true) := op_notIn_seq.or op_notIn_sign
theorem p_inY (ha : PE X a ta) (hb : PE X e tb) (hm : behindInMarks .In e = false := by rfl) : PE X (.Compare a [.In] [e] pos) (tOp (rInY X.K false) ta tb) := pe_cmpR op_inY ha hb hm
theorem p_notInY (ha : PE X a ta) (hb : PE X e tb) (hm : behindInMarks .NotIn e = false := by rfl) : PE X (.Compare a [.NotIn] [e] pos) (tOp (rInY X.K true) ta tb) := pe_cmpR op_notInY ha hb hm
theorem q_inY (ha : PE X a ta) (hb : PE X e tb) (hm : behindInMarks .In e = false := by rfl) : PT X (.Compare a [.In] [e] pos) (tTest (tOp (rInY X.K false) ta tb)) := pt_cmpR op_inY ha hb hm
theorem q_notInY (ha : PE X a ta) (hb : PE X e tb) (hm : behindInMarks .NotIn e = false := by rfl) : PT X (.Compare a [.NotIn] [e] pos) (tTest (tOp (rInY X.K true) ta tb)) := pt_cmpR op_notInY ha hb hm
end
theorem y_inB {n : Bool} (vx : View M dx x) (vy : View M dy y) (h : bInY x y = some b) (hk : k (.bl (if n then !b else b)) M) : ZR c (rInY c.K n) dx dy M k := fun R F H v w Q L r1 r2 q => by
  unfold bInY at h
  split at h
  · split at h
    · split at h
      · rename_i hs
        cases h
        rw [vx.str] at r1
        rw [vy.str] at r2
        rw [hs] at r1
        exact .inr ⟨_, _, r1.of_str, r2.of_str, q _ F H M _ (Ex.refl F) L (.bl _) hk⟩
      · cases h
    · cases h
  · cases n with
    | false => exact .inl (y_in (c := c) vx vy h hk R F H v w Q L r1 r2 q)
    | true => exact .inl (y_notIn (c := c) vx vy h hk R F H v w Q L r1 r2 q)
theorem y_inY (vx : View M dx x) (vy : View M dy y) (h : bInY x y = some b) (hk : k (.bl b) M) : ZR c (rInY c.K false) dx dy M k := y_inB vx vy h hk
theorem y_notInY (vx : View M dx x) (vy : View M dy y) (h : bInY x y = some b) (hk : k (.bl (!b)) M) : ZR c (rInY c.K true) dx dy M k := y_inB vx vy h hk
/-! methods of texts -/
def rFindZ : V → List V → Hp → VK → Prop := fun x xs H Q => ∃ a b, x = .str a ∧ xs = [.str b] ∧ Q (.int (Txt.find a b)) H
theorem mt_findZ {X : Cx} : MtR X "str.find" rFindZ := mt_find
def dFind : D → D → Option D
  | .str a, .str b => some (.int (Txt.find a b))
  | _, _ => none
theorem z_bmS {r : V → List V → Hp → VK → Prop} {to : TE} {ta : TA} (h : ZE c to Γ M fun d M1 => (∃ s, d = .str s) ∧ ZA c ta Γ M1 fun xs M2 => ZM c r d xs M2 k) : ZE c (tBM c.K "str" r to ta) Γ M k := fun R F σ H Q hs L X q =>
  h R F σ H _ hs L X fun v F1 H1 M1 d e1 L1 r1 ⟨⟨s, es⟩, h1⟩ => by
    subst es
    refine ⟨by rw [r1.of_str]; rfl, h1 R F1 σ H1 _ (hs.mono e1) L1 (X.mono e1) fun ws F2 H2 M2 xs e2 L2 r2 h2 => h2 R F2 H2 _ ws Q L2 (r1.mono e2) r2 (q.mono (e1.trans e2))⟩
theorem dFind_str (h : dFind x y = some z) : ∃ s, x = .str s := by
  unfold dFind at h
  split at h
  · exact ⟨_, rfl⟩
  · cases h
def isS : D → Option Str
  | .str s => some s
  | _ => none
theorem isS_ok {s : Str} (h : isS x = some s) : ∃ s, x = .str s := by
  unfold isS at h
  split at h
  · exact ⟨_, rfl⟩
  · cases h
theorem y_find (h : dFind x y = some z) (hk : k z M) : ZM c rFindZ x [y] M k := fun R F H v vs Q L r rs q => by
  obtain ⟨w, rfl, r2⟩ := rs.one1
  unfold dFind at h
  split at h
  · cases h
    rw [r.of_str, r2.of_str]
    exact ⟨_, _, rfl, rfl, q _ F H M _ (Ex.refl F) L (.int _) hk⟩
  · cases h
/-! texts walked -/
def itStr : D → Option (List D)
  | .str z => some (signsD z)
  | d => itSeq d
theorem zi_seqY {tl : TE} {kk : List D → Mem → Prop} (h : ZE c tl Γ M fun d M1 => ∃ ds, itStr d = some ds ∧ kk ds M1) : ZI c (iSeqZ c.K tl) Γ M kk := fun R F σ H Q hs L X q =>
  h R F σ H _ hs L X fun v F1 H1 M1 d e1 L1 r1 ⟨ds, hd, h1⟩ => by
    cases d with
    | str z =>
      cases hd
      exact .inr (.inr ⟨z, r1.of_str, q _ F1 H1 M1 _ e1 L1 walks_str h1⟩)
    | tup xs =>
      cases hd
      obtain ⟨a, vs, rfl, p, rr⟩ := r1.of_tup
      exact .inr (.inl ⟨a, rfl, ⟨vs, ex_t L1.fr p⟩, q _ F1 H1 M1 _ e1 L1 (walks_tup p rr) h1⟩)
    | lst xs =>
      cases hd
      obtain ⟨a, vs, rfl, p, rr⟩ := r1.of_lst
      exact .inl ⟨a, rfl, ⟨vs, SqL.of (L1.fr _ _ p)⟩, q _ F1 H1 M1 _ e1 L1 (walks_list (SqL.of p) rr) h1⟩
    | scr xs =>
      cases hd
      obtain ⟨a, vs, rfl, p, rr⟩ := r1.of_scr
      exact .inl ⟨a, rfl, ⟨vs, ex_l L1.fr p⟩, q _ F1 H1 M1 _ e1 L1 (walks_list p rr) h1⟩
    | _ => cases hd
end
end Z
set_option Elab.async false
set_option linter.all false
set_option maxRecDepth 100000
set_option maxHeartbeats 4000000
/-! YFn: constants of the module, defs with a star parameter. -/
namespace Z
open PySem PySem.Spec PyProof.Rows L2
variable {c : Cz}
/-! ### constants -/
mutual
def okD (K : Fg) : D → Value → Bool
  | .non, .none => true
  | .bl b, .bool d => b == d
  | .int i, .int j _ => decide (i = j)
  | .str s, .str z _ => decide (s = z)
  | .tup ds, .ref a => match K.lookup a with
    | some o => decide (o.cls = Value.type "tuple") && (match o.data with
      | .seq its _ => decide (its.size ≤ sizeLine) && okDs K ds its.toList
      | _ => false)
    | none => false
  | _, _ => false
def okDs (K : Fg) : List D → List Value → Bool
  | [], [] => true
  | d :: ds, v :: vs => okD K d v && okDs K ds vs
  | _, _ => false
end
mutual
theorem okD_ok {K : Fg} : ∀ (d : D) (v : Value), okD K d v = true → ∃ x, RelV x v ∧ ∀ F, Rp K F x d
  | .non, v, h => by
    cases v <;> first | exact ⟨.non, rfl, fun _ => .non⟩ | cases h
  | .bl b, v, h => by
    cases v <;> first | cases h | skip
    unfold okD at h
    rw [beq_iff_eq] at h
    subst h
    exact ⟨.bl b, rfl, fun _ => .bl b⟩
  | .int i, v, h => by
    cases v <;> first | cases h | skip
    unfold okD at h
    have h := of_decide_eq_true h
    subst h
    exact ⟨.int i, ⟨_, rfl⟩, fun _ => .int i⟩
  | .str i, v, h => by
    cases v <;> first | cases h | skip
    unfold okD at h
    have h := of_decide_eq_true h
    subst h
    exact ⟨.str i, ⟨_, rfl⟩, fun _ => .str i⟩
  | .tup ds, v, h => by
    cases v <;> first | cases h | skip
    rename_i a
    unfold okD at h
    cases e : K.lookup a with
    | none => rw [e] at h; cases h
    | some o =>
      rw [e] at h
      dsimp only at h
      rw [Bool.and_eq_true] at h
      obtain ⟨h1, h2⟩ := h
      cases e2 : o.data with
      | seq its n =>
        rw [e2] at h2
        dsimp only at h2
        rw [Bool.and_eq_true] at h2
        obtain ⟨xs, hx, hr⟩ := okDs_ok ds its.toList h2.2
        exact ⟨.ref a, rfl, fun F => .mk_tup (.inr ⟨o, its, n, e, of_decide_eq_true h1, e2, of_decide_eq_true h2.1, hx⟩) (hr F)⟩
      | _ => rw [e2] at h2; cases h2
  | .lst _, v, h => by cases v <;> cases h
  | .scr _, v, h => by cases v <;> cases h
  | .ty _, v, h => by cases v <;> cases h
  | .obj _ _, v, h => by cases v <;> cases h
  | .at _, v, h => by cases v <;> cases h
theorem okDs_ok {K : Fg} : ∀ (ds : List D) (vs : List Value), okDs K ds vs = true → ∃ xs, Vals xs vs ∧ ∀ F, Rps K F xs ds
  | [], [], _ => ⟨[], .nil, fun _ => .nil⟩
  | d :: ds, v :: vs, h => by
    unfold okDs at h
    rw [Bool.and_eq_true] at h
    obtain ⟨x, r, p⟩ := okD_ok d v h.1
    obtain ⟨xs, rs, ps⟩ := okDs_ok ds vs h.2
    exact ⟨x :: xs, .cons r rs, fun F => .cons (p F) (ps F)⟩
  | [], _ :: _, h => by cases h
  | _ :: _, [], h => by cases h
end
def constB (K : Fg) (x : Str) (d : D) : Bool := match PySem.W.nsIn K mainGlobals x with
  | some (some v) => okD K d v
  | _ => false
/-- the module's constant x is d -/
structure Cst (K : Fg) (mg : Str → Option Value) (x : Str) (v : V) (d : D) : Prop where
  g : ∃ u, mg x = some u ∧ RelV v u
  r : ∀ F, Rp K F v d
theorem const_ok {K : Fg} {h : Heap} {mg : Str → Option Value} (X : K.In h) (G : h.Ns mainGlobals mg) {x : Str} {d : D} (hc : constB K x d = true) : ∃ v, Cst K mg x v d := by
  unfold constB at hc
  cases e : PySem.W.nsIn K mainGlobals x with
  | none => rw [e] at hc; cases hc
  | some o =>
    rw [e] at hc
    cases o with
    | none => cases hc
    | some u =>
      obtain ⟨v, r, p⟩ := okD_ok d u hc
      exact ⟨v, ⟨u, PySem.W.mg_of X G e, r⟩, p⟩
theorem pe_cst {X : Cx} {x : Str} {v : V} {d : D} {pos : Pos} (hc : Cst X.K X.mg x v d) (hg : Gl X x := by rfl) (hd : (x == ("__debug__" : Str)) = false := by decide) : PE X (.Name x pos) (tC v) := by
  obtain ⟨u, h1, h2⟩ := hc.g
  exact pe_glob hg h1 h2 hd
/-! ### a def called by its positional arguments -/
structure FnZR (P : Program) (w : World) (K : Fg) (mg : Str → Option Value) (base : Heap) (x : Str) (k : Nat) (S : ZSp) : Prop where
  ex : ∃ f, FnR P w K mg base CX0 k f (toSp K S) ∧ mg x = some (.ref f) ∧ PySem.W.keepIn K (.ref f) = true
section
variable {X : Cx} {k : Nat} {S : ZSp} {x : Str} {e : Expr} {es : List Expr} {t : TA} {p pos : Pos}
theorem p_callR {j : Nat} (G : FnZR X.prog X.w X.K X.mg X.base x k S) (hr : Room j X.A) (ha : PA X (e :: es) t) (hj : k ≤ j := by decide) (hg : Gl X x := by rfl) (hdb : (x == ("__debug__" : Str)) = false := by decide)
    (he : starEach (e :: es) X.env = (false, eval e X.env) :: starEach es X.env := by rfl) (hpl : (backTo pos (starEach es X.env)).any (·.1) = false := by rfl) : PE X (.Call (.Name x p) (e :: es) [] pos) (tCB (zcall X.K S) t) := by
  obtain ⟨f, F, hm, hk⟩ := G.ex
  refine ⟨fun pins s σ H Q I h => ?_⟩
  refine wpAny_Call_Name_kw (ld_glob I hg hm ?_ hdb)
  refine PySem.W.callWith_K (h₀ := X.base) I.ok.mod.kin hk (thn (ha.run pos pins s σ H _ I h) fun us s1 ⟨vs, H1, I1, r, q⟩ => ⟨I1.kIn, ?_⟩) he hpl
  exact wpAny_call (run_fnR F (hr.mono hj) pass0 I1 r q)
theorem p_callR0 {j : Nat} (G : FnZR X.prog X.w X.K X.mg X.base x k S) (hr : Room j X.A) (hj : k ≤ j := by decide) (hg : Gl X x := by rfl) (hdb : (x == ("__debug__" : Str)) = false := by decide) : PE X (.Call (.Name x p) [] [] pos) (tCB (zcall X.K S) tNil) := by
  obtain ⟨f, F, hm, hk⟩ := G.ex
  refine ⟨fun pins s σ H Q I h => ?_⟩
  refine wpAny_Call_Name_kw (ld_glob I hg hm ?_ hdb)
  exact PySem.W.callWith_K0 I.kIn hk (wpAny_call (run_fnR (us := []) (vs := []) F (hr.mono hj) pass0 I .nil h))
end
def SStar (n : Nat) (S : ZSp) : ZSp := fun ds M k => ∃ ws rest, ds = ws ++ rest ∧ ws.length = n ∧ rest.length ≤ sizeLine ∧ S (ws ++ [.tup rest]) M k
section
variable {P : Program} {w : World} {K : Fg} {mg : Str → Option Value} {base : Heap} {x qual : Str} {params : Arguments} {body : List Stmt} {scope : Scope} {f : Addr} {fd : FuncData} {N ps : List Str} {k : Nat}
theorem rps_split {F : Hp} : ∀ {vs : List V} {ws rest : List D}, Rps K F vs (ws ++ rest) → ∃ v1 v2, vs = v1 ++ v2 ∧ Rps K F v1 ws ∧ Rps K F v2 rest
  | vs, [], rest, h => ⟨[], vs, rfl, .nil, h⟩
  | vs, w :: ws, rest, h => by
    obtain ⟨v, vs', rfl, r1, r2⟩ := Rps.uncons (d := w) (ds := ws ++ rest) h
    obtain ⟨v1, v2, rfl, r3, r4⟩ := rps_split r2
    exact ⟨v :: v1, v2, rfl, .cons r1 r3, r4⟩
theorem fn_zstar {pv : Str} (F : FunD K x qual params body scope [] [] f fd) (Sc : FnScope N (ps ++ [pv]) scope) (S : ZSp) (t : TS)
    (hb : ∀ (dV kV doc pm : Value) (an : Option Addr) (cdv ct : Value) (us rest : List Value), us.length = ps.length → bindArgs (PySem.W.fnOf x qual params body scope dV kV doc pm an cdv ct) ⟨us ++ rest, []⟩ = (newTuple rest >>= fun t => pure (ps.zip us ++ [(pv, t)])))
    (ht : ∀ (cdv : Value) (A : Around) (outer : List Env) (s : Shared) (H : Hp) (E : XK), Room k (A.deeper (envOfC qual scope s.heap.objs.size f cdv)) → PSs (cxOf CX0 P w K mg base N qual scope f cdv A outer s H E).nox body t)
    (hz : ∀ ds M kk, S ds M kk → ZS { K := K } t (startD N ds) M { nx := fun _ M' => kk .non M', rt := kk }) : FnR P w K mg base CX0 (k + 1) f (toSp K (SStar ps.length S)) := by
  obtain ⟨oc, od, dV, kV, doc, pm, an, cdv, ct, osl, rfl, lk, hcd, hD, hK⟩ := F.ex
  refine (StX.fn_star (sp := toSp K S) lk hcd Sc StX.cxUp_none (hb dV kV doc pm an cdv ct) fun A outer s H vs Q E hr ⟨R, F, M, ds, kk, L, r, sp, q⟩ => ⟨t, (ht cdv A outer s H E hr).nox, ?_⟩).imp fun vs H Q E ⟨R, F, M, ds, kk, L, r, ⟨ws, rest, e, hl, hz, hs⟩, q⟩ => ?_
  · refine hz ds M kk sp R F _ H _ (has_start r) L (fun _ _ _ _ _ _ _ _ _ _ _ _ h => h) ⟨fun σ' F' H' M' Γ' e L' hs' h' => q .non F' H' M' .non e L' .non h', fun v F' H' M' d e L' r' h' => q v F' H' M' d e L' r' h', fun σ' F' H' M' Γ' e L' hs' h' => h'.elim, fun σ' F' H' M' Γ' e L' hs' h' => h'.elim⟩
  · subst e
    obtain ⟨v1, v2, rfl, r1, r2⟩ := rps_split r
    refine ⟨v1, v2, rfl, by rw [r1.len]; exact hl, by rw [r2.len]; exact hz, fun p hp => ?_⟩
    have ex := ex_upd (o := .tup v2) (L.free hp)
    exact ⟨R, _, M, ws ++ [.tup rest], kk, L.new hp, (r1.mono ex).append (.one (.mk_tup (SqT.of upd_same) (r2.mono ex))), hs, q.mono ex⟩
theorem fnzr_of {S : ZSp} (F : FunD K x qual params body scope [] [] f fd) (G : FnR P w K mg base CX0 k f (toSp K S)) (hm : mg x = some (.ref f)) : FnZR P w K mg base x k S := ⟨f, G, hm, F.kp⟩
end
end Z
namespace Z
open PySem PySem.Spec PyProof.Rows L2
variable {c : Cz}
section
variable {S α : Type} {Γ : Gm} {M : Mem} {out : α}
theorem y_andVX {tb : TE} (Ms : S → Mem) {m2 : Option (D × S)} {mr : D → S → Option α} {b : Bool} {s : S} {k : D → Mem → Prop} (h : bp (if b = true then m2 else some (.bl false, s)) mr = some out) (h2 : ∀ v s', m2 = some (v, s') → ∀ k' : D → Mem → Prop, k' v (Ms s') → ZE c tb Γ (Ms s) k')
    (hM : Ms s = M) (hk : ∀ v s', mr v s' = some out → k v (Ms s')) : AndV c tb Γ M b k := by
  subst hM
  unfold bp at h
  obtain ⟨⟨v, s'⟩, e1, e2⟩ := Option.bind_eq_some_iff.mp h
  exact ⟨fun hb => h2 v s' (ifT hb e1) k (hk v s' e2), fun hb => by cases (ifF hb e1); exact hk _ _ e2⟩
theorem y_orVX {tb : TE} (Ms : S → Mem) {m2 : Option (D × S)} {mr : D → S → Option α} {b : Bool} {s : S} {k : D → Mem → Prop} (h : bp (if b = true then some (.bl true, s) else m2) mr = some out) (h2 : ∀ v s', m2 = some (v, s') → ∀ k' : D → Mem → Prop, k' v (Ms s') → ZE c tb Γ (Ms s) k')
    (hM : Ms s = M) (hk : ∀ v s', mr v s' = some out → k v (Ms s')) : OrV c tb Γ M b k := by
  subst hM
  unfold bp at h
  obtain ⟨⟨v, s'⟩, e1, e2⟩ := Option.bind_eq_some_iff.mp h
  exact ⟨fun hb => by cases (ifT hb e1); exact hk _ _ e2, fun hb => h2 v s' (ifF hb e1) k (hk v s' e2)⟩
theorem y_ifEX {ta tb : TE} (Ms : S → Mem) {mA mB : Option (D × S)} {mr : D → S → Option α} {b : Bool} {s : S} {k : D → Mem → Prop} (h : bp (if b = true then mA else mB) mr = some out) (hA : ∀ v s', mA = some (v, s') → ∀ k' : D → Mem → Prop, k' v (Ms s') → ZE c ta Γ (Ms s) k') (hB : ∀ v s', mB = some (v, s') → ∀ k' : D → Mem → Prop, k' v (Ms s') → ZE c tb Γ (Ms s) k')
    (hM : Ms s = M) (hk : ∀ v s', mr v s' = some out → k v (Ms s')) : IfE c ta tb Γ M b k := by
  subst hM
  unfold bp at h
  obtain ⟨⟨v, s'⟩, e1, e2⟩ := Option.bind_eq_some_iff.mp h
  exact ⟨fun hb => hA v s' (ifT hb e1) k (hk v s' e2), fun hb => hB v s' (ifF hb e1) k (hk v s' e2)⟩
end
end Z
set_option Elab.async false
set_option linter.all false
set_option maxRecDepth 100000
set_option maxHeartbeats 4000000
/-! YHead: a def with a star parameter. -/
namespace Z
open PySem PySem.Spec PyProof.Rows L2
section
variable {P : Program} {w : World} {K : Fg} {mg : Str → Option Value} {base : Heap} {x qual : Str} {params : Arguments} {body : List Stmt} {scope : Scope} {f : Addr} {fd : FuncData} {N ps : List Str} {k : Nat}
theorem fn_zstar0 {pv : Str} (F : FunD K x qual params body scope [] [] f fd) (Sc : FnScope N (ps ++ [pv]) scope) (S : ZSp) (t : TS)
    (hb : ∀ (kV doc pm : Value) (an : Option Addr) (cdv ct : Value) (us rest : List Value), us.length = ps.length → bindArgs (PySem.W.fnOf x qual params body scope .none kV doc pm an cdv ct) ⟨us ++ rest, []⟩ = (newTuple rest >>= fun t => pure (ps.zip us ++ [(pv, t)])))
    (ht : ∀ (cdv : Value) (A : Around) (outer : List Env) (s : Shared) (H : Hp) (E : XK), Room k (A.deeper (envOfC qual scope s.heap.objs.size f cdv)) → PSs (cxOf CX0 P w K mg base N qual scope f cdv A outer s H E).nox body t)
    (hz : ∀ ds M kk, S ds M kk → ZS { K := K } t (startD N ds) M { nx := fun _ M' => kk .non M', rt := kk }) : FnR P w K mg base CX0 (k + 1) f (toSp K (SStar ps.length S)) := by
  obtain ⟨oc, od, dV, kV, doc, pm, an, cdv, ct, osl, rfl, lk, hcd, hD, hK⟩ := F.ex
  have hdV : dV = .none := by
    rcases hD with ⟨_, rfl⟩ | ⟨e, _⟩
    · rfl
    · exact absurd rfl e
  subst hdV
  refine (StX.fn_star (sp := toSp K S) lk hcd Sc StX.cxUp_none (hb kV doc pm an cdv ct) fun A outer s H vs Q E hr ⟨R, F, M, ds, kk, L, r, sp, q⟩ => ⟨t, (ht cdv A outer s H E hr).nox, ?_⟩).imp fun vs H Q E ⟨R, F, M, ds, kk, L, r, ⟨ws, rest, e, hl, hz, hs⟩, q⟩ => ?_
  · refine hz ds M kk sp R F _ H _ (has_start r) L (fun _ _ _ _ _ _ _ _ _ _ _ _ h => h) ⟨fun σ' F' H' M' Γ' e L' hs' h' => q .non F' H' M' .non e L' .non h', fun v F' H' M' d e L' r' h' => q v F' H' M' d e L' r' h', fun σ' F' H' M' Γ' e L' hs' h' => h'.elim, fun σ' F' H' M' Γ' e L' hs' h' => h'.elim⟩
  · subst e
    obtain ⟨v1, v2, rfl, r1, r2⟩ := rps_split r
    refine ⟨v1, v2, rfl, by rw [r1.len]; exact hl, by rw [r2.len]; exact hz, fun p hp => ?_⟩
    have ex := ex_upd (o := .tup v2) (L.free hp)
    exact ⟨R, _, M, ws ++ [.tup rest], kk, L.new hp, (r1.mono ex).append (.one (.mk_tup (SqT.of upd_same) (r2.mono ex))), hs, q.mono ex⟩
end
end Z
set_option Elab.async false
set_option linter.all false
set_option maxRecDepth 100000
set_option maxHeartbeats 4000000
/-! YSimp: equations of the operators, for simp. -/
namespace Z
open PySem PySem.Spec PyProof.Rows L2
section
variable {i j : Int} {x y : List D} {d e : D} {b c : Bool}
@[simp] theorem dAdd_ii : dAdd (.int i) (.int j) = some (.int (i + j)) := rfl
@[simp] theorem dSub_ii : dSub (.int i) (.int j) = some (.int (i - j)) := rfl
@[simp] theorem dNeg_i : dNeg (.int i) = some (.int (-i)) := rfl
@[simp] theorem dAbs_i : dAbs (.int i) = some (.int (i.natAbs : Int)) := rfl
@[simp] theorem dInt_i : dInt (.int i) = some (.int i) := rfl
@[simp] theorem dInt_b : dInt (.bl b) = some (.int (if b then 1 else 0)) := rfl
@[simp] theorem dMax2_ii : dMax2 (.int i) (.int j) = some (.int (max i j)) := rfl
@[simp] theorem dMin2_ii : dMin2 (.int i) (.int j) = some (.int (min i j)) := rfl
@[simp] theorem dGcd_ii : dGcd (.int i) (.int j) = some (.int ((Nat.gcd i.natAbs j.natAbs : Nat) : Int)) := rfl
theorem mulB_r (h : j.natAbs < 2 ^ 64) : mulB i j = true := by
  unfold mulB; rw [decide_eq_true h]; simp
theorem mulB_l (h : i.natAbs < 2 ^ 64) : mulB i j = true := by
  unfold mulB; rw [decide_eq_true h]; simp
theorem log2_le_of_lt {n k : Nat} (h : n < 2 ^ k) : n.log2 ≤ k := by
  by_cases h0 : n = 0
  · subst h0; simp
  · exact Nat.le_of_lt ((Nat.log2_lt h0).mpr h)
theorem mulB_n {a c : Nat} (h1 : i.natAbs < 2 ^ a) (h2 : j.natAbs < 2 ^ c) (h : a + c < 1000000) : mulB i j = true := by
  unfold mulB
  have e1 := log2_le_of_lt h1
  have e2 := log2_le_of_lt h2
  rw [decide_eq_true (p := i.natAbs.log2 + j.natAbs.log2 < 1000000) (by omega)]; simp
theorem dMul_ii (h : mulB i j = true) : dMul (.int i) (.int j) = some (.int (i * j)) := gd_of h
theorem dMul_r (h : j.natAbs < 2 ^ 64) : dMul (.int i) (.int j) = some (.int (i * j)) := dMul_ii (mulB_r h)
theorem dMul_l (h : i.natAbs < 2 ^ 64) : dMul (.int i) (.int j) = some (.int (i * j)) := dMul_ii (mulB_l h)
theorem dMul_n {a c : Nat} (h1 : i.natAbs < 2 ^ a) (h2 : j.natAbs < 2 ^ c) (h : a + c < 1000000) : dMul (.int i) (.int j) = some (.int (i * j)) := dMul_ii (mulB_n h1 h2 h)
theorem dMod_ii (h : 0 < j) : dMod (.int i) (.int j) = some (.int (i % j)) := gd_of (decide_eq_true h)
theorem divB_n {a : Nat} (h0 : j ≠ 0) (h1 : j.natAbs < 2 ^ a) (h : a < 9000) : divB j = true := by
  unfold divB
  have e1 := log2_le_of_lt h1
  rw [decide_eq_true h0, decide_eq_true (p := j.natAbs.log2 < 9000) (by omega)]; rfl
theorem dDiv_n {a : Nat} (h0 : j ≠ 0) (h1 : j.natAbs < 2 ^ a) (h : a < 9000) : dDiv (.int i) (.int j) = some (.int (i.fdiv j)) := gd_of (divB_n h0 h1 h)
@[simp] theorem bLt_ii : bLt (.int i) (.int j) = some (decide (i < j)) := rfl
@[simp] theorem bLe_ii : bLe (.int i) (.int j) = some (decide (i ≤ j)) := rfl
@[simp] theorem bGt_ii : bGt (.int i) (.int j) = some (decide (j < i)) := rfl
@[simp] theorem bGe_ii : bGe (.int i) (.int j) = some (decide (j ≤ i)) := rfl
@[simp] theorem bEq_ii : bEq (.int i) (.int j) = some (decide (i = j)) := rfl
@[simp] theorem bEq_bb : bEq (.bl b) (.bl c) = some (decide (b = c)) := rfl
@[simp] theorem bNe_ii : bNe (.int i) (.int j) = some (!decide (i = j)) := rfl
@[simp] theorem bNe_bb : bNe (.bl b) (.bl c) = some (!decide (b = c)) := rfl
@[simp] theorem bEq_ss {s t : Str} : bEq (.str s) (.str t) = some (decide (s = t)) := rfl
@[simp] theorem bNe_ss {s t : Str} : bNe (.str s) (.str t) = some (!decide (s = t)) := rfl
@[simp] theorem bTru_b : bTru (.bl b) = some b := rfl
@[simp] theorem bTru_i : bTru (.int i) = some (i != 0) := rfl
@[simp] theorem bTru_non : bTru .non = some false := rfl
@[simp] theorem bTru_l : bTru (.lst x) = some (!x.isEmpty) := rfl
@[simp] theorem bTru_t : bTru (.tup x) = some (!x.isEmpty) := rfl
@[simp] theorem dBl_b : dBl (.bl b) = some b := rfl
@[simp] theorem dLen_t : dLen (.tup x) = some (.int (x.length : Nat)) := rfl
@[simp] theorem dLen_l : dLen (.lst x) = some (.int (x.length : Nat)) := rfl
@[simp] theorem dLen_s : dLen (.scr x) = some (.int (x.length : Nat)) := rfl
@[simp] theorem dPart_i : dPart (.int i) = some (some i) := rfl
@[simp] theorem un2_t : un2 (.tup [d, e]) = some (d, e) := rfl
@[simp] theorem items_t : items (.tup x) = some x := rfl
@[simp] theorem items_l : items (.lst x) = some x := rfl
@[simp] theorem itStr_t : itStr (.tup x) = some x := rfl
@[simp] theorem itStr_l : itStr (.lst x) = some x := rfl
@[simp] theorem itStr_s {z : Str} : itStr (.str z) = some (signsD z) := rfl
@[simp] theorem dTuple_l : dTuple (.lst x) = some (.tup x) := rfl
@[simp] theorem dTuple_t : dTuple (.tup x) = some (.tup x) := rfl
@[simp] theorem dList_t : dList (.tup x) = some (.lst x) := rfl
@[simp] theorem dList_l : dList (.lst x) = some (.lst x) := rfl
@[simp] theorem dSum_l {ns : List Int} : dSum (.lst (ns.map .int)) = some (.int ns.sum) := by unfold dSum; simp [itemsL]
@[simp] theorem isNon_i : isNon (.int i) = false := rfl
@[simp] theorem isNon_non : isNon .non = true := rfl
@[simp] theorem isNon_t : isNon (.tup x) = false := rfl
@[simp] theorem isNon_l : isNon (.lst x) = false := rfl
theorem itRng1_n {n : Nat} (h : n < 2 ^ 62) : itRng1 (.int (n : Int)) = some (rngD 0 n) := by
  have h' : ((n : Nat) : Int) < 2 ^ 62 := by exact_mod_cast h
  have hb : rngB (n : Int) = true := by unfold rngB; rw [Bool.and_eq_true]; exact ⟨decide_eq_true (by omega), decide_eq_true h'⟩
  show (if rngB (n : Int) = true then some (rngD 0 (n : Int).toNat) else none) = _
  rw [if_pos hb, Int.toNat_natCast]
@[simp] theorem ii_int : bIsi (.int i) "int" = some true := rfl
@[simp] theorem ii_bool : bIsi (.int i) "bool" = some false := rfl
@[simp] theorem ii_tup : bIsi (.tup x) "tuple" = some true := rfl
@[simp] theorem ii_bb : bIsi (.bl b) "bool" = some true := rfl
@[simp] theorem ii_str {s : Str} : bIsi (.str s) "str" = some true := rfl
@[simp] theorem ii_ll : bIsi (.lst x) "list" = some true := rfl
theorem dIx_l {n : Nat} {v : D} (h : x[n]? = some v) : dIx (.lst x) (.int (n : Int)) = some v := L2.atI_nat h
theorem dIx_t {n : Nat} {v : D} (h : x[n]? = some v) : dIx (.tup x) (.int (n : Int)) = some v := L2.atI_nat h
theorem dIx_sc {n : Nat} {v : D} (h : x[n]? = some v) : dIx (.scr x) (.int (n : Int)) = some v := L2.atI_nat h
@[simp] theorem dIx_l0 : dIx (.lst (d :: x)) (.int 0) = some d := dIx_l (n := 0) rfl
@[simp] theorem dIx_t0 : dIx (.tup (d :: x)) (.int 0) = some d := dIx_t (n := 0) rfl
@[simp] theorem dIx_l1 : dIx (.lst (d :: e :: x)) (.int 1) = some e := dIx_l (n := 1) rfl
@[simp] theorem dIx_t1 : dIx (.tup (d :: e :: x)) (.int 1) = some e := dIx_t (n := 1) rfl
@[simp] theorem dIx_l2 {f : D} : dIx (.lst (d :: e :: f :: x)) (.int 2) = some f := dIx_l (n := 2) rfl
@[simp] theorem dIx_t2 {f : D} : dIx (.tup (d :: e :: f :: x)) (.int 2) = some f := dIx_t (n := 2) rfl
theorem dSet_n {n : Nat} (h : n < x.length) : dSet x (.int (n : Int)) d = some (x.set n d) := by
  have e : L2.ixN x.length (n : Int) = some n := by
    unfold L2.ixN
    rw [if_pos (by omega), if_pos (by omega), Int.toNat_natCast]
  show (L2.ixN x.length (n : Int)).map _ = _
  rw [e]; rfl
@[simp] theorem dSet_0 {f : D} : dSet (f :: x) (.int 0) d = some (d :: x) := dSet_n (n := 0) (by simp)
@[simp] theorem dSet_1 {f g : D} : dSet (f :: g :: x) (.int 1) d = some (f :: d :: x) := dSet_n (n := 1) (by simp)
@[simp] theorem dSet_2 {f g h : D} : dSet (f :: g :: h :: x) (.int 2) d = some (f :: g :: d :: x) := dSet_n (n := 2) (by simp)
theorem dApp_ok (h : x.length < sizeLine) : dApp x d = some (x ++ [d]) := by unfold dApp; rw [if_pos h]
end
section
variable {S R : Type}
theorem foldO_cons {f : S → D → Option S} {d : D} {ds : List D} {s s' : S} (h : f s d = some s') : foldO f (d :: ds) s = foldO f ds s' := by
  show (f s d).bind _ = _
  rw [h]; rfl
/-- a fold by an invariant -/
theorem foldO_inv {f : S → D → Option S} (I : Nat → S → Prop) : ∀ (ds : List D) (k : Nat) (s : S), I k s → (∀ i d s, ds[i]? = some d → I (k + i) s → ∃ s', f s d = some s' ∧ I (k + i + 1) s') → ∃ s', foldO f ds s = some s' ∧ I (k + ds.length) s'
  | [], k, s, h, _ => ⟨s, rfl, h⟩
  | d :: ds, k, s, h, hs => by
    obtain ⟨s1, e1, h1⟩ := hs 0 d s rfl h
    obtain ⟨s2, e2, h2⟩ := foldO_inv I ds (k + 1) s1 h1 fun i d s hd hI => by
      have := hs (i + 1) d s hd (by rw [show k + (i + 1) = k + 1 + i by omega]; exact hI)
      rwa [show k + (i + 1) + 1 = k + 1 + i + 1 by omega] at this
    refine ⟨s2, by rw [foldO_cons e1]; exact e2, ?_⟩
    rw [List.length_cons, show k + (ds.length + 1) = k + 1 + ds.length by omega]; exact h2
theorem forL_all {f : S → D → Option (Fl S S R)} (I : S → Prop) : ∀ (ds : List D) (s : S), I s → (∀ d ∈ ds, ∀ s, I s → ∃ s', f s d = some (.nx s') ∧ I s') → ∃ s', forL f ds s = some (.nx s') ∧ I s'
  | [], s, h, _ => ⟨s, rfl, h⟩
  | d :: ds, s, h, hs => by
    obtain ⟨s1, e1, h1⟩ := hs d List.mem_cons_self s h
    obtain ⟨s2, e2, h2⟩ := forL_all I ds s1 h1 fun d hd => hs d (List.mem_cons_of_mem _ hd)
    refine ⟨s2, ?_, h2⟩
    show (f s d).bind _ = _
    rw [e1]; exact e2
theorem forL_unit {f : Unit → D → Option (Fl Unit Unit R)} {ds : List D} (h : ∀ d ∈ ds, f () d = some (.nx ())) : forL f ds () = some (.nx ()) := by
  obtain ⟨_, e, _⟩ := forL_all (fun _ => True) ds () trivial fun d hd s _ => ⟨(), h d hd, trivial⟩
  exact e
theorem mapO_map {α : Type} {f : D → Option D} {g : α → D} {r : α → D} : ∀ {xs : List α}, (∀ x ∈ xs, f (g x) = some (r x)) → mapO f (xs.map g) = some (xs.map r)
  | [], _ => rfl
  | x :: xs, h => by
    show (f (g x)).bind _ = _
    rw [h x List.mem_cons_self]
    show (mapO f (xs.map g)).bind _ = _
    rw [mapO_map fun y hy => h y (List.mem_cons_of_mem _ hy)]; rfl
theorem lcO_map {α : Type} {f : D → Option D} {g : α → D} {r : α → D} {xs : List α} (hl : xs.length ≤ sizeLine) (h : ∀ x ∈ xs, f (g x) = some (r x)) : lcO f (xs.map g) = some (xs.map r) := by
  unfold lcO; rw [List.length_map, if_pos hl]; exact mapO_map h
theorem filO_map {α : Type} {f : D → Option (Option D)} {g : α → D} {p : α → Bool} : ∀ {xs : List α}, (∀ x ∈ xs, f (g x) = some (if p x then some (g x) else none)) → filO f (xs.map g) = some ((xs.filter p).map g)
  | [], _ => rfl
  | x :: xs, h => by
    show (f (g x)).bind _ = _
    rw [h x List.mem_cons_self]
    show (filO f (xs.map g)).bind _ = _
    rw [filO_map fun y hy => h y (List.mem_cons_of_mem _ hy)]
    cases e : p x with
    | true => rw [List.filter_cons_of_pos e]; simp
    | false => rw [List.filter_cons_of_neg (by rw [e]; decide)]; simp
theorem lcF_map {α : Type} {f : D → Option (Option D)} {g : α → D} {p : α → Bool} {xs : List α} (hl : xs.length ≤ sizeLine) (h : ∀ x ∈ xs, f (g x) = some (if p x then some (g x) else none)) : lcF f (xs.map g) = some ((xs.filter p).map g) := by
  unfold lcF; rw [List.length_map, if_pos hl]; exact filO_map h
/-- a comprehension that draws -/
theorem mapS_all {f : S → D → Option (D × S)} (I : S → Prop) (P : D → Prop) : ∀ (ds : List D) (s : S), I s → (∀ d ∈ ds, ∀ s, I s → ∃ y s', f s d = some (y, s') ∧ P y ∧ I s') → ∃ ys s', mapS f ds s = some (ys, s') ∧ ys.length = ds.length ∧ (∀ y ∈ ys, P y) ∧ I s'
  | [], s, h, _ => ⟨[], s, rfl, rfl, fun _ h => absurd h List.not_mem_nil, h⟩
  | d :: ds, s, h, hs => by
    obtain ⟨y, s1, e1, p1, h1⟩ := hs d List.mem_cons_self s h
    obtain ⟨ys, s2, e2, l2, p2, h2⟩ := mapS_all I P ds s1 h1 fun d hd => hs d (List.mem_cons_of_mem _ hd)
    refine ⟨y :: ys, s2, ?_, by rw [List.length_cons, List.length_cons, l2], fun z hz => ?_, h2⟩
    · show bp (f s d) _ = _
      rw [e1, bp_some, e2, bp_some]
    · rcases List.mem_cons.mp hz with rfl | hz
      · exact p1
      · exact p2 z hz
theorem lcS_all {f : S → D → Option (D × S)} (I : S → Prop) (P : D → Prop) {ds : List D} {s : S} (hl : ds.length ≤ sizeLine) (h : I s) (hs : ∀ d ∈ ds, ∀ s, I s → ∃ y s', f s d = some (y, s') ∧ P y ∧ I s') : ∃ ys s', lcS f ds s = some (ys, s') ∧ ys.length = ds.length ∧ (∀ y ∈ ys, P y) ∧ I s' := by
  unfold lcS; rw [if_pos hl]; exact mapS_all I P ds s h hs
theorem mem_rngD {n : Nat} {d : D} (h : d ∈ rngD 0 n) : ∃ i, i < n ∧ d = .int ((i : Nat) : Int) := by
  unfold rngD at h
  obtain ⟨i, hi, rfl⟩ := List.mem_map.mp h
  exact ⟨i, List.mem_range.mp hi, by rw [Int.zero_add]⟩
theorem all_map {α : Type} {g : α → D} : ∀ {ys : List D}, (∀ y ∈ ys, ∃ x, y = g x) → ∃ xs : List α, ys = xs.map g
  | [], _ => ⟨[], rfl⟩
  | y :: ys, h => by
    obtain ⟨x, rfl⟩ := h y List.mem_cons_self
    obtain ⟨xs, rfl⟩ := all_map (g := g) fun z hz => h z (List.mem_cons_of_mem _ hz)
    exact ⟨x :: xs, rfl⟩
end
end Z
set_option Elab.async false
set_option linter.all false
set_option maxRecDepth 100000
set_option maxHeartbeats 4000000
/-! YSimp2: loops by an invariant, read off the goal. -/
namespace Z
open PySem PySem.Spec PyProof.Rows L2
theorem fin_all {S R : Type} {f : S → D → Option (Fl S S R)} {ds : List D} {s : S} {mr : S → Option R} (I : S → Prop) (P : R → Prop) (h : I s) (hs : ∀ d ∈ ds, ∀ s, I s → ∃ s', f s d = some (.nx s') ∧ I s') (hm : ∀ s, I s → ∃ r, mr s = some r ∧ P r) : ∃ r, Fl.fin (forL f ds s) mr = some r ∧ P r := by
  obtain ⟨s', e, h'⟩ := forL_all (R := R) I ds s h hs
  rw [e]; exact hm s' h'
theorem fin_unit {R : Type} {f : Unit → D → Option (Fl Unit Unit R)} {ds : List D} {mr : Unit → Option R} {r : R} (hs : ∀ d ∈ ds, f () d = some (.nx ())) (hm : mr () = some r) : Fl.fin (forL f ds ()) mr = some r := by
  rw [forL_unit hs]; exact hm
theorem pass_unit {R N S α : Type} {f : Unit → D → Option (Fl Unit Unit R)} {ds : List D} {mr : Unit → Option (Fl N S R)} {r : Fl N S R} (hs : ∀ d ∈ ds, f () d = some (.nx ())) (hm : mr () = some r) : Fl.pass (forL f ds ()) mr = some r := by
  rw [forL_unit hs]; exact hm
theorem fold_all {S β : Type} {f : S → D → Option S} {ds : List D} {s : S} {mr : S → Option β} (I : S → Prop) (P : β → Prop) (h : I s) (hs : ∀ d ∈ ds, ∀ s, I s → ∃ s', f s d = some s' ∧ I s') (hm : ∀ s, I s → ∃ r, mr s = some r ∧ P r) : ∃ r, (foldO f ds s).bind mr = some r ∧ P r := by
  obtain ⟨s', e, h'⟩ := foldO_inv (fun _ => I) ds 0 s h fun i d s hd hI => hs d (List.mem_of_getElem? hd) s hI
  rw [e]; exact hm s' h'
theorem fold_ix {S β : Type} {f : S → D → Option S} {ds : List D} {s : S} {mr : S → Option β} (I : Nat → S → Prop) (P : β → Prop) (h : I 0 s) (hs : ∀ i d s, ds[i]? = some d → I i s → ∃ s', f s d = some s' ∧ I (i + 1) s') (hm : ∀ s, I ds.length s → ∃ r, mr s = some r ∧ P r) : ∃ r, (foldO f ds s).bind mr = some r ∧ P r := by
  obtain ⟨s', e, h'⟩ := foldO_inv I ds 0 s h fun i d s hd hI => by
    rw [Nat.zero_add] at hI ⊢; exact hs i d s hd hI
  rw [Nat.zero_add] at h'
  rw [e]; exact hm s' h'
/-- a comprehension that draws, then the rest -/
theorem lcS_then {S β : Type} {f : S → D → Option (D × S)} {ds : List D} {s : S} {mr : List D → S → Option β} (I : S → Prop) (P : D → Prop) (Q : β → Prop) (hl : ds.length ≤ sizeLine) (h : I s) (hs : ∀ d ∈ ds, ∀ s, I s → ∃ y s', f s d = some (y, s') ∧ P y ∧ I s') (hm : ∀ ys s, ys.length = ds.length → (∀ y ∈ ys, P y) → I s → ∃ r, mr ys s = some r ∧ Q r) : ∃ r, bp (lcS f ds s) mr = some r ∧ Q r := by
  obtain ⟨ys, s', e, l, p, h'⟩ := lcS_all I P hl h hs
  rw [e, bp_some]; exact hm ys s' l p h'
theorem ex_pr {V S : Type} {m : Option (V × S)} {v : V} {I : S → Prop} (h : ∃ r, m = some r ∧ ∃ b, r = (v, b) ∧ I b) : ∃ b, m = some (v, b) ∧ I b := by
  obtain ⟨r, e, b, rfl, hb⟩ := h
  exact ⟨b, e, hb⟩
theorem ex_nx {N S R : Type} {m : Option (Fl N S R)} {I : N → Prop} (h : ∃ r, m = some r ∧ ∃ b, r = .nx b ∧ I b) : ∃ b, m = some (.nx b) ∧ I b := by
  obtain ⟨r, e, b, rfl, hb⟩ := h
  exact ⟨b, e, hb⟩
theorem ex_eq {V : Type} {m : Option V} {v : V} (h : ∃ r, m = some r ∧ r = v) : m = some v := by
  obtain ⟨r, e, rfl⟩ := h
  exact e
end Z
set_option Elab.async false
set_option linter.all false
set_option maxRecDepth 100000
set_option maxHeartbeats 4000000
/-! YTxt: texts of numbers, parts of texts. -/
namespace Z
open PySem PySem.Spec PyProof.Rows L2 TL
/-- the signs of an integer -/
def tI (i : Int) : List Nat := if i < 0 then 45 :: numL i.natAbs else numL i.natAbs
theorem tl_int (i : Int) : tl (Str.ofString (toString i)) = tI i := by
  unfold tI
  by_cases h : i < 0
  · rw [if_pos h]
    obtain ⟨m, rfl⟩ : ∃ m : Nat, i = Int.negSucc m := ⟨(-i - 1).toNat, by omega⟩
    have e : toString (Int.negSucc m) = "-" ++ toString ((m + 1 : Nat) : Int) := rfl
    have e2 : (Int.negSucc m).natAbs = m + 1 := rfl
    rw [e, e2, ← tl_num (m + 1), tl_ofString, tl_ofString, String.toList_append, List.map_append]
    rfl
  · rw [if_neg h]
    obtain ⟨m, rfl⟩ : ∃ m : Nat, i = (m : Int) := ⟨i.toNat, by omega⟩
    exact tl_num m
theorem pow2_10 (n : Nat) : 2 ^ n ≤ 10 ^ n := Nat.pow_le_pow_left (by decide) n
theorem tI_len {i : Int} {n : Nat} (h0 : 0 < n) (h : i.natAbs < 2 ^ n) : (tI i).length ≤ n + 1 := by
  have := numL_len (n := i.natAbs) h0 (Nat.lt_of_lt_of_le h (pow2_10 n))
  unfold tI
  split
  · rw [List.length_cons]; omega
  · omega
theorem log_lt {i : Int} {n : Nat} (h : i.natAbs < 2 ^ n) (hn : n < 1920) : decide (i.natAbs.log2 < 1920) = true := by
  have := log2_le_of_lt h
  exact decide_eq_true (by omega)
theorem dStr_n {i : Int} {n : Nat} (h : i.natAbs < 2 ^ n) (hn : n < 1920) : dStr (.int i) = some (.str (Str.ofString (toString i))) := gd_of (log_lt h hn)
theorem dFmt_n {i : Int} {n : Nat} (h : i.natAbs < 2 ^ n) (hn : n < 1920) : dFmt (.int i) = some (.str (Str.ofString (toString i))) := gd_of (log_lt h hn)
theorem dJ_ok {x y : Str} (h : (tl x).length + (tl y).length ≤ 100000) : dJ x (.str y) = some (x ++ y) := by
  show (if (x ++ y).length ≤ sizeLine then some (x ++ y) else none) = _
  rw [if_pos]
  rw [len_tl, tl_append, List.length_append]
  have : sizeLine = 16777216 := rfl
  omega
theorem size_ok {n : Nat} (h : n ≤ 100000) : n ≤ sizeLine := by
  have : sizeLine = 16777216 := rfl
  omega
theorem tl_mk1 (n : Nat) : tl (⟨#[n]⟩ : Str) = [n] := rfl
/-- the place of a sign -/
theorem find_at {x y : Str} {s : Nat} {a b : List Nat} (ey : tl y = [s]) (ex : tl x = a ++ s :: b) (h : s ∉ a) : Txt.find x y = (a.length : Int) := by
  have hy : tl y ≠ [] := by rw [ey]; simp
  have hA : StrLaws.At x y x.length a.length := (at_iff hy _).mpr (by rw [ey, ex, List.drop_left]; simp [pre])
  rcases find_whole x y with ⟨_, hn⟩ | ⟨i, e, hi, hk⟩
  · exact absurd hA (hn _)
  · rw [e]
    have h1 : ¬ a.length < i := fun hl => hk _ hl hA
    have h2 := (at_iff hy _).mp hi
    rw [ey, ex] at h2
    by_cases h3 : i < a.length
    · rw [List.drop_append_of_le_length (by omega), List.drop_eq_getElem_cons h3, List.cons_append] at h2
      have h4 : [a[i]] = [s] := by simpa [pre] using h2
      have : a[i] = s := by simpa using h4
      exact absurd (this ▸ List.getElem_mem h3) h
    · have : i = a.length := by omega
      rw [this]
theorem dFind_at {x y : Str} {s : Nat} {a b : List Nat} (ey : tl y = [s]) (ex : tl x = a ++ s :: b) (h : s ∉ a) : dFind (.str x) (.str y) = some (.int (a.length : Int)) := by
  show some (D.int (Txt.find x y)) = _
  rw [find_at ey ex h]
/-- a sign in a text -/
theorem bIn_sign {x y : Str} {s : Nat} (ex : tl x = [s]) : bInY (.str x) (.str y) = some (decide (s ∈ tl y)) := by
  have e : x = ⟨#[s]⟩ := ext_tl ex
  subst e
  show (if (⟨#[s]⟩ : Str) = (⟨#[s]⟩ : Str) then some (decide (s ∈ tl y)) else none) = _
  rw [if_pos rfl]
theorem str_eq {x y : Str} : decide (x = y) = decide (tl x = tl y) := decide_eq_decide.mpr ⟨fun h => by rw [h], fun h => ext_tl h⟩
theorem bEq_tl {x y : Str} : bEq (.str x) (.str y) = some (decide (tl x = tl y)) := by rw [bEq_ss, str_eq]
theorem bNe_tl {x y : Str} : bNe (.str x) (.str y) = some (!decide (tl x = tl y)) := by rw [bNe_ss, str_eq]
/-- parts of a text -/
theorem slice_to {x : Str} {k : Nat} (hx : x.length ≤ sizeLine) : ∃ y, dSlice (.str x) none (some (k : Int)) = some (.str y) ∧ tl y = (tl x).take k := by
  refine ⟨_, gd_of (decide_eq_true hx), ?_⟩
  unfold cutS
  rw [tl_mk, HT.sIx_none, HT.sIx_nat, List.drop_zero, Nat.sub_zero, len_tl]
  show List.take (min k (tl x).length) (tl x) = _
  by_cases h : k ≤ (tl x).length
  · rw [Nat.min_eq_left h]
  · rw [Nat.min_eq_right (by omega), List.take_length, List.take_of_length_le (by omega)]
theorem slice_from {x : Str} {k : Nat} (hx : x.length ≤ sizeLine) : ∃ y, dSlice (.str x) (some (k : Int)) none = some (.str y) ∧ tl y = (tl x).drop k := by
  refine ⟨_, gd_of (decide_eq_true hx), ?_⟩
  unfold cutS
  rw [tl_mk, HT.sIx_none, HT.sIx_nat, len_tl]
  show List.take ((tl x).length - min k (tl x).length) (List.drop (min k (tl x).length) (tl x)) = _
  by_cases h : k ≤ (tl x).length
  · rw [Nat.min_eq_left h, List.take_of_length_le (by rw [List.length_drop]; exact Nat.le_refl _)]
  · rw [Nat.min_eq_right (by omega), List.drop_length, List.drop_eq_nil_of_le (by omega), List.take_nil]
theorem dIx_s0 {x : Str} {s : Nat} {r : List Nat} (ex : tl x = s :: r) (hx : x.length ≤ sizeLine) : dIx (.str x) (.int 0) = some (.str ⟨#[s]⟩) := by
  show (if x.length ≤ sizeLine then (L2.atI x.cps.toList 0).map fun n => D.str ⟨#[n]⟩ else none) = _
  rw [if_pos hx, show x.cps.toList = s :: r from ex]
  rw [show L2.atI (s :: r) 0 = some s from L2.atI_nat (j := 0) rfl]; rfl
theorem signs_tl {x : Str} : signsD x = (tl x).map fun n => D.str ⟨#[n]⟩ := rfl
/-- a loop that only steps -/
theorem forL_foldl {S R α β : Type} {f : S → D → Option (Fl S S R)} {g : α → D} {r : β → S} {st : β → α → β} : ∀ {xs : List α} {s : β}, (∀ s x, x ∈ xs → f (r s) (g x) = some (.nx (r (st s x)))) → forL f (xs.map g) (r s) = some (.nx (r (xs.foldl st s)))
  | [], s, _ => rfl
  | x :: xs, s, h => by
    show (f (r s) (g x)).bind _ = _
    rw [h s x List.mem_cons_self]
    exact forL_foldl fun s y hy => h s y (List.mem_cons_of_mem _ hy)
theorem digits_mem : tl (Str.ofString "0123456789") = [48, 49, 50, 51, 52, 53, 54, 55, 56, 57] := by rw [tl_ofString]; rfl
theorem digit_in {c : Nat} (h : 48 ≤ c ∧ c ≤ 57) : bInY (.str ⟨#[c]⟩) (.str (Str.ofString "0123456789")) = some true := by
  rw [bIn_sign (s := c) rfl, digits_mem]
  congr 1
  rw [decide_eq_true_eq]
  simp only [List.mem_cons, List.not_mem_nil, or_false]; omega
theorem digit_find {c : Nat} (h : 48 ≤ c ∧ c ≤ 57) : dFind (.str (Str.ofString "0123456789")) (.str ⟨#[c]⟩) = some (.int ((c : Int) - 48)) := by
  have key : ∀ (d : Nat) (a b : List Nat), [48, 49, 50, 51, 52, 53, 54, 55, 56, 57] = a ++ (48 + d) :: b → a.length = d → (48 + d) ∉ a → dFind (.str (Str.ofString "0123456789")) (.str ⟨#[48 + d]⟩) = some (.int (((48 + d : Nat) : Int) - 48)) := fun d a b e hl hn => by
    rw [dFind_at (s := 48 + d) rfl (digits_mem.trans e) hn, hl]
    congr 2
    omega
  obtain ⟨d, rfl⟩ : ∃ d, c = 48 + d := ⟨c - 48, by omega⟩
  have hd : d ≤ 9 := by omega
  have : d = 0 ∨ d = 1 ∨ d = 2 ∨ d = 3 ∨ d = 4 ∨ d = 5 ∨ d = 6 ∨ d = 7 ∨ d = 8 ∨ d = 9 := by omega
  rcases this with rfl | rfl | rfl | rfl | rfl | rfl | rfl | rfl | rfl | rfl
  · exact key 0 [] [49, 50, 51, 52, 53, 54, 55, 56, 57] rfl rfl (by decide)
  · exact key 1 [48] [50, 51, 52, 53, 54, 55, 56, 57] rfl rfl (by decide)
  · exact key 2 [48, 49] [51, 52, 53, 54, 55, 56, 57] rfl rfl (by decide)
  · exact key 3 [48, 49, 50] [52, 53, 54, 55, 56, 57] rfl rfl (by decide)
  · exact key 4 [48, 49, 50, 51] [53, 54, 55, 56, 57] rfl rfl (by decide)
  · exact key 5 [48, 49, 50, 51, 52] [54, 55, 56, 57] rfl rfl (by decide)
  · exact key 6 [48, 49, 50, 51, 52, 53] [55, 56, 57] rfl rfl (by decide)
  · exact key 7 [48, 49, 50, 51, 52, 53, 54] [56, 57] rfl rfl (by decide)
  · exact key 8 [48, 49, 50, 51, 52, 53, 54, 55] [57] rfl rfl (by decide)
  · exact key 9 [48, 49, 50, 51, 52, 53, 54, 55, 56] [] rfl rfl (by decide)
/-- the first sign of a number -/
theorem numL_head : ∀ (n : Nat), 0 < n → ∃ c r, numL n = c :: r ∧ 49 ≤ c ∧ c ≤ 57 := by
  intro n
  induction n using Nat.strongRecOn with
  | _ n ih =>
    intro hn
    by_cases h : n < 10
    · exact ⟨48 + n, [], numL_lt h, by omega, by omega⟩
    · obtain ⟨c, r, e, h1, h2⟩ := ih (n / 10) (by omega) (by omega)
      exact ⟨c, r ++ [48 + n % 10], by rw [numL_step (by omega), e]; rfl, h1, h2⟩
theorem tI_head (i : Int) : ∃ c r, tI i = c :: r ∧ (i < 0 → c = 45) ∧ (0 ≤ i → 48 ≤ c ∧ c ≤ 57) := by
  unfold tI
  by_cases h : i < 0
  · rw [if_pos h]; exact ⟨45, _, rfl, fun _ => rfl, fun h' => by omega⟩
  · rw [if_neg h]
    by_cases h0 : i.natAbs = 0
    · rw [h0]; exact ⟨48, [], numL_lt (by decide), fun h' => by omega, fun _ => by omega⟩
    · obtain ⟨c, r, e, h1, h2⟩ := numL_head i.natAbs (by omega)
      exact ⟨c, r, e, fun h' => by omega, fun _ => by omega⟩
theorem tI_free {i : Int} {s : Nat} (h : s ≠ 45) (h2 : s < 48 ∨ 57 < s) : s ∉ tI i := by
  unfold tI
  split
  · rw [List.mem_cons]
    rintro (h' | h')
    · exact h h'
    · exact numL_free h2 h'
  · exact numL_free h2
end Z
set_option Elab.async false
set_option linter.all false
set_option maxRecDepth 100000
set_option maxHeartbeats 4000000
/-! Printed by gen.py: the readings of the defs. -/
namespace Qk01
open PySem PySem.Spec PyProof.Rows L2 StX Z
def topS (i : Nat) : Stmt := PySem.Challenge.pw_leaprungs_k01_bounds_in_order.main.body.getD i (.Pass ⟨0, 0, 0, 0⟩)
structure Cs where
  v_ENDLESS : V
  v_NOTHING : V
  v_ZERO : V
structure Txt (Ac : Cs) (K : Fg) (mg : Str → Option Value) : Prop where
  n_abs : mg "abs" = none
  n_bool : mg "bool" = none
  n_int : mg "int" = none
  n_isinstance : mg "isinstance" = none
  n_len : mg "len" = none
  n_max : mg "max" = none
  n_min : mg "min" = none
  n_range : mg "range" = none
  n_str : mg "str" = none
  n_sum : mg "sum" = none
  n_tuple : mg "tuple" = none
  b_gcd : mg "gcd" = some (.builtin "math.gcd")
  k_ENDLESS : Cst K mg "ENDLESS" Ac.v_ENDLESS (D.tup [(D.int 1), (D.int 0)])
  k_NOTHING : Cst K mg "NOTHING" Ac.v_NOTHING (D.tup [(D.int (-1)), (D.int 0)])
  k_ZERO : Cst K mg "ZERO" Ac.v_ZERO (D.tup [(D.int 0), (D.int 1)])
section
variable {P : Program} {w : World} {K : Fg} {mg : Str → Option Value} {base : Heap}
-- ZeroDivisor_init: not printed: call Attribute(value=Call(func=Name(id='super', ctx=Load()), args
/-! fraction -/
abbrev s_fraction : Stmt := topS 8
abbrev N_fraction : List Str := ["top", "bottom", "divisor"]
theorem sc_fraction : FnScope N_fraction ["top", "bottom"] (defScope s_fraction) := ⟨rfl, rfl, rfl, by decide +kernel, rfl, by decide +kernel, by decide +kernel⟩
def t_fraction (K : Fg) (Ac : Cs) : TS :=
    (tSeq (tIfS (tTest (tOp (rEqZ K) (tVar 1) (tC (.int 0)))) tNever tNext)
    (tSeq (tAsg (tCB rGcdZ (tCons (tVar 0) (tCons (tVar 1) tNil))) (gName 2))
    (tSeq (tIfS (tTest (tOp rLtZ (tVar 1) (tC (.int 0)))) (tAsg (tUn uNegZ (tVar 2)) (gName 2)) tNext)
    (tRet (tTup (tCons (tOp rDivZ (tVar 0) (tVar 2)) (tCons (tOp rDivZ (tVar 1) (tVar 2)) tNil)))))))
theorem red_fraction {Ac : Cs} (T : Txt Ac K mg) (f : Addr) (cdv : Value) (A : Around) (outer : List Env) (s : Shared) (H : Hp) (E : XK) (hr : Room 0 (A.deeper (envOfC "fraction" (defScope s_fraction) s.heap.objs.size f cdv))) :
    PSs (cxOf CX0 P w K mg base N_fraction "fraction" (defScope s_fraction) f cdv A outer s H E).nox (defBody s_fraction) (t_fraction K Ac) :=
    (pss_cons (ps_if (q_eq (Room.units hr) (pv 1) pe_int) (pss_one ps_never) pss_nil)
    (pss_cons (ps_set (i := 2) sc_fraction.nd rfl (by first | exact Or.inl rfl | exact Or.inr rfl) (pe_callBfun cz_gcd (by rfl) T.b_gcd (pa_cons (pv 0) (pa_cons (pv 1) pa_nil))))
    (pss_cons (ps_if (q_lt (pv 1) pe_int) (pss_one (ps_set (i := 2) sc_fraction.nd rfl (by first | exact Or.inl rfl | exact Or.inr rfl) (p_neg (pv 2)))) pss_nil)
    (pss_one (ps_ret (pe_tup (pa_cons (p_fdiv (pv 0) (pv 2)) (pa_cons (p_fdiv (pv 1) (pv 2)) pa_nil))))))))
/-! plus -/
abbrev s_plus : Stmt := topS 9
abbrev N_plus : List Str := ["first", "second", "top", "bottom", "other_top", "other_bottom"]
theorem sc_plus : FnScope N_plus ["first", "second"] (defScope s_plus) := ⟨rfl, rfl, rfl, by decide +kernel, rfl, by decide +kernel, by decide +kernel⟩
def t_plus (K : Fg) (Ac : Cs) (S_fraction : ZSp) : TS :=
    (tSeq (tAsg (tVar 0) (gTup K 2 (gCons (gName 2) (gCons (gName 3) gNil))))
    (tSeq (tAsg (tVar 1) (gTup K 2 (gCons (gName 4) (gCons (gName 5) gNil))))
    (tSeq (tIfS (tAnd (tTest (tOp (rEqZ K) (tVar 3) (tC (.int 1)))) (tTest (tOp (rEqZ K) (tVar 5) (tC (.int 1))))) (tRet (tTup (tCons (tOp (rAddZ K) (tVar 2) (tVar 4)) (tCons (tC (.int 1)) tNil)))) tNext)
    (tRet (tCB (zcall K S_fraction) (tCons (tOp (rAddZ K) (tOp rMulZ (tVar 2) (tVar 5)) (tOp rMulZ (tVar 4) (tVar 3))) (tCons (tOp rMulZ (tVar 3) (tVar 5)) tNil)))))))
theorem red_plus {Ac : Cs} (T : Txt Ac K mg) (S_fraction : ZSp)
    (G_fraction : FnZ P w K mg base "fraction" 1 S_fraction) (f : Addr) (cdv : Value) (A : Around) (outer : List Env) (s : Shared) (H : Hp) (E : XK) (hr : Room 1 (A.deeper (envOfC "plus" (defScope s_plus) s.heap.objs.size f cdv))) :
    PSs (cxOf CX0 P w K mg base N_plus "plus" (defScope s_plus) f cdv A outer s H E).nox (defBody s_plus) (t_plus K Ac S_fraction) :=
    (pss_cons (ps_asg (pv 0) (pg_tup rfl (pgs_cons (pg_name (i := 2) sc_plus.nd rfl (by first | exact Or.inl rfl | exact Or.inr rfl)) (pgs_cons (pg_name (i := 3) sc_plus.nd rfl (by first | exact Or.inl rfl | exact Or.inr rfl)) pgs_nil))))
    (pss_cons (ps_asg (pv 1) (pg_tup rfl (pgs_cons (pg_name (i := 4) sc_plus.nd rfl (by first | exact Or.inl rfl | exact Or.inr rfl)) (pgs_cons (pg_name (i := 5) sc_plus.nd rfl (by first | exact Or.inl rfl | exact Or.inr rfl)) pgs_nil))))
    (pss_cons (ps_if (PW.pt (pw_and (q_eq (Room.units hr) (pv 3) pe_int) (pw_and1 (q_eq (Room.units hr) (pv 5) pe_int)))) (pss_one (ps_ret (pe_tup (pa_cons (p_add (pv 2) (pv 4)) (pa_cons pe_int pa_nil))))) pss_nil)
    (pss_one (ps_ret (p_call G_fraction hr (pa_cons (p_add (p_mul (pv 2) (pv 5)) (p_mul (pv 4) (pv 3))) (pa_cons (p_mul (pv 3) (pv 5)) pa_nil))))))))
/-! total -/
abbrev s_total : Stmt := topS 10
abbrev N_total : List Str := ["terms", "result", "term"]
theorem sc_total : FnScope N_total ["terms"] (defScope s_total) := ⟨rfl, rfl, rfl, by decide +kernel, rfl, by decide +kernel, by decide +kernel⟩
def t_total (K : Fg) (Ac : Cs) (S_plus : ZSp) : TS :=
    (tSeq (tAsg (tC Ac.v_ZERO) (gName 1))
    (tSeq (tFor (iSeqZ K (tVar 0)) (gName 2) (tAsg (tCB (zcall K S_plus) (tCons (tVar 1) (tCons (tVar 2) tNil))) (gName 1)))
    (tRet (tVar 1))))
theorem red_total {Ac : Cs} (T : Txt Ac K mg) (S_plus : ZSp)
    (G_plus : FnZ P w K mg base "plus" 2 S_plus) (f : Addr) (cdv : Value) (A : Around) (outer : List Env) (s : Shared) (H : Hp) (E : XK) (hr : Room 2 (A.deeper (envOfC "total" (defScope s_total) s.heap.objs.size f cdv))) :
    PSs (cxOf CX0 P w K mg base N_total "total" (defScope s_total) f cdv A outer s H E).nox (defBody s_total) (t_total K Ac S_plus) :=
    (pss_cons (ps_set (i := 1) sc_total.nd rfl (by first | exact Or.inl rfl | exact Or.inr rfl) (pe_cst T.k_ZERO))
    (pss_cons (ps_for PassesOwn.never rfl (pi_seqZ (pv 0)) (pg_name (i := 2) sc_total.nd rfl (by first | exact Or.inl rfl | exact Or.inr rfl)) (pss_one (ps_set (i := 1) sc_total.nd rfl (by first | exact Or.inl rfl | exact Or.inr rfl) (p_call G_plus hr (pa_cons (pv 1) (pa_cons (pv 2) pa_nil))))))
    (pss_one (ps_ret (pv 1)))))
/-! below -/
abbrev s_below : Stmt := topS 11
abbrev N_below : List Str := ["first", "second", "top", "bottom", "other_top", "other_bottom"]
theorem sc_below : FnScope N_below ["first", "second"] (defScope s_below) := ⟨rfl, rfl, rfl, by decide +kernel, rfl, by decide +kernel, by decide +kernel⟩
def t_below (K : Fg) (Ac : Cs) : TS :=
    (tSeq (tAsg (tVar 0) (gTup K 2 (gCons (gName 2) (gCons (gName 3) gNil))))
    (tSeq (tAsg (tVar 1) (gTup K 2 (gCons (gName 4) (gCons (gName 5) gNil))))
    (tSeq (tIfS (tTest (tOp (rEqZ K) (tVar 3) (tVar 5))) (tRet (tOp rLtZ (tVar 2) (tVar 4))) tNext)
    (tRet (tOp rLtZ (tOp rMulZ (tVar 2) (tVar 5)) (tOp rMulZ (tVar 4) (tVar 3)))))))
theorem red_below {Ac : Cs} (T : Txt Ac K mg) (f : Addr) (cdv : Value) (A : Around) (outer : List Env) (s : Shared) (H : Hp) (E : XK) (hr : Room 0 (A.deeper (envOfC "below" (defScope s_below) s.heap.objs.size f cdv))) :
    PSs (cxOf CX0 P w K mg base N_below "below" (defScope s_below) f cdv A outer s H E).nox (defBody s_below) (t_below K Ac) :=
    (pss_cons (ps_asg (pv 0) (pg_tup rfl (pgs_cons (pg_name (i := 2) sc_below.nd rfl (by first | exact Or.inl rfl | exact Or.inr rfl)) (pgs_cons (pg_name (i := 3) sc_below.nd rfl (by first | exact Or.inl rfl | exact Or.inr rfl)) pgs_nil))))
    (pss_cons (ps_asg (pv 1) (pg_tup rfl (pgs_cons (pg_name (i := 4) sc_below.nd rfl (by first | exact Or.inl rfl | exact Or.inr rfl)) (pgs_cons (pg_name (i := 5) sc_below.nd rfl (by first | exact Or.inl rfl | exact Or.inr rfl)) pgs_nil))))
    (pss_cons (ps_if (q_eq (Room.units hr) (pv 3) (pv 5)) (pss_one (ps_ret (p_lt (pv 2) (pv 4)))) pss_nil)
    (pss_one (ps_ret (p_lt (p_mul (pv 2) (pv 5)) (p_mul (pv 4) (pv 3))))))))
/-! larger -/
abbrev s_larger : Stmt := topS 12
abbrev N_larger : List Str := ["first", "others", "result", "bound"]
theorem sc_larger : FnScope N_larger ["first", "others"] (defScope s_larger) := ⟨rfl, rfl, rfl, by decide +kernel, rfl, by decide +kernel, by decide +kernel⟩
def t_larger (K : Fg) (Ac : Cs) (S_below : ZSp) : TS :=
    (tSeq (tAsg (tVar 0) (gName 2))
    (tSeq (tFor (iSeqZ K (tVar 1)) (gName 3) (tIfS (tTruZ K (tCB (zcall K S_below) (tCons (tVar 2) (tCons (tVar 3) tNil)))) (tAsg (tVar 3) (gName 2)) tNext))
    (tRet (tVar 2))))
theorem red_larger {Ac : Cs} (T : Txt Ac K mg) (S_below : ZSp)
    (G_below : FnZ P w K mg base "below" 1 S_below) (f : Addr) (cdv : Value) (A : Around) (outer : List Env) (s : Shared) (H : Hp) (E : XK) (hr : Room 1 (A.deeper (envOfC "larger" (defScope s_larger) s.heap.objs.size f cdv))) :
    PSs (cxOf CX0 P w K mg base N_larger "larger" (defScope s_larger) f cdv A outer s H E).nox (defBody s_larger) (t_larger K Ac S_below) :=
    (pss_cons (ps_set (i := 2) sc_larger.nd rfl (by first | exact Or.inl rfl | exact Or.inr rfl) (pv 0))
    (pss_cons (ps_for PassesOwn.never rfl (pi_seqZ (pv 1)) (pg_name (i := 3) sc_larger.nd rfl (by first | exact Or.inl rfl | exact Or.inr rfl)) (pss_one (ps_if (q_truth (p_call G_below hr (pa_cons (pv 2) (pa_cons (pv 3) pa_nil)))) (pss_one (ps_set (i := 2) sc_larger.nd rfl (by first | exact Or.inl rfl | exact Or.inr rfl) (pv 3))) pss_nil)))
    (pss_one (ps_ret (pv 2)))))
/-! smaller -/
abbrev s_smaller : Stmt := topS 13
abbrev N_smaller : List Str := ["first", "others", "result", "bound"]
theorem sc_smaller : FnScope N_smaller ["first", "others"] (defScope s_smaller) := ⟨rfl, rfl, rfl, by decide +kernel, rfl, by decide +kernel, by decide +kernel⟩
def t_smaller (K : Fg) (Ac : Cs) (S_below : ZSp) : TS :=
    (tSeq (tAsg (tVar 0) (gName 2))
    (tSeq (tFor (iSeqZ K (tVar 1)) (gName 3) (tIfS (tTruZ K (tCB (zcall K S_below) (tCons (tVar 3) (tCons (tVar 2) tNil)))) (tAsg (tVar 3) (gName 2)) tNext))
    (tRet (tVar 2))))
theorem red_smaller {Ac : Cs} (T : Txt Ac K mg) (S_below : ZSp)
    (G_below : FnZ P w K mg base "below" 1 S_below) (f : Addr) (cdv : Value) (A : Around) (outer : List Env) (s : Shared) (H : Hp) (E : XK) (hr : Room 1 (A.deeper (envOfC "smaller" (defScope s_smaller) s.heap.objs.size f cdv))) :
    PSs (cxOf CX0 P w K mg base N_smaller "smaller" (defScope s_smaller) f cdv A outer s H E).nox (defBody s_smaller) (t_smaller K Ac S_below) :=
    (pss_cons (ps_set (i := 2) sc_smaller.nd rfl (by first | exact Or.inl rfl | exact Or.inr rfl) (pv 0))
    (pss_cons (ps_for PassesOwn.never rfl (pi_seqZ (pv 1)) (pg_name (i := 3) sc_smaller.nd rfl (by first | exact Or.inl rfl | exact Or.inr rfl)) (pss_one (ps_if (q_truth (p_call G_below hr (pa_cons (pv 3) (pa_cons (pv 2) pa_nil)))) (pss_one (ps_set (i := 2) sc_smaller.nd rfl (by first | exact Or.inl rfl | exact Or.inr rfl) (pv 3))) pss_nil)))
    (pss_one (ps_ret (pv 2)))))
/-! whole -/
abbrev s_whole : Stmt := topS 14
abbrev N_whole : List Str := ["bound", "top", "bottom"]
theorem sc_whole : FnScope N_whole ["bound"] (defScope s_whole) := ⟨rfl, rfl, rfl, by decide +kernel, rfl, by decide +kernel, by decide +kernel⟩
def t_whole (K : Fg) (Ac : Cs) : TS :=
    (tSeq (tAsg (tVar 0) (gTup K 2 (gCons (gName 1) (gCons (gName 2) gNil))))
    (tSeq (tIfS (tTest (tOp (rEqZ K) (tVar 2) (tC (.int 0)))) (tRet (tVar 0)) tNext)
    (tRet (tTup (tCons (tOp rDivZ (tVar 1) (tVar 2)) (tCons (tC (.int 1)) tNil))))))
theorem red_whole {Ac : Cs} (T : Txt Ac K mg) (f : Addr) (cdv : Value) (A : Around) (outer : List Env) (s : Shared) (H : Hp) (E : XK) (hr : Room 0 (A.deeper (envOfC "whole" (defScope s_whole) s.heap.objs.size f cdv))) :
    PSs (cxOf CX0 P w K mg base N_whole "whole" (defScope s_whole) f cdv A outer s H E).nox (defBody s_whole) (t_whole K Ac) :=
    (pss_cons (ps_asg (pv 0) (pg_tup rfl (pgs_cons (pg_name (i := 1) sc_whole.nd rfl (by first | exact Or.inl rfl | exact Or.inr rfl)) (pgs_cons (pg_name (i := 2) sc_whole.nd rfl (by first | exact Or.inl rfl | exact Or.inr rfl)) pgs_nil))))
    (pss_cons (ps_if (q_eq (Room.units hr) (pv 2) pe_int) (pss_one (ps_ret (pv 0))) pss_nil)
    (pss_one (ps_ret (pe_tup (pa_cons (p_fdiv (pv 1) (pv 2)) (pa_cons pe_int pa_nil)))))))
/-! shown -/
abbrev s_shown : Stmt := topS 15
abbrev N_shown : List Str := ["bound", "top", "bottom"]
theorem sc_shown : FnScope N_shown ["bound"] (defScope s_shown) := ⟨rfl, rfl, rfl, by decide +kernel, rfl, by decide +kernel, by decide +kernel⟩
def t_shown (K : Fg) (Ac : Cs) : TS :=
    (tSeq (tAsg (tVar 0) (gTup K 2 (gCons (gName 1) (gCons (gName 2) gNil))))
    (tSeq (tIfS (tTest (tOp (rEqZ K) (tVar 2) (tC (.int 0)))) (tRet (tIf (tTest (tOp rGtZ (tVar 1) (tC (.int 0)))) (tC (.str "endless")) (tC (.str "nothing")))) tNext)
    (tSeq (tIfS (tTest (tOp (rEqZ K) (tVar 2) (tC (.int 1)))) (tRet (tCB rStrZ (tCons (tVar 1) tNil))) tNext)
    (tRet (tJoined [(tFmt (tVar 1)), (tC (.str "/")), (tFmt (tVar 2))])))))
theorem red_shown {Ac : Cs} (T : Txt Ac K mg) (f : Addr) (cdv : Value) (A : Around) (outer : List Env) (s : Shared) (H : Hp) (E : XK) (hr : Room 0 (A.deeper (envOfC "shown" (defScope s_shown) s.heap.objs.size f cdv))) :
    PSs (cxOf CX0 P w K mg base N_shown "shown" (defScope s_shown) f cdv A outer s H E).nox (defBody s_shown) (t_shown K Ac) :=
    (pss_cons (ps_asg (pv 0) (pg_tup rfl (pgs_cons (pg_name (i := 1) sc_shown.nd rfl (by first | exact Or.inl rfl | exact Or.inr rfl)) (pgs_cons (pg_name (i := 2) sc_shown.nd rfl (by first | exact Or.inl rfl | exact Or.inr rfl)) pgs_nil))))
    (pss_cons (ps_if (q_eq (Room.units hr) (pv 2) pe_int) (pss_one (ps_ret (pe_ifExp (q_gt (pv 1) pe_int) pe_str pe_str))) pss_nil)
    (pss_cons (ps_if (q_eq (Room.units hr) (pv 2) pe_int) (pss_one (ps_ret (pe_callTy cz_str (by rfl) T.n_str Z.boot_str' (pa_cons (pv 1) pa_nil)))) pss_nil)
    (pss_one (ps_ret (p_joined (.cons (pe_fmt (pv 1)) (.cons pe_str (.cons (pe_fmt (pv 2)) .nil)))))))))
/-! _law_is_integer -/
abbrev s_law_is_integer : Stmt := topS 17
abbrev N_law_is_integer : List Str := ["_law_actual"]
theorem sc_law_is_integer : FnScope N_law_is_integer ["_law_actual"] (defScope s_law_is_integer) := ⟨rfl, rfl, rfl, by decide +kernel, rfl, by decide +kernel, by decide +kernel⟩
def t_law_is_integer (K : Fg) (Ac : Cs) : TS :=
    (tRet (tAndV (tCB (rIsiZ K) (tCons (tVar 0) (tCons (tC (.ty "int")) tNil))) (tNotV (tCB (rIsiZ K) (tCons (tVar 0) (tCons (tC (.ty "bool")) tNil))))))
theorem red_law_is_integer {Ac : Cs} (T : Txt Ac K mg) (f : Addr) (cdv : Value) (A : Around) (outer : List Env) (s : Shared) (H : Hp) (E : XK) (hr : Room 0 (A.deeper (envOfC "_law_is_integer" (defScope s_law_is_integer) s.heap.objs.size f cdv))) :
    PSs (cxOf CX0 P w K mg base N_law_is_integer "_law_is_integer" (defScope s_law_is_integer) f cdv A outer s H E).nox (defBody s_law_is_integer) (t_law_is_integer K Ac) :=
    (pss_one (ps_ret (pe_and (pe_callB cz_isi (by rfl) T.n_isinstance Z.boot_isinstance (pa_cons (pv 0) (pa_cons (pe_bltn (by rfl) T.n_int Z.boot_int rfl) pa_nil))) (pe_one (pe_not (pe_callB cz_isi (by rfl) T.n_isinstance Z.boot_isinstance (pa_cons (pv 0) (pa_cons (pe_bltn (by rfl) T.n_bool Z.boot_bool rfl) pa_nil))))))))
/-! _law_box -/
abbrev s_law_box : Stmt := topS 18
abbrev N_law_box : List Str := ["_law_script", "_law_k", "_law_cell"]
theorem sc_law_box : FnScope N_law_box ["_law_script", "_law_k"] (defScope s_law_box) := ⟨rfl, rfl, rfl, by decide +kernel, rfl, by decide +kernel, by decide +kernel⟩
def t_law_box (K : Fg) (Ac : Cs) : TS :=
    (tSeq (tAsg (tOp (rAddZ K) (tOp (rAddZ K) (tOp rMulZ (tC (.int 1009)) (tVar 1)) (tC (.int 77))) (tOp rModZ (tCB (rIntZ) (tCons (tCB (rSumZ K) (tCons (tSl (rSlZ K) (tVar 0) tNoPart (tPart (tC (.int 1)))) tNil)) tNil)) (tC (.int 1000003)))) (gName 2))
    (tSeq (tIfS (tTest (tOp rLtZ (tVar 1) (tCB (rLenZ K) (tCons (tVar 0) tNil)))) (tAsg (tOp (rIxZ K) (tVar 0) (tVar 1)) (gName 2)) tNext)
    (tSeq (tIfS (tTest (tOp rLtZ (tVar 2) (tC (.int 0)))) (tAsg (tOp rSubZ (tC (.int 5)) (tOp rMulZ (tC (.int 2)) (tVar 2))) (gName 2)) tNext)
    (tSeq (tIfS (tTest (tOp rGeZ (tVar 2) (tOp rPowZ (tC (.int 10)) (tC (.int 18))))) (tRet (tLst (tCons (tVar 2) (tCons (tOp rModZ (tCB (rIntZ) (tCons (tVar 2) tNil)) (tC (.int 2147483647))) (tCons (tC (.int 0)) tNil))))) tNext)
    (tRet (tLst (tCons (tC (.int 0)) (tCons (tOp rModZ (tCB (rIntZ) (tCons (tVar 2) tNil)) (tC (.int 2147483647))) (tCons (tC (.int 0)) tNil)))))))))
theorem red_law_box {Ac : Cs} (T : Txt Ac K mg) (f : Addr) (cdv : Value) (A : Around) (outer : List Env) (s : Shared) (H : Hp) (E : XK) (hr : Room 0 (A.deeper (envOfC "_law_box" (defScope s_law_box) s.heap.objs.size f cdv))) :
    PSs (cxOf CX0 P w K mg base N_law_box "_law_box" (defScope s_law_box) f cdv A outer s H E).nox (defBody s_law_box) (t_law_box K Ac) :=
    (pss_cons (ps_set (i := 2) sc_law_box.nd rfl (by first | exact Or.inl rfl | exact Or.inr rfl) (p_add (p_add (p_mul pe_int (pv 1)) pe_int) (p_mod (pe_callTy cz_int (by rfl) T.n_int Z.boot_int (pa_cons (pe_callB (cz_sum rfl) (by rfl) T.n_sum Z.boot_sum (pa_cons (p_sl (pv 0) po_none (po_some pe_int)) pa_nil)) pa_nil)) pe_int)))
    (pss_cons (ps_if (q_lt (pv 1) (pe_callB cz_len (by rfl) T.n_len Z.boot_len (pa_cons (pv 0) pa_nil))) (pss_one (ps_set (i := 2) sc_law_box.nd rfl (by first | exact Or.inl rfl | exact Or.inr rfl) (p_ix (pv 0) (pv 1)))) pss_nil)
    (pss_cons (ps_if (q_lt (pv 2) pe_int) (pss_one (ps_set (i := 2) sc_law_box.nd rfl (by first | exact Or.inl rfl | exact Or.inr rfl) (p_sub pe_int (p_mul pe_int (pv 2))))) pss_nil)
    (pss_cons (ps_if (q_ge (pv 2) (p_pow pe_int pe_int)) (pss_one (ps_ret (pe_lst (pa_cons (pv 2) (pa_cons (p_mod (pe_callTy cz_int (by rfl) T.n_int Z.boot_int (pa_cons (pv 2) pa_nil)) pe_int) (pa_cons pe_int pa_nil)))))) pss_nil)
    (pss_one (ps_ret (pe_lst (pa_cons pe_int (pa_cons (p_mod (pe_callTy cz_int (by rfl) T.n_int Z.boot_int (pa_cons (pv 2) pa_nil)) pe_int) (pa_cons pe_int pa_nil))))))))))
/-! _law_take -/
abbrev s_law_take : Stmt := topS 19
abbrev N_law_take : List Str := ["_law_box_here", "_law_many", "_law_digit", "_law_once", "_law_twice"]
theorem sc_law_take : FnScope N_law_take ["_law_box_here", "_law_many"] (defScope s_law_take) := ⟨rfl, rfl, rfl, by decide +kernel, rfl, by decide +kernel, by decide +kernel⟩
def t_law_take (K : Fg) (Ac : Cs) : TS :=
    (tSeq (tIfS (tTest (tOp rGtZ (tOp (rIxZ K) (tVar 0) (tC (.int 0))) (tC (.int 0)))) (tSeq (tAsg (tOp rModZ (tCB (rIntZ) (tCons (tOp (rIxZ K) (tVar 0) (tC (.int 0))) tNil)) (tVar 1)) (gName 2))
    (tSeq (tAsg (tOp rDivZ (tOp (rIxZ K) (tVar 0) (tC (.int 0))) (tVar 1)) (gSub (tVar 0) (tC (.int 0)) rSetL))
    (tRet (tVar 2)))) tNext)
    (tSeq (tAsg (tOp (rAddZ K) (tOp (rIxZ K) (tVar 0) (tC (.int 2))) (tC (.int 1))) (gSub (tVar 0) (tC (.int 2)) rSetL))
    (tSeq (tAsg (tOp rModZ (tCB (rIntZ) (tCons (tOp (rAddZ K) (tOp (rAddZ K) (tOp rMulZ (tOp (rIxZ K) (tVar 0) (tC (.int 1))) (tC (.int 48271))) (tOp rMulZ (tOp (rIxZ K) (tVar 0) (tC (.int 2))) (tC (.int 69621)))) (tC (.int 12345))) tNil)) (tC (.int 2147483647))) (gName 3))
    (tSeq (tAsg (tOp rModZ (tCB (rIntZ) (tCons (tOp (rAddZ K) (tOp (rAddZ K) (tOp rMulZ (tVar 3) (tVar 3)) (tOp rMulZ (tOp (rIxZ K) (tVar 0) (tC (.int 1))) (tC (.int 40692)))) (tOp rMulZ (tOp (rIxZ K) (tVar 0) (tC (.int 2))) (tC (.int 16807)))) tNil)) (tC (.int 2147483629))) (gName 4))
    (tRet (tOp rModZ (tCB (rIntZ) (tCons (tVar 4) tNil)) (tVar 1)))))))
theorem red_law_take {Ac : Cs} (T : Txt Ac K mg) (f : Addr) (cdv : Value) (A : Around) (outer : List Env) (s : Shared) (H : Hp) (E : XK) (hr : Room 0 (A.deeper (envOfC "_law_take" (defScope s_law_take) s.heap.objs.size f cdv))) :
    PSs (cxOf CX0 P w K mg base N_law_take "_law_take" (defScope s_law_take) f cdv A outer s H E).nox (defBody s_law_take) (t_law_take K Ac) :=
    (pss_cons (ps_if (q_gt (p_ix (pv 0) pe_int) pe_int) (pss_cons (ps_set (i := 2) sc_law_take.nd rfl (by first | exact Or.inl rfl | exact Or.inr rfl) (p_mod (pe_callTy cz_int (by rfl) T.n_int Z.boot_int (pa_cons (p_ix (pv 0) pe_int) pa_nil)) (pv 1)))
    (pss_cons (ps_asg (p_fdiv (p_ix (pv 0) pe_int) (pv 1)) (pg_sub (pv 0) pe_int set_list))
    (pss_one (ps_ret (pv 2))))) pss_nil)
    (pss_cons (ps_asg (p_add (p_ix (pv 0) pe_int) pe_int) (pg_sub (pv 0) pe_int set_list))
    (pss_cons (ps_set (i := 3) sc_law_take.nd rfl (by first | exact Or.inl rfl | exact Or.inr rfl) (p_mod (pe_callTy cz_int (by rfl) T.n_int Z.boot_int (pa_cons (p_add (p_add (p_mul (p_ix (pv 0) pe_int) pe_int) (p_mul (p_ix (pv 0) pe_int) pe_int)) pe_int) pa_nil)) pe_int))
    (pss_cons (ps_set (i := 4) sc_law_take.nd rfl (by first | exact Or.inl rfl | exact Or.inr rfl) (p_mod (pe_callTy cz_int (by rfl) T.n_int Z.boot_int (pa_cons (p_add (p_add (p_mul (pv 3) (pv 3)) (p_mul (p_ix (pv 0) pe_int) pe_int)) (p_mul (p_ix (pv 0) pe_int) pe_int)) pa_nil)) pe_int))
    (pss_one (ps_ret (p_mod (pe_callTy cz_int (by rfl) T.n_int Z.boot_int (pa_cons (pv 4) pa_nil)) (pv 1))))))))
/-! _law_divisor -/
abbrev s_law_divisor : Stmt := topS 20
abbrev N_law_divisor : List Str := ["_law_high", "_law_low", "_law_rest"]
theorem sc_law_divisor : FnScope N_law_divisor ["_law_high", "_law_low"] (defScope s_law_divisor) := ⟨rfl, rfl, rfl, by decide +kernel, rfl, by decide +kernel, by decide +kernel⟩
def t_law_divisor (K : Fg) (Ac : Cs) : TS :=
    (tSeq (tWhile (tTest (tOp (rNeZ K) (tVar 1) (tC (.int 0)))) (tSeq (tAsg (tOp rModZ (tCB (rIntZ) (tCons (tVar 0) tNil)) (tVar 1)) (gName 2))
    (tSeq (tAsg (tVar 1) (gName 0))
    (tAsg (tVar 2) (gName 1)))))
    (tRet (tVar 0)))
theorem red_law_divisor {Ac : Cs} (T : Txt Ac K mg) (f : Addr) (cdv : Value) (A : Around) (outer : List Env) (s : Shared) (H : Hp) (E : XK) (hr : Room 0 (A.deeper (envOfC "_law_divisor" (defScope s_law_divisor) s.heap.objs.size f cdv))) :
    PSs (cxOf CX0 P w K mg base N_law_divisor "_law_divisor" (defScope s_law_divisor) f cdv A outer s H E).nox (defBody s_law_divisor) (t_law_divisor K Ac) :=
    (pss_cons (ps_while PassesOwn.never (q_ne (Room.units hr) (pv 1) pe_int) (pss_cons (ps_set (i := 2) sc_law_divisor.nd rfl (by first | exact Or.inl rfl | exact Or.inr rfl) (p_mod (pe_callTy cz_int (by rfl) T.n_int Z.boot_int (pa_cons (pv 0) pa_nil)) (pv 1)))
    (pss_cons (ps_set (i := 0) sc_law_divisor.nd rfl (by first | exact Or.inl rfl | exact Or.inr rfl) (pv 1))
    (pss_one (ps_set (i := 1) sc_law_divisor.nd rfl (by first | exact Or.inl rfl | exact Or.inr rfl) (pv 2))))))
    (pss_one (ps_ret (pv 0))))
/-! _law_lowest -/
abbrev s_law_lowest : Stmt := topS 21
abbrev N_law_lowest : List Str := ["_law_top", "_law_bottom", "_law_common"]
theorem sc_law_lowest : FnScope N_law_lowest ["_law_top", "_law_bottom"] (defScope s_law_lowest) := ⟨rfl, rfl, rfl, by decide +kernel, rfl, by decide +kernel, by decide +kernel⟩
def t_law_lowest (K : Fg) (Ac : Cs) (S_law_divisor : ZSp) : TS :=
    (tSeq (tAsg (tCB (zcall K S_law_divisor) (tCons (tCB (rAbsZ) (tCons (tVar 0) tNil)) (tCons (tCB (rAbsZ) (tCons (tVar 1) tNil)) tNil))) (gName 2))
    (tSeq (tIfS (tTest (tOp rLtZ (tVar 1) (tC (.int 0)))) (tSeq (tAsg (tUn uNegZ (tVar 0)) (gName 0))
    (tAsg (tUn uNegZ (tVar 1)) (gName 1))) tNext)
    (tRet (tTup (tCons (tOp rDivZ (tVar 0) (tVar 2)) (tCons (tOp rDivZ (tVar 1) (tVar 2)) tNil))))))
theorem red_law_lowest {Ac : Cs} (T : Txt Ac K mg) (S_law_divisor : ZSp)
    (G_law_divisor : FnZ P w K mg base "_law_divisor" 1 S_law_divisor) (f : Addr) (cdv : Value) (A : Around) (outer : List Env) (s : Shared) (H : Hp) (E : XK) (hr : Room 1 (A.deeper (envOfC "_law_lowest" (defScope s_law_lowest) s.heap.objs.size f cdv))) :
    PSs (cxOf CX0 P w K mg base N_law_lowest "_law_lowest" (defScope s_law_lowest) f cdv A outer s H E).nox (defBody s_law_lowest) (t_law_lowest K Ac S_law_divisor) :=
    (pss_cons (ps_set (i := 2) sc_law_lowest.nd rfl (by first | exact Or.inl rfl | exact Or.inr rfl) (p_call G_law_divisor hr (pa_cons (pe_callB cz_abs (by rfl) T.n_abs Z.boot_abs (pa_cons (pv 0) pa_nil)) (pa_cons (pe_callB cz_abs (by rfl) T.n_abs Z.boot_abs (pa_cons (pv 1) pa_nil)) pa_nil))))
    (pss_cons (ps_if (q_lt (pv 1) pe_int) (pss_cons (ps_set (i := 0) sc_law_lowest.nd rfl (by first | exact Or.inl rfl | exact Or.inr rfl) (p_neg (pv 0)))
    (pss_one (ps_set (i := 1) sc_law_lowest.nd rfl (by first | exact Or.inl rfl | exact Or.inr rfl) (p_neg (pv 1))))) pss_nil)
    (pss_one (ps_ret (pe_tup (pa_cons (p_fdiv (pv 0) (pv 2)) (pa_cons (p_fdiv (pv 1) (pv 2)) pa_nil)))))))
/-! _law_integer -/
abbrev s_law_integer : Stmt := topS 22
abbrev N_law_integer : List Str := ["_law_box_here", "_law_size", "_law_far"]
theorem sc_law_integer : FnScope N_law_integer ["_law_box_here"] (defScope s_law_integer) := ⟨rfl, rfl, rfl, by decide +kernel, rfl, by decide +kernel, by decide +kernel⟩
def t_law_integer (K : Fg) (Ac : Cs) (S_law_take : ZSp) : TS :=
    (tSeq (tAsg (tCB (zcall K S_law_take) (tCons (tVar 0) (tCons (tC (.int 6)) tNil))) (gName 1))
    (tSeq (tIfS (tTest (tOp rLtZ (tVar 1) (tC (.int 2)))) (tRet (tOp rSubZ (tCB (zcall K S_law_take) (tCons (tVar 0) (tCons (tC (.int 3)) tNil))) (tC (.int 1)))) tNext)
    (tSeq (tIfS (tTest (tOp rLtZ (tVar 1) (tC (.int 4)))) (tRet (tOp rSubZ (tCB (zcall K S_law_take) (tCons (tVar 0) (tCons (tC (.int 25)) tNil))) (tC (.int 12)))) tNext)
    (tSeq (tIfS (tTest (tOp (rEqZ K) (tVar 1) (tC (.int 4)))) (tRet (tOp rSubZ (tCB (zcall K S_law_take) (tCons (tVar 0) (tCons (tC (.int 2000001)) tNil))) (tC (.int 1000000)))) tNext)
    (tSeq (tAsg (tCB (zcall K S_law_take) (tCons (tVar 0) (tCons (tOp rPowZ (tC (.int 10)) (tC (.int 10))) tNil))) (gName 2))
    (tSeq (tAsg (tOp (rAddZ K) (tOp rMulZ (tVar 2) (tOp rPowZ (tC (.int 10)) (tC (.int 10)))) (tCB (zcall K S_law_take) (tCons (tVar 0) (tCons (tOp rPowZ (tC (.int 10)) (tC (.int 10))) tNil)))) (gName 2))
    (tSeq (tAsg (tOp (rAddZ K) (tOp rMulZ (tVar 2) (tOp rPowZ (tC (.int 10)) (tC (.int 10)))) (tCB (zcall K S_law_take) (tCons (tVar 0) (tCons (tOp rPowZ (tC (.int 10)) (tC (.int 10))) tNil)))) (gName 2))
    (tSeq (tIfS (tTest (tOp (rEqZ K) (tCB (zcall K S_law_take) (tCons (tVar 0) (tCons (tC (.int 2)) tNil))) (tC (.int 1)))) (tRet (tUn uNegZ (tVar 2))) tNext)
    (tRet (tVar 2))))))))))
theorem red_law_integer {Ac : Cs} (T : Txt Ac K mg) (S_law_take : ZSp)
    (G_law_take : FnZ P w K mg base "_law_take" 1 S_law_take) (f : Addr) (cdv : Value) (A : Around) (outer : List Env) (s : Shared) (H : Hp) (E : XK) (hr : Room 1 (A.deeper (envOfC "_law_integer" (defScope s_law_integer) s.heap.objs.size f cdv))) :
    PSs (cxOf CX0 P w K mg base N_law_integer "_law_integer" (defScope s_law_integer) f cdv A outer s H E).nox (defBody s_law_integer) (t_law_integer K Ac S_law_take) :=
    (pss_cons (ps_set (i := 1) sc_law_integer.nd rfl (by first | exact Or.inl rfl | exact Or.inr rfl) (p_call G_law_take hr (pa_cons (pv 0) (pa_cons pe_int pa_nil))))
    (pss_cons (ps_if (q_lt (pv 1) pe_int) (pss_one (ps_ret (p_sub (p_call G_law_take hr (pa_cons (pv 0) (pa_cons pe_int pa_nil))) pe_int))) pss_nil)
    (pss_cons (ps_if (q_lt (pv 1) pe_int) (pss_one (ps_ret (p_sub (p_call G_law_take hr (pa_cons (pv 0) (pa_cons pe_int pa_nil))) pe_int))) pss_nil)
    (pss_cons (ps_if (q_eq (Room.units hr) (pv 1) pe_int) (pss_one (ps_ret (p_sub (p_call G_law_take hr (pa_cons (pv 0) (pa_cons pe_int pa_nil))) pe_int))) pss_nil)
    (pss_cons (ps_set (i := 2) sc_law_integer.nd rfl (by first | exact Or.inl rfl | exact Or.inr rfl) (p_call G_law_take hr (pa_cons (pv 0) (pa_cons (p_pow pe_int pe_int) pa_nil))))
    (pss_cons (ps_set (i := 2) sc_law_integer.nd rfl (by first | exact Or.inl rfl | exact Or.inr rfl) (p_add (p_mul (pv 2) (p_pow pe_int pe_int)) (p_call G_law_take hr (pa_cons (pv 0) (pa_cons (p_pow pe_int pe_int) pa_nil)))))
    (pss_cons (ps_set (i := 2) sc_law_integer.nd rfl (by first | exact Or.inl rfl | exact Or.inr rfl) (p_add (p_mul (pv 2) (p_pow pe_int pe_int)) (p_call G_law_take hr (pa_cons (pv 0) (pa_cons (p_pow pe_int pe_int) pa_nil)))))
    (pss_cons (ps_if (q_eq (Room.units hr) (p_call G_law_take hr (pa_cons (pv 0) (pa_cons pe_int pa_nil))) pe_int) (pss_one (ps_ret (p_neg (pv 2)))) pss_nil)
    (pss_one (ps_ret (pv 2)))))))))))
/-! _law_fraction -/
abbrev s_law_fraction : Stmt := topS 23
abbrev N_law_fraction : List Str := ["_law_box_here", "_law_top", "_law_bottom"]
theorem sc_law_fraction : FnScope N_law_fraction ["_law_box_here"] (defScope s_law_fraction) := ⟨rfl, rfl, rfl, by decide +kernel, rfl, by decide +kernel, by decide +kernel⟩
def t_law_fraction (K : Fg) (Ac : Cs) (S_law_integer : ZSp) (S_law_lowest : ZSp) : TS :=
    (tSeq (tAsg (tCB (zcall K S_law_integer) (tCons (tVar 0) tNil)) (gName 1))
    (tSeq (tAsg (tCB (rAbsZ) (tCons (tCB (zcall K S_law_integer) (tCons (tVar 0) tNil)) tNil)) (gName 2))
    (tSeq (tIfS (tTest (tOp (rEqZ K) (tVar 2) (tC (.int 0)))) (tAsg (tC (.int 1)) (gName 2)) tNext)
    (tRet (tCB (zcall K S_law_lowest) (tCons (tVar 1) (tCons (tVar 2) tNil)))))))
theorem red_law_fraction {Ac : Cs} (T : Txt Ac K mg) (S_law_integer : ZSp) (S_law_lowest : ZSp)
    (G_law_integer : FnZ P w K mg base "_law_integer" 2 S_law_integer)
    (G_law_lowest : FnZ P w K mg base "_law_lowest" 2 S_law_lowest) (f : Addr) (cdv : Value) (A : Around) (outer : List Env) (s : Shared) (H : Hp) (E : XK) (hr : Room 2 (A.deeper (envOfC "_law_fraction" (defScope s_law_fraction) s.heap.objs.size f cdv))) :
    PSs (cxOf CX0 P w K mg base N_law_fraction "_law_fraction" (defScope s_law_fraction) f cdv A outer s H E).nox (defBody s_law_fraction) (t_law_fraction K Ac S_law_integer S_law_lowest) :=
    (pss_cons (ps_set (i := 1) sc_law_fraction.nd rfl (by first | exact Or.inl rfl | exact Or.inr rfl) (p_call G_law_integer hr (pa_cons (pv 0) pa_nil)))
    (pss_cons (ps_set (i := 2) sc_law_fraction.nd rfl (by first | exact Or.inl rfl | exact Or.inr rfl) (pe_callB cz_abs (by rfl) T.n_abs Z.boot_abs (pa_cons (p_call G_law_integer hr (pa_cons (pv 0) pa_nil)) pa_nil)))
    (pss_cons (ps_if (q_eq (Room.units hr) (pv 2) pe_int) (pss_one (ps_set (i := 2) sc_law_fraction.nd rfl (by first | exact Or.inl rfl | exact Or.inr rfl) pe_int)) pss_nil)
    (pss_one (ps_ret (p_call G_law_lowest hr (pa_cons (pv 1) (pa_cons (pv 2) pa_nil))))))))
/-! _law_is_pair -/
abbrev s_law_is_pair : Stmt := topS 24
abbrev N_law_is_pair : List Str := ["_law_actual"]
theorem sc_law_is_pair : FnScope N_law_is_pair ["_law_actual"] (defScope s_law_is_pair) := ⟨rfl, rfl, rfl, by decide +kernel, rfl, by decide +kernel, by decide +kernel⟩
def t_law_is_pair (K : Fg) (Ac : Cs) (S_law_is_integer : ZSp) : TS :=
    (tSeq (tIfS (tOr (tNot (tTruZ K (tCB (rIsiZ K) (tCons (tVar 0) (tCons (tC (.ty "tuple")) tNil))))) (tTest (tOp (rNeZ K) (tCB (rLenZ K) (tCons (tVar 0) tNil)) (tC (.int 2))))) (tRet (tC (.bl false))) tNext)
    (tRet (tAndV (tCB (zcall K S_law_is_integer) (tCons (tOp (rIxZ K) (tVar 0) (tC (.int 0))) tNil)) (tCB (zcall K S_law_is_integer) (tCons (tOp (rIxZ K) (tVar 0) (tC (.int 1))) tNil)))))
theorem red_law_is_pair {Ac : Cs} (T : Txt Ac K mg) (S_law_is_integer : ZSp)
    (G_law_is_integer : FnZ P w K mg base "_law_is_integer" 1 S_law_is_integer) (f : Addr) (cdv : Value) (A : Around) (outer : List Env) (s : Shared) (H : Hp) (E : XK) (hr : Room 1 (A.deeper (envOfC "_law_is_pair" (defScope s_law_is_pair) s.heap.objs.size f cdv))) :
    PSs (cxOf CX0 P w K mg base N_law_is_pair "_law_is_pair" (defScope s_law_is_pair) f cdv A outer s H E).nox (defBody s_law_is_pair) (t_law_is_pair K Ac S_law_is_integer) :=
    (pss_cons (ps_if (PW.pt (pw_or (pt_not (q_truth (pe_callB cz_isi (by rfl) T.n_isinstance Z.boot_isinstance (pa_cons (pv 0) (pa_cons (pe_bltn (by rfl) T.n_tuple Z.boot_tuple rfl) pa_nil))))) (pw_or1 (q_ne (Room.units hr) (pe_callB cz_len (by rfl) T.n_len Z.boot_len (pa_cons (pv 0) pa_nil)) pe_int)))) (pss_one (ps_ret pe_bl)) pss_nil)
    (pss_one (ps_ret (pe_and (p_call G_law_is_integer hr (pa_cons (p_ix (pv 0) pe_int) pa_nil)) (pe_one (p_call G_law_is_integer hr (pa_cons (p_ix (pv 0) pe_int) pa_nil)))))))
/-! _law_same -/
abbrev s_law_same : Stmt := topS 25
abbrev N_law_same : List Str := ["_law_actual", "_law_due"]
theorem sc_law_same : FnScope N_law_same ["_law_actual", "_law_due"] (defScope s_law_same) := ⟨rfl, rfl, rfl, by decide +kernel, rfl, by decide +kernel, by decide +kernel⟩
def t_law_same (K : Fg) (Ac : Cs) (S_law_is_pair : ZSp) : TS :=
    (tRet (tAndV (tCB (zcall K S_law_is_pair) (tCons (tVar 0) tNil)) (tAndV (tOp (rEqZ K) (tOp (rIxZ K) (tVar 0) (tC (.int 0))) (tOp (rIxZ K) (tVar 1) (tC (.int 0)))) (tOp (rEqZ K) (tOp (rIxZ K) (tVar 0) (tC (.int 1))) (tOp (rIxZ K) (tVar 1) (tC (.int 1)))))))
theorem red_law_same {Ac : Cs} (T : Txt Ac K mg) (S_law_is_pair : ZSp)
    (G_law_is_pair : FnZ P w K mg base "_law_is_pair" 2 S_law_is_pair) (f : Addr) (cdv : Value) (A : Around) (outer : List Env) (s : Shared) (H : Hp) (E : XK) (hr : Room 2 (A.deeper (envOfC "_law_same" (defScope s_law_same) s.heap.objs.size f cdv))) :
    PSs (cxOf CX0 P w K mg base N_law_same "_law_same" (defScope s_law_same) f cdv A outer s H E).nox (defBody s_law_same) (t_law_same K Ac S_law_is_pair) :=
    (pss_one (ps_ret (pe_and (p_call G_law_is_pair hr (pa_cons (pv 0) pa_nil)) (pe_and (p_eq (Room.units hr) (p_ix (pv 0) pe_int) (p_ix (pv 1) pe_int)) (pe_one (p_eq (Room.units hr) (p_ix (pv 0) pe_int) (p_ix (pv 1) pe_int)))))))
/-! _law_bound -/
abbrev s_law_bound : Stmt := topS 26
abbrev N_law_bound : List Str := ["_law_box_here", "_law_row", "_law_way", "_law_fresh", "_law_near", "_law_step"]
theorem sc_law_bound : FnScope N_law_bound ["_law_box_here", "_law_row"] (defScope s_law_bound) := ⟨rfl, rfl, rfl, by decide +kernel, rfl, by decide +kernel, by decide +kernel⟩
def t_law_bound (K : Fg) (Ac : Cs) (S_law_take : ZSp) (S_law_fraction : ZSp) (S_law_lowest : ZSp) : TS :=
    (tSeq (tAsg (tCB (zcall K S_law_take) (tCons (tVar 0) (tCons (tC (.int 9)) tNil))) (gName 2))
    (tSeq (tAsg (tCB (zcall K S_law_fraction) (tCons (tVar 0) tNil)) (gName 3))
    (tSeq (tIfS (tTest (tOp (rEqZ K) (tVar 2) (tC (.int 0)))) (tRet (tTup (tCons (tUn uNegZ (tC (.int 1))) (tCons (tC (.int 0)) tNil)))) tNext)
    (tSeq (tIfS (tTest (tOp (rEqZ K) (tVar 2) (tC (.int 1)))) (tRet (tTup (tCons (tC (.int 1)) (tCons (tC (.int 0)) tNil)))) tNext)
    (tSeq (tIfS (tOr (tTest (tOp rGtZ (tVar 2) (tC (.int 4)))) (tTest (tOp (rEqZ K) (tVar 1) (tLst tNil)))) (tRet (tVar 3)) tNext)
    (tSeq (tAsg (tOp (rIxZ K) (tVar 1) (tCB (zcall K S_law_take) (tCons (tVar 0) (tCons (tCB (rLenZ K) (tCons (tVar 1) tNil)) tNil)))) (gName 4))
    (tSeq (tIfS (tTest (tOp (rEqZ K) (tVar 2) (tC (.int 2)))) (tRet (tVar 4)) tNext)
    (tSeq (tIfS (tOr (tTest (tOp (rEqZ K) (tOp (rIxZ K) (tVar 4) (tC (.int 1))) (tC (.int 0)))) (tTest (tOp (rEqZ K) (tVar 2) (tC (.int 3))))) (tRet (tTup (tCons (tUn uNegZ (tOp (rIxZ K) (tVar 4) (tC (.int 0)))) (tCons (tOp (rIxZ K) (tVar 4) (tC (.int 1))) tNil)))) tNext)
    (tSeq (tAsg (tOp (rAddZ K) (tC (.int 1)) (tCB (zcall K S_law_take) (tCons (tVar 0) (tCons (tC (.int 999)) tNil)))) (gName 5))
    (tRet (tCB (zcall K S_law_lowest) (tCons (tOp rSubZ (tOp (rAddZ K) (tOp rMulZ (tOp (rIxZ K) (tVar 4) (tC (.int 0))) (tVar 5)) (tOp rMulZ (tC (.int 2)) (tCB (zcall K S_law_take) (tCons (tVar 0) (tCons (tC (.int 2)) tNil))))) (tC (.int 1))) (tCons (tOp rMulZ (tOp (rIxZ K) (tVar 4) (tC (.int 1))) (tVar 5)) tNil)))))))))))))
theorem red_law_bound {Ac : Cs} (T : Txt Ac K mg) (S_law_take : ZSp) (S_law_fraction : ZSp) (S_law_lowest : ZSp)
    (G_law_take : FnZ P w K mg base "_law_take" 1 S_law_take)
    (G_law_fraction : FnZ P w K mg base "_law_fraction" 3 S_law_fraction)
    (G_law_lowest : FnZ P w K mg base "_law_lowest" 2 S_law_lowest) (f : Addr) (cdv : Value) (A : Around) (outer : List Env) (s : Shared) (H : Hp) (E : XK) (hr : Room 3 (A.deeper (envOfC "_law_bound" (defScope s_law_bound) s.heap.objs.size f cdv))) :
    PSs (cxOf CX0 P w K mg base N_law_bound "_law_bound" (defScope s_law_bound) f cdv A outer s H E).nox (defBody s_law_bound) (t_law_bound K Ac S_law_take S_law_fraction S_law_lowest) :=
    (pss_cons (ps_set (i := 2) sc_law_bound.nd rfl (by first | exact Or.inl rfl | exact Or.inr rfl) (p_call G_law_take hr (pa_cons (pv 0) (pa_cons pe_int pa_nil))))
    (pss_cons (ps_set (i := 3) sc_law_bound.nd rfl (by first | exact Or.inl rfl | exact Or.inr rfl) (p_call G_law_fraction hr (pa_cons (pv 0) pa_nil)))
    (pss_cons (ps_if (q_eq (Room.units hr) (pv 2) pe_int) (pss_one (ps_ret (pe_tup (pa_cons (p_neg pe_int) (pa_cons pe_int pa_nil))))) pss_nil)
    (pss_cons (ps_if (q_eq (Room.units hr) (pv 2) pe_int) (pss_one (ps_ret (pe_tup (pa_cons pe_int (pa_cons pe_int pa_nil))))) pss_nil)
    (pss_cons (ps_if (PW.pt (pw_or (q_gt (pv 2) pe_int) (pw_or1 (q_eq (Room.units hr) (pv 1) (pe_lst pa_nil))))) (pss_one (ps_ret (pv 3))) pss_nil)
    (pss_cons (ps_set (i := 4) sc_law_bound.nd rfl (by first | exact Or.inl rfl | exact Or.inr rfl) (p_ix (pv 1) (p_call G_law_take hr (pa_cons (pv 0) (pa_cons (pe_callB cz_len (by rfl) T.n_len Z.boot_len (pa_cons (pv 1) pa_nil)) pa_nil)))))
    (pss_cons (ps_if (q_eq (Room.units hr) (pv 2) pe_int) (pss_one (ps_ret (pv 4))) pss_nil)
    (pss_cons (ps_if (PW.pt (pw_or (q_eq (Room.units hr) (p_ix (pv 4) pe_int) pe_int) (pw_or1 (q_eq (Room.units hr) (pv 2) pe_int)))) (pss_one (ps_ret (pe_tup (pa_cons (p_neg (p_ix (pv 4) pe_int)) (pa_cons (p_ix (pv 4) pe_int) pa_nil))))) pss_nil)
    (pss_cons (ps_set (i := 5) sc_law_bound.nd rfl (by first | exact Or.inl rfl | exact Or.inr rfl) (p_add pe_int (p_call G_law_take hr (pa_cons (pv 0) (pa_cons pe_int pa_nil)))))
    (pss_one (ps_ret (p_call G_law_lowest hr (pa_cons (p_sub (p_add (p_mul (p_ix (pv 4) pe_int) (pv 5)) (p_mul pe_int (p_call G_law_take hr (pa_cons (pv 0) (pa_cons pe_int pa_nil))))) pe_int) (pa_cons (p_mul (p_ix (pv 4) pe_int) (pv 5)) pa_nil))))))))))))))
/-! _law_level -/
abbrev s_law_level : Stmt := topS 27
abbrev N_law_level : List Str := ["_law_bound_here"]
theorem sc_law_level : FnScope N_law_level ["_law_bound_here"] (defScope s_law_level) := ⟨rfl, rfl, rfl, by decide +kernel, rfl, by decide +kernel, by decide +kernel⟩
def t_law_level (K : Fg) (Ac : Cs) : TS :=
    (tSeq (tIfS (tTest (tOp (rEqZ K) (tOp (rIxZ K) (tVar 0) (tC (.int 1))) (tC (.int 0)))) (tRet (tOp (rIxZ K) (tVar 0) (tC (.int 0)))) tNext)
    (tRet (tC (.int 0))))
theorem red_law_level {Ac : Cs} (T : Txt Ac K mg) (f : Addr) (cdv : Value) (A : Around) (outer : List Env) (s : Shared) (H : Hp) (E : XK) (hr : Room 0 (A.deeper (envOfC "_law_level" (defScope s_law_level) s.heap.objs.size f cdv))) :
    PSs (cxOf CX0 P w K mg base N_law_level "_law_level" (defScope s_law_level) f cdv A outer s H E).nox (defBody s_law_level) (t_law_level K Ac) :=
    (pss_cons (ps_if (q_eq (Room.units hr) (p_ix (pv 0) pe_int) pe_int) (pss_one (ps_ret (p_ix (pv 0) pe_int))) pss_nil)
    (pss_one (ps_ret pe_int)))
/-! _law_is_below -/
abbrev s_law_is_below : Stmt := topS 28
abbrev N_law_is_below : List Str := ["_law_one", "_law_another"]
theorem sc_law_is_below : FnScope N_law_is_below ["_law_one", "_law_another"] (defScope s_law_is_below) := ⟨rfl, rfl, rfl, by decide +kernel, rfl, by decide +kernel, by decide +kernel⟩
def t_law_is_below (K : Fg) (Ac : Cs) (S_law_level : ZSp) : TS :=
    (tSeq (tIfS (tOr (tTest (tOp (rEqZ K) (tOp (rIxZ K) (tVar 0) (tC (.int 1))) (tC (.int 0)))) (tTest (tOp (rEqZ K) (tOp (rIxZ K) (tVar 1) (tC (.int 1))) (tC (.int 0))))) (tRet (tOp rLtZ (tCB (zcall K S_law_level) (tCons (tVar 0) tNil)) (tCB (zcall K S_law_level) (tCons (tVar 1) tNil)))) tNext)
    (tRet (tOp rLtZ (tOp rMulZ (tOp (rIxZ K) (tVar 0) (tC (.int 0))) (tOp (rIxZ K) (tVar 1) (tC (.int 1)))) (tOp rMulZ (tOp (rIxZ K) (tVar 1) (tC (.int 0))) (tOp (rIxZ K) (tVar 0) (tC (.int 1)))))))
theorem red_law_is_below {Ac : Cs} (T : Txt Ac K mg) (S_law_level : ZSp)
    (G_law_level : FnZ P w K mg base "_law_level" 1 S_law_level) (f : Addr) (cdv : Value) (A : Around) (outer : List Env) (s : Shared) (H : Hp) (E : XK) (hr : Room 1 (A.deeper (envOfC "_law_is_below" (defScope s_law_is_below) s.heap.objs.size f cdv))) :
    PSs (cxOf CX0 P w K mg base N_law_is_below "_law_is_below" (defScope s_law_is_below) f cdv A outer s H E).nox (defBody s_law_is_below) (t_law_is_below K Ac S_law_level) :=
    (pss_cons (ps_if (PW.pt (pw_or (q_eq (Room.units hr) (p_ix (pv 0) pe_int) pe_int) (pw_or1 (q_eq (Room.units hr) (p_ix (pv 1) pe_int) pe_int)))) (pss_one (ps_ret (p_lt (p_call G_law_level hr (pa_cons (pv 0) pa_nil)) (p_call G_law_level hr (pa_cons (pv 1) pa_nil))))) pss_nil)
    (pss_one (ps_ret (p_lt (p_mul (p_ix (pv 0) pe_int) (p_ix (pv 1) pe_int)) (p_mul (p_ix (pv 1) pe_int) (p_ix (pv 0) pe_int))))))
/-! _law_order_right -/
abbrev s_law_order_right : Stmt := topS 29
abbrev N_law_order_right : List Str := ["_law_row", "_law_one", "_law_another", "_law_told"]
theorem sc_law_order_right : FnScope N_law_order_right ["_law_row"] (defScope s_law_order_right) := ⟨rfl, rfl, rfl, by decide +kernel, rfl, by decide +kernel, by decide +kernel⟩
def t_law_order_right (K : Fg) (Ac : Cs) (S_below : ZSp) (S_law_is_below : ZSp) : TS :=
    (tSeq (tFor (iSeqZ K (tVar 0)) (gName 1) (tFor (iSeqZ K (tVar 0)) (gName 2) (tSeq (tAsg (tCB (zcall K S_below) (tCons (tVar 1) (tCons (tVar 2) tNil))) (gName 3))
    (tIfS (tOr (tNot (tTruZ K (tCB (rIsiZ K) (tCons (tVar 3) (tCons (tC (.ty "bool")) tNil))))) (tTest (tOp (rNeZ K) (tVar 3) (tCB (zcall K S_law_is_below) (tCons (tVar 1) (tCons (tVar 2) tNil)))))) (tRet (tC (.bl false))) tNext))))
    (tRet (tC (.bl true))))
theorem red_law_order_right {Ac : Cs} (T : Txt Ac K mg) (S_below : ZSp) (S_law_is_below : ZSp)
    (G_below : FnZ P w K mg base "below" 1 S_below)
    (G_law_is_below : FnZ P w K mg base "_law_is_below" 2 S_law_is_below) (f : Addr) (cdv : Value) (A : Around) (outer : List Env) (s : Shared) (H : Hp) (E : XK) (hr : Room 2 (A.deeper (envOfC "_law_order_right" (defScope s_law_order_right) s.heap.objs.size f cdv))) :
    PSs (cxOf CX0 P w K mg base N_law_order_right "_law_order_right" (defScope s_law_order_right) f cdv A outer s H E).nox (defBody s_law_order_right) (t_law_order_right K Ac S_below S_law_is_below) :=
    (pss_cons (ps_for PassesOwn.never rfl (pi_seqZ (pv 0)) (pg_name (i := 1) sc_law_order_right.nd rfl (by first | exact Or.inl rfl | exact Or.inr rfl)) (pss_one (ps_for PassesOwn.never rfl (pi_seqZ (pv 0)) (pg_name (i := 2) sc_law_order_right.nd rfl (by first | exact Or.inl rfl | exact Or.inr rfl)) (pss_cons (ps_set (i := 3) sc_law_order_right.nd rfl (by first | exact Or.inl rfl | exact Or.inr rfl) (p_call G_below hr (pa_cons (pv 1) (pa_cons (pv 2) pa_nil))))
    (pss_one (ps_if (PW.pt (pw_or (pt_not (q_truth (pe_callB cz_isi (by rfl) T.n_isinstance Z.boot_isinstance (pa_cons (pv 3) (pa_cons (pe_bltn (by rfl) T.n_bool Z.boot_bool rfl) pa_nil))))) (pw_or1 (q_ne (Room.units hr) (pv 3) (p_call G_law_is_below hr (pa_cons (pv 1) (pa_cons (pv 2) pa_nil))))))) (pss_one (ps_ret pe_bl)) pss_nil))))))
    (pss_one (ps_ret pe_bl)))
/-! _law_larger -/
abbrev s_law_larger : Stmt := topS 30
abbrev N_law_larger : List Str := ["_law_group"]
theorem sc_law_larger : FnScope N_law_larger ["_law_group"] (defScope s_law_larger) := ⟨rfl, rfl, rfl, by decide +kernel, rfl, by decide +kernel, by decide +kernel⟩
def t_law_larger (K : Fg) (Ac : Cs) (S_larger : ZSp) : TS :=
    (tSeq (tIfS (tTest (tOp (rEqZ K) (tCB (rLenZ K) (tCons (tVar 0) tNil)) (tC (.int 1)))) (tRet (tCB (zcall K S_larger) (tCons (tOp (rIxZ K) (tVar 0) (tC (.int 0))) tNil))) tNext)
    (tSeq (tIfS (tTest (tOp (rEqZ K) (tCB (rLenZ K) (tCons (tVar 0) tNil)) (tC (.int 2)))) (tRet (tCB (zcall K S_larger) (tCons (tOp (rIxZ K) (tVar 0) (tC (.int 0))) (tCons (tOp (rIxZ K) (tVar 0) (tC (.int 1))) tNil)))) tNext)
    (tSeq (tIfS (tTest (tOp (rEqZ K) (tCB (rLenZ K) (tCons (tVar 0) tNil)) (tC (.int 3)))) (tRet (tCB (zcall K S_larger) (tCons (tOp (rIxZ K) (tVar 0) (tC (.int 0))) (tCons (tOp (rIxZ K) (tVar 0) (tC (.int 1))) (tCons (tOp (rIxZ K) (tVar 0) (tC (.int 2))) tNil))))) tNext)
    (tSeq (tIfS (tTest (tOp (rEqZ K) (tCB (rLenZ K) (tCons (tVar 0) tNil)) (tC (.int 4)))) (tRet (tCB (zcall K S_larger) (tCons (tOp (rIxZ K) (tVar 0) (tC (.int 0))) (tCons (tOp (rIxZ K) (tVar 0) (tC (.int 1))) (tCons (tOp (rIxZ K) (tVar 0) (tC (.int 2))) (tCons (tOp (rIxZ K) (tVar 0) (tC (.int 3))) tNil)))))) tNext)
    (tSeq (tIfS (tTest (tOp (rEqZ K) (tCB (rLenZ K) (tCons (tVar 0) tNil)) (tC (.int 5)))) (tRet (tCB (zcall K S_larger) (tCons (tOp (rIxZ K) (tVar 0) (tC (.int 0))) (tCons (tOp (rIxZ K) (tVar 0) (tC (.int 1))) (tCons (tOp (rIxZ K) (tVar 0) (tC (.int 2))) (tCons (tOp (rIxZ K) (tVar 0) (tC (.int 3))) (tCons (tOp (rIxZ K) (tVar 0) (tC (.int 4))) tNil))))))) tNext)
    (tSeq (tIfS (tTest (tOp (rEqZ K) (tCB (rLenZ K) (tCons (tVar 0) tNil)) (tC (.int 6)))) (tRet (tCB (zcall K S_larger) (tCons (tOp (rIxZ K) (tVar 0) (tC (.int 0))) (tCons (tOp (rIxZ K) (tVar 0) (tC (.int 1))) (tCons (tOp (rIxZ K) (tVar 0) (tC (.int 2))) (tCons (tOp (rIxZ K) (tVar 0) (tC (.int 3))) (tCons (tOp (rIxZ K) (tVar 0) (tC (.int 4))) (tCons (tOp (rIxZ K) (tVar 0) (tC (.int 5))) tNil)))))))) tNext)
    (tRet (tCB (zcall K S_larger) (tCons (tOp (rIxZ K) (tVar 0) (tC (.int 0))) (tCons (tOp (rIxZ K) (tVar 0) (tC (.int 1))) (tCons (tOp (rIxZ K) (tVar 0) (tC (.int 2))) (tCons (tOp (rIxZ K) (tVar 0) (tC (.int 3))) (tCons (tOp (rIxZ K) (tVar 0) (tC (.int 4))) (tCons (tOp (rIxZ K) (tVar 0) (tC (.int 5))) (tCons (tOp (rIxZ K) (tVar 0) (tC (.int 6))) (tCons (tOp (rIxZ K) (tVar 0) (tC (.int 7))) (tCons (tOp (rIxZ K) (tVar 0) (tC (.int 8))) tNil)))))))))))))))))
theorem red_law_larger {Ac : Cs} (T : Txt Ac K mg) (S_larger : ZSp)
    (G_larger : FnZR P w K mg base "larger" 2 S_larger) (f : Addr) (cdv : Value) (A : Around) (outer : List Env) (s : Shared) (H : Hp) (E : XK) (hr : Room 2 (A.deeper (envOfC "_law_larger" (defScope s_law_larger) s.heap.objs.size f cdv))) :
    PSs (cxOf CX0 P w K mg base N_law_larger "_law_larger" (defScope s_law_larger) f cdv A outer s H E).nox (defBody s_law_larger) (t_law_larger K Ac S_larger) :=
    (pss_cons (ps_if (q_eq (Room.units hr) (pe_callB cz_len (by rfl) T.n_len Z.boot_len (pa_cons (pv 0) pa_nil)) pe_int) (pss_one (ps_ret (p_callR G_larger hr (pa_cons (p_ix (pv 0) pe_int) pa_nil)))) pss_nil)
    (pss_cons (ps_if (q_eq (Room.units hr) (pe_callB cz_len (by rfl) T.n_len Z.boot_len (pa_cons (pv 0) pa_nil)) pe_int) (pss_one (ps_ret (p_callR G_larger hr (pa_cons (p_ix (pv 0) pe_int) (pa_cons (p_ix (pv 0) pe_int) pa_nil))))) pss_nil)
    (pss_cons (ps_if (q_eq (Room.units hr) (pe_callB cz_len (by rfl) T.n_len Z.boot_len (pa_cons (pv 0) pa_nil)) pe_int) (pss_one (ps_ret (p_callR G_larger hr (pa_cons (p_ix (pv 0) pe_int) (pa_cons (p_ix (pv 0) pe_int) (pa_cons (p_ix (pv 0) pe_int) pa_nil)))))) pss_nil)
    (pss_cons (ps_if (q_eq (Room.units hr) (pe_callB cz_len (by rfl) T.n_len Z.boot_len (pa_cons (pv 0) pa_nil)) pe_int) (pss_one (ps_ret (p_callR G_larger hr (pa_cons (p_ix (pv 0) pe_int) (pa_cons (p_ix (pv 0) pe_int) (pa_cons (p_ix (pv 0) pe_int) (pa_cons (p_ix (pv 0) pe_int) pa_nil))))))) pss_nil)
    (pss_cons (ps_if (q_eq (Room.units hr) (pe_callB cz_len (by rfl) T.n_len Z.boot_len (pa_cons (pv 0) pa_nil)) pe_int) (pss_one (ps_ret (p_callR G_larger hr (pa_cons (p_ix (pv 0) pe_int) (pa_cons (p_ix (pv 0) pe_int) (pa_cons (p_ix (pv 0) pe_int) (pa_cons (p_ix (pv 0) pe_int) (pa_cons (p_ix (pv 0) pe_int) pa_nil)))))))) pss_nil)
    (pss_cons (ps_if (q_eq (Room.units hr) (pe_callB cz_len (by rfl) T.n_len Z.boot_len (pa_cons (pv 0) pa_nil)) pe_int) (pss_one (ps_ret (p_callR G_larger hr (pa_cons (p_ix (pv 0) pe_int) (pa_cons (p_ix (pv 0) pe_int) (pa_cons (p_ix (pv 0) pe_int) (pa_cons (p_ix (pv 0) pe_int) (pa_cons (p_ix (pv 0) pe_int) (pa_cons (p_ix (pv 0) pe_int) pa_nil))))))))) pss_nil)
    (pss_one (ps_ret (p_callR G_larger hr (pa_cons (p_ix (pv 0) pe_int) (pa_cons (p_ix (pv 0) pe_int) (pa_cons (p_ix (pv 0) pe_int) (pa_cons (p_ix (pv 0) pe_int) (pa_cons (p_ix (pv 0) pe_int) (pa_cons (p_ix (pv 0) pe_int) (pa_cons (p_ix (pv 0) pe_int) (pa_cons (p_ix (pv 0) pe_int) (pa_cons (p_ix (pv 0) pe_int) pa_nil))))))))))))))))))
/-! _law_smaller -/
abbrev s_law_smaller : Stmt := topS 31
abbrev N_law_smaller : List Str := ["_law_group"]
theorem sc_law_smaller : FnScope N_law_smaller ["_law_group"] (defScope s_law_smaller) := ⟨rfl, rfl, rfl, by decide +kernel, rfl, by decide +kernel, by decide +kernel⟩
def t_law_smaller (K : Fg) (Ac : Cs) (S_smaller : ZSp) : TS :=
    (tSeq (tIfS (tTest (tOp (rEqZ K) (tCB (rLenZ K) (tCons (tVar 0) tNil)) (tC (.int 1)))) (tRet (tCB (zcall K S_smaller) (tCons (tOp (rIxZ K) (tVar 0) (tC (.int 0))) tNil))) tNext)
    (tSeq (tIfS (tTest (tOp (rEqZ K) (tCB (rLenZ K) (tCons (tVar 0) tNil)) (tC (.int 2)))) (tRet (tCB (zcall K S_smaller) (tCons (tOp (rIxZ K) (tVar 0) (tC (.int 0))) (tCons (tOp (rIxZ K) (tVar 0) (tC (.int 1))) tNil)))) tNext)
    (tSeq (tIfS (tTest (tOp (rEqZ K) (tCB (rLenZ K) (tCons (tVar 0) tNil)) (tC (.int 3)))) (tRet (tCB (zcall K S_smaller) (tCons (tOp (rIxZ K) (tVar 0) (tC (.int 0))) (tCons (tOp (rIxZ K) (tVar 0) (tC (.int 1))) (tCons (tOp (rIxZ K) (tVar 0) (tC (.int 2))) tNil))))) tNext)
    (tSeq (tIfS (tTest (tOp (rEqZ K) (tCB (rLenZ K) (tCons (tVar 0) tNil)) (tC (.int 4)))) (tRet (tCB (zcall K S_smaller) (tCons (tOp (rIxZ K) (tVar 0) (tC (.int 0))) (tCons (tOp (rIxZ K) (tVar 0) (tC (.int 1))) (tCons (tOp (rIxZ K) (tVar 0) (tC (.int 2))) (tCons (tOp (rIxZ K) (tVar 0) (tC (.int 3))) tNil)))))) tNext)
    (tSeq (tIfS (tTest (tOp (rEqZ K) (tCB (rLenZ K) (tCons (tVar 0) tNil)) (tC (.int 5)))) (tRet (tCB (zcall K S_smaller) (tCons (tOp (rIxZ K) (tVar 0) (tC (.int 0))) (tCons (tOp (rIxZ K) (tVar 0) (tC (.int 1))) (tCons (tOp (rIxZ K) (tVar 0) (tC (.int 2))) (tCons (tOp (rIxZ K) (tVar 0) (tC (.int 3))) (tCons (tOp (rIxZ K) (tVar 0) (tC (.int 4))) tNil))))))) tNext)
    (tSeq (tIfS (tTest (tOp (rEqZ K) (tCB (rLenZ K) (tCons (tVar 0) tNil)) (tC (.int 6)))) (tRet (tCB (zcall K S_smaller) (tCons (tOp (rIxZ K) (tVar 0) (tC (.int 0))) (tCons (tOp (rIxZ K) (tVar 0) (tC (.int 1))) (tCons (tOp (rIxZ K) (tVar 0) (tC (.int 2))) (tCons (tOp (rIxZ K) (tVar 0) (tC (.int 3))) (tCons (tOp (rIxZ K) (tVar 0) (tC (.int 4))) (tCons (tOp (rIxZ K) (tVar 0) (tC (.int 5))) tNil)))))))) tNext)
    (tRet (tCB (zcall K S_smaller) (tCons (tOp (rIxZ K) (tVar 0) (tC (.int 0))) (tCons (tOp (rIxZ K) (tVar 0) (tC (.int 1))) (tCons (tOp (rIxZ K) (tVar 0) (tC (.int 2))) (tCons (tOp (rIxZ K) (tVar 0) (tC (.int 3))) (tCons (tOp (rIxZ K) (tVar 0) (tC (.int 4))) (tCons (tOp (rIxZ K) (tVar 0) (tC (.int 5))) (tCons (tOp (rIxZ K) (tVar 0) (tC (.int 6))) (tCons (tOp (rIxZ K) (tVar 0) (tC (.int 7))) (tCons (tOp (rIxZ K) (tVar 0) (tC (.int 8))) tNil)))))))))))))))))
theorem red_law_smaller {Ac : Cs} (T : Txt Ac K mg) (S_smaller : ZSp)
    (G_smaller : FnZR P w K mg base "smaller" 2 S_smaller) (f : Addr) (cdv : Value) (A : Around) (outer : List Env) (s : Shared) (H : Hp) (E : XK) (hr : Room 2 (A.deeper (envOfC "_law_smaller" (defScope s_law_smaller) s.heap.objs.size f cdv))) :
    PSs (cxOf CX0 P w K mg base N_law_smaller "_law_smaller" (defScope s_law_smaller) f cdv A outer s H E).nox (defBody s_law_smaller) (t_law_smaller K Ac S_smaller) :=
    (pss_cons (ps_if (q_eq (Room.units hr) (pe_callB cz_len (by rfl) T.n_len Z.boot_len (pa_cons (pv 0) pa_nil)) pe_int) (pss_one (ps_ret (p_callR G_smaller hr (pa_cons (p_ix (pv 0) pe_int) pa_nil)))) pss_nil)
    (pss_cons (ps_if (q_eq (Room.units hr) (pe_callB cz_len (by rfl) T.n_len Z.boot_len (pa_cons (pv 0) pa_nil)) pe_int) (pss_one (ps_ret (p_callR G_smaller hr (pa_cons (p_ix (pv 0) pe_int) (pa_cons (p_ix (pv 0) pe_int) pa_nil))))) pss_nil)
    (pss_cons (ps_if (q_eq (Room.units hr) (pe_callB cz_len (by rfl) T.n_len Z.boot_len (pa_cons (pv 0) pa_nil)) pe_int) (pss_one (ps_ret (p_callR G_smaller hr (pa_cons (p_ix (pv 0) pe_int) (pa_cons (p_ix (pv 0) pe_int) (pa_cons (p_ix (pv 0) pe_int) pa_nil)))))) pss_nil)
    (pss_cons (ps_if (q_eq (Room.units hr) (pe_callB cz_len (by rfl) T.n_len Z.boot_len (pa_cons (pv 0) pa_nil)) pe_int) (pss_one (ps_ret (p_callR G_smaller hr (pa_cons (p_ix (pv 0) pe_int) (pa_cons (p_ix (pv 0) pe_int) (pa_cons (p_ix (pv 0) pe_int) (pa_cons (p_ix (pv 0) pe_int) pa_nil))))))) pss_nil)
    (pss_cons (ps_if (q_eq (Room.units hr) (pe_callB cz_len (by rfl) T.n_len Z.boot_len (pa_cons (pv 0) pa_nil)) pe_int) (pss_one (ps_ret (p_callR G_smaller hr (pa_cons (p_ix (pv 0) pe_int) (pa_cons (p_ix (pv 0) pe_int) (pa_cons (p_ix (pv 0) pe_int) (pa_cons (p_ix (pv 0) pe_int) (pa_cons (p_ix (pv 0) pe_int) pa_nil)))))))) pss_nil)
    (pss_cons (ps_if (q_eq (Room.units hr) (pe_callB cz_len (by rfl) T.n_len Z.boot_len (pa_cons (pv 0) pa_nil)) pe_int) (pss_one (ps_ret (p_callR G_smaller hr (pa_cons (p_ix (pv 0) pe_int) (pa_cons (p_ix (pv 0) pe_int) (pa_cons (p_ix (pv 0) pe_int) (pa_cons (p_ix (pv 0) pe_int) (pa_cons (p_ix (pv 0) pe_int) (pa_cons (p_ix (pv 0) pe_int) pa_nil))))))))) pss_nil)
    (pss_one (ps_ret (p_callR G_smaller hr (pa_cons (p_ix (pv 0) pe_int) (pa_cons (p_ix (pv 0) pe_int) (pa_cons (p_ix (pv 0) pe_int) (pa_cons (p_ix (pv 0) pe_int) (pa_cons (p_ix (pv 0) pe_int) (pa_cons (p_ix (pv 0) pe_int) (pa_cons (p_ix (pv 0) pe_int) (pa_cons (p_ix (pv 0) pe_int) (pa_cons (p_ix (pv 0) pe_int) pa_nil))))))))))))))))))
/-! _law_total -/
abbrev s_law_total : Stmt := topS 32
abbrev N_law_total : List Str := ["_law_terms"]
theorem sc_law_total : FnScope N_law_total ["_law_terms"] (defScope s_law_total) := ⟨rfl, rfl, rfl, by decide +kernel, rfl, by decide +kernel, by decide +kernel⟩
def t_law_total (K : Fg) (Ac : Cs) (S_total : ZSp) : TS :=
    (tSeq (tIfS (tTest (tOp (rEqZ K) (tVar 0) (tLst tNil))) (tRet (tCB (zcall K S_total) tNil)) tNext)
    (tSeq (tIfS (tTest (tOp (rEqZ K) (tCB (rLenZ K) (tCons (tVar 0) tNil)) (tC (.int 1)))) (tRet (tCB (zcall K S_total) (tCons (tOp (rIxZ K) (tVar 0) (tC (.int 0))) tNil))) tNext)
    (tSeq (tIfS (tTest (tOp (rEqZ K) (tCB (rLenZ K) (tCons (tVar 0) tNil)) (tC (.int 2)))) (tRet (tCB (zcall K S_total) (tCons (tOp (rIxZ K) (tVar 0) (tC (.int 0))) (tCons (tOp (rIxZ K) (tVar 0) (tC (.int 1))) tNil)))) tNext)
    (tSeq (tIfS (tTest (tOp (rEqZ K) (tCB (rLenZ K) (tCons (tVar 0) tNil)) (tC (.int 3)))) (tRet (tCB (zcall K S_total) (tCons (tOp (rIxZ K) (tVar 0) (tC (.int 0))) (tCons (tOp (rIxZ K) (tVar 0) (tC (.int 1))) (tCons (tOp (rIxZ K) (tVar 0) (tC (.int 2))) tNil))))) tNext)
    (tSeq (tIfS (tTest (tOp (rEqZ K) (tCB (rLenZ K) (tCons (tVar 0) tNil)) (tC (.int 4)))) (tRet (tCB (zcall K S_total) (tCons (tOp (rIxZ K) (tVar 0) (tC (.int 0))) (tCons (tOp (rIxZ K) (tVar 0) (tC (.int 1))) (tCons (tOp (rIxZ K) (tVar 0) (tC (.int 2))) (tCons (tOp (rIxZ K) (tVar 0) (tC (.int 3))) tNil)))))) tNext)
    (tSeq (tIfS (tTest (tOp (rEqZ K) (tCB (rLenZ K) (tCons (tVar 0) tNil)) (tC (.int 5)))) (tRet (tCB (zcall K S_total) (tCons (tOp (rIxZ K) (tVar 0) (tC (.int 0))) (tCons (tOp (rIxZ K) (tVar 0) (tC (.int 1))) (tCons (tOp (rIxZ K) (tVar 0) (tC (.int 2))) (tCons (tOp (rIxZ K) (tVar 0) (tC (.int 3))) (tCons (tOp (rIxZ K) (tVar 0) (tC (.int 4))) tNil))))))) tNext)
    (tSeq (tIfS (tTest (tOp (rEqZ K) (tCB (rLenZ K) (tCons (tVar 0) tNil)) (tC (.int 6)))) (tRet (tCB (zcall K S_total) (tCons (tOp (rIxZ K) (tVar 0) (tC (.int 0))) (tCons (tOp (rIxZ K) (tVar 0) (tC (.int 1))) (tCons (tOp (rIxZ K) (tVar 0) (tC (.int 2))) (tCons (tOp (rIxZ K) (tVar 0) (tC (.int 3))) (tCons (tOp (rIxZ K) (tVar 0) (tC (.int 4))) (tCons (tOp (rIxZ K) (tVar 0) (tC (.int 5))) tNil)))))))) tNext)
    (tRet (tCB (zcall K S_total) (tCons (tOp (rIxZ K) (tVar 0) (tC (.int 0))) (tCons (tOp (rIxZ K) (tVar 0) (tC (.int 1))) (tCons (tOp (rIxZ K) (tVar 0) (tC (.int 2))) (tCons (tOp (rIxZ K) (tVar 0) (tC (.int 3))) (tCons (tOp (rIxZ K) (tVar 0) (tC (.int 4))) (tCons (tOp (rIxZ K) (tVar 0) (tC (.int 5))) (tCons (tOp (rIxZ K) (tVar 0) (tC (.int 6))) (tCons (tOp (rIxZ K) (tVar 0) (tC (.int 7))) (tCons (tOp (rIxZ K) (tVar 0) (tC (.int 8))) tNil))))))))))))))))))
theorem red_law_total {Ac : Cs} (T : Txt Ac K mg) (S_total : ZSp)
    (G_total : FnZR P w K mg base "total" 3 S_total) (f : Addr) (cdv : Value) (A : Around) (outer : List Env) (s : Shared) (H : Hp) (E : XK) (hr : Room 3 (A.deeper (envOfC "_law_total" (defScope s_law_total) s.heap.objs.size f cdv))) :
    PSs (cxOf CX0 P w K mg base N_law_total "_law_total" (defScope s_law_total) f cdv A outer s H E).nox (defBody s_law_total) (t_law_total K Ac S_total) :=
    (pss_cons (ps_if (q_eq (Room.units hr) (pv 0) (pe_lst pa_nil)) (pss_one (ps_ret (p_callR0 G_total hr))) pss_nil)
    (pss_cons (ps_if (q_eq (Room.units hr) (pe_callB cz_len (by rfl) T.n_len Z.boot_len (pa_cons (pv 0) pa_nil)) pe_int) (pss_one (ps_ret (p_callR G_total hr (pa_cons (p_ix (pv 0) pe_int) pa_nil)))) pss_nil)
    (pss_cons (ps_if (q_eq (Room.units hr) (pe_callB cz_len (by rfl) T.n_len Z.boot_len (pa_cons (pv 0) pa_nil)) pe_int) (pss_one (ps_ret (p_callR G_total hr (pa_cons (p_ix (pv 0) pe_int) (pa_cons (p_ix (pv 0) pe_int) pa_nil))))) pss_nil)
    (pss_cons (ps_if (q_eq (Room.units hr) (pe_callB cz_len (by rfl) T.n_len Z.boot_len (pa_cons (pv 0) pa_nil)) pe_int) (pss_one (ps_ret (p_callR G_total hr (pa_cons (p_ix (pv 0) pe_int) (pa_cons (p_ix (pv 0) pe_int) (pa_cons (p_ix (pv 0) pe_int) pa_nil)))))) pss_nil)
    (pss_cons (ps_if (q_eq (Room.units hr) (pe_callB cz_len (by rfl) T.n_len Z.boot_len (pa_cons (pv 0) pa_nil)) pe_int) (pss_one (ps_ret (p_callR G_total hr (pa_cons (p_ix (pv 0) pe_int) (pa_cons (p_ix (pv 0) pe_int) (pa_cons (p_ix (pv 0) pe_int) (pa_cons (p_ix (pv 0) pe_int) pa_nil))))))) pss_nil)
    (pss_cons (ps_if (q_eq (Room.units hr) (pe_callB cz_len (by rfl) T.n_len Z.boot_len (pa_cons (pv 0) pa_nil)) pe_int) (pss_one (ps_ret (p_callR G_total hr (pa_cons (p_ix (pv 0) pe_int) (pa_cons (p_ix (pv 0) pe_int) (pa_cons (p_ix (pv 0) pe_int) (pa_cons (p_ix (pv 0) pe_int) (pa_cons (p_ix (pv 0) pe_int) pa_nil)))))))) pss_nil)
    (pss_cons (ps_if (q_eq (Room.units hr) (pe_callB cz_len (by rfl) T.n_len Z.boot_len (pa_cons (pv 0) pa_nil)) pe_int) (pss_one (ps_ret (p_callR G_total hr (pa_cons (p_ix (pv 0) pe_int) (pa_cons (p_ix (pv 0) pe_int) (pa_cons (p_ix (pv 0) pe_int) (pa_cons (p_ix (pv 0) pe_int) (pa_cons (p_ix (pv 0) pe_int) (pa_cons (p_ix (pv 0) pe_int) pa_nil))))))))) pss_nil)
    (pss_one (ps_ret (p_callR G_total hr (pa_cons (p_ix (pv 0) pe_int) (pa_cons (p_ix (pv 0) pe_int) (pa_cons (p_ix (pv 0) pe_int) (pa_cons (p_ix (pv 0) pe_int) (pa_cons (p_ix (pv 0) pe_int) (pa_cons (p_ix (pv 0) pe_int) (pa_cons (p_ix (pv 0) pe_int) (pa_cons (p_ix (pv 0) pe_int) (pa_cons (p_ix (pv 0) pe_int) pa_nil)))))))))))))))))))
/-! _law_greatest -/
abbrev s_law_greatest : Stmt := topS 33
abbrev N_law_greatest : List Str := ["_law_group", "_law_best", "_law_bound_here"]
theorem sc_law_greatest : FnScope N_law_greatest ["_law_group"] (defScope s_law_greatest) := ⟨rfl, rfl, rfl, by decide +kernel, rfl, by decide +kernel, by decide +kernel⟩
def t_law_greatest (K : Fg) (Ac : Cs) (S_law_is_below : ZSp) : TS :=
    (tSeq (tAsg (tOp (rIxZ K) (tVar 0) (tC (.int 0))) (gName 1))
    (tSeq (tFor (iSeqZ K (tVar 0)) (gName 2) (tIfS (tTruZ K (tCB (zcall K S_law_is_below) (tCons (tVar 1) (tCons (tVar 2) tNil)))) (tAsg (tVar 2) (gName 1)) tNext))
    (tRet (tVar 1))))
theorem red_law_greatest {Ac : Cs} (T : Txt Ac K mg) (S_law_is_below : ZSp)
    (G_law_is_below : FnZ P w K mg base "_law_is_below" 2 S_law_is_below) (f : Addr) (cdv : Value) (A : Around) (outer : List Env) (s : Shared) (H : Hp) (E : XK) (hr : Room 2 (A.deeper (envOfC "_law_greatest" (defScope s_law_greatest) s.heap.objs.size f cdv))) :
    PSs (cxOf CX0 P w K mg base N_law_greatest "_law_greatest" (defScope s_law_greatest) f cdv A outer s H E).nox (defBody s_law_greatest) (t_law_greatest K Ac S_law_is_below) :=
    (pss_cons (ps_set (i := 1) sc_law_greatest.nd rfl (by first | exact Or.inl rfl | exact Or.inr rfl) (p_ix (pv 0) pe_int))
    (pss_cons (ps_for PassesOwn.never rfl (pi_seqZ (pv 0)) (pg_name (i := 2) sc_law_greatest.nd rfl (by first | exact Or.inl rfl | exact Or.inr rfl)) (pss_one (ps_if (q_truth (p_call G_law_is_below hr (pa_cons (pv 1) (pa_cons (pv 2) pa_nil)))) (pss_one (ps_set (i := 1) sc_law_greatest.nd rfl (by first | exact Or.inl rfl | exact Or.inr rfl) (pv 2))) pss_nil)))
    (pss_one (ps_ret (pv 1)))))
/-! _law_least -/
abbrev s_law_least : Stmt := topS 34
abbrev N_law_least : List Str := ["_law_group", "_law_best", "_law_bound_here"]
theorem sc_law_least : FnScope N_law_least ["_law_group"] (defScope s_law_least) := ⟨rfl, rfl, rfl, by decide +kernel, rfl, by decide +kernel, by decide +kernel⟩
def t_law_least (K : Fg) (Ac : Cs) (S_law_is_below : ZSp) : TS :=
    (tSeq (tAsg (tOp (rIxZ K) (tVar 0) (tC (.int 0))) (gName 1))
    (tSeq (tFor (iSeqZ K (tVar 0)) (gName 2) (tIfS (tTruZ K (tCB (zcall K S_law_is_below) (tCons (tVar 2) (tCons (tVar 1) tNil)))) (tAsg (tVar 2) (gName 1)) tNext))
    (tRet (tVar 1))))
theorem red_law_least {Ac : Cs} (T : Txt Ac K mg) (S_law_is_below : ZSp)
    (G_law_is_below : FnZ P w K mg base "_law_is_below" 2 S_law_is_below) (f : Addr) (cdv : Value) (A : Around) (outer : List Env) (s : Shared) (H : Hp) (E : XK) (hr : Room 2 (A.deeper (envOfC "_law_least" (defScope s_law_least) s.heap.objs.size f cdv))) :
    PSs (cxOf CX0 P w K mg base N_law_least "_law_least" (defScope s_law_least) f cdv A outer s H E).nox (defBody s_law_least) (t_law_least K Ac S_law_is_below) :=
    (pss_cons (ps_set (i := 1) sc_law_least.nd rfl (by first | exact Or.inl rfl | exact Or.inr rfl) (p_ix (pv 0) pe_int))
    (pss_cons (ps_for PassesOwn.never rfl (pi_seqZ (pv 0)) (pg_name (i := 2) sc_law_least.nd rfl (by first | exact Or.inl rfl | exact Or.inr rfl)) (pss_one (ps_if (q_truth (p_call G_law_is_below hr (pa_cons (pv 2) (pa_cons (pv 1) pa_nil)))) (pss_one (ps_set (i := 1) sc_law_least.nd rfl (by first | exact Or.inl rfl | exact Or.inr rfl) (pv 2))) pss_nil)))
    (pss_one (ps_ret (pv 1)))))
/-! _law_sum -/
abbrev s_law_sum : Stmt := topS 35
abbrev N_law_sum : List Str := ["_law_terms", "_law_top", "_law_under", "_law_term"]
theorem sc_law_sum : FnScope N_law_sum ["_law_terms"] (defScope s_law_sum) := ⟨rfl, rfl, rfl, by decide +kernel, rfl, by decide +kernel, by decide +kernel⟩
def t_law_sum (K : Fg) (Ac : Cs) (S_law_lowest : ZSp) : TS :=
    (tSeq (tAsg (tC (.int 0)) (gName 1))
    (tSeq (tAsg (tC (.int 1)) (gName 2))
    (tSeq (tFor (iSeqZ K (tVar 0)) (gName 3) (tSeq (tAsg (tOp (rAddZ K) (tOp rMulZ (tVar 1) (tOp (rIxZ K) (tVar 3) (tC (.int 1)))) (tOp rMulZ (tOp (rIxZ K) (tVar 3) (tC (.int 0))) (tVar 2))) (gName 1))
    (tAsg (tOp rMulZ (tVar 2) (tOp (rIxZ K) (tVar 3) (tC (.int 1)))) (gName 2))))
    (tRet (tCB (zcall K S_law_lowest) (tCons (tVar 1) (tCons (tVar 2) tNil)))))))
theorem red_law_sum {Ac : Cs} (T : Txt Ac K mg) (S_law_lowest : ZSp)
    (G_law_lowest : FnZ P w K mg base "_law_lowest" 2 S_law_lowest) (f : Addr) (cdv : Value) (A : Around) (outer : List Env) (s : Shared) (H : Hp) (E : XK) (hr : Room 2 (A.deeper (envOfC "_law_sum" (defScope s_law_sum) s.heap.objs.size f cdv))) :
    PSs (cxOf CX0 P w K mg base N_law_sum "_law_sum" (defScope s_law_sum) f cdv A outer s H E).nox (defBody s_law_sum) (t_law_sum K Ac S_law_lowest) :=
    (pss_cons (ps_set (i := 1) sc_law_sum.nd rfl (by first | exact Or.inl rfl | exact Or.inr rfl) pe_int)
    (pss_cons (ps_set (i := 2) sc_law_sum.nd rfl (by first | exact Or.inl rfl | exact Or.inr rfl) pe_int)
    (pss_cons (ps_for PassesOwn.never rfl (pi_seqZ (pv 0)) (pg_name (i := 3) sc_law_sum.nd rfl (by first | exact Or.inl rfl | exact Or.inr rfl)) (pss_cons (ps_set (i := 1) sc_law_sum.nd rfl (by first | exact Or.inl rfl | exact Or.inr rfl) (p_add (p_mul (pv 1) (p_ix (pv 3) pe_int)) (p_mul (p_ix (pv 3) pe_int) (pv 2))))
    (pss_one (ps_set (i := 2) sc_law_sum.nd rfl (by first | exact Or.inl rfl | exact Or.inr rfl) (p_mul (pv 2) (p_ix (pv 3) pe_int))))))
    (pss_one (ps_ret (p_call G_law_lowest hr (pa_cons (pv 1) (pa_cons (pv 2) pa_nil))))))))
/-! _law_groups_right -/
abbrev s_law_groups_right : Stmt := topS 36
abbrev N_law_groups_right : List Str := ["_law_box_here", "_law_row", "_law_size", "_law_group", "_law_k"]
theorem sc_law_groups_right : FnScope N_law_groups_right ["_law_box_here", "_law_row"] (defScope s_law_groups_right) := ⟨rfl, rfl, rfl, by decide +kernel, rfl, by decide +kernel, by decide +kernel⟩
def t_law_groups_right (K : Fg) (Ac : Cs) (S_law_take : ZSp) (S_law_larger : ZSp) (S_law_greatest : ZSp) (S_law_same : ZSp) (S_law_smaller : ZSp) (S_law_least : ZSp) : TS :=
    (tSeq (tFor (iSeqZ K (tLst (tCons (tC (.int 1)) (tCons (tC (.int 2)) (tCons (tC (.int 3)) (tCons (tC (.int 4)) (tCons (tC (.int 5)) (tCons (tC (.int 6)) (tCons (tC (.int 9)) tNil))))))))) (gName 2) (tSeq (tAsg (tLc (iRng1 (tCons (tVar 2) tNil)) (gName 4) tYes (tOp (rIxZ K) (tVar 1) (tCB (zcall K S_law_take) (tCons (tVar 0) (tCons (tCB (rLenZ K) (tCons (tVar 1) tNil)) tNil)))) [4]) (gName 3))
    (tSeq (tIfS (tNot (tTruZ K (tCB (zcall K S_law_same) (tCons (tCB (zcall K S_law_larger) (tCons (tVar 3) tNil)) (tCons (tCB (zcall K S_law_greatest) (tCons (tVar 3) tNil)) tNil))))) (tRet (tC (.bl false))) tNext)
    (tIfS (tNot (tTruZ K (tCB (zcall K S_law_same) (tCons (tCB (zcall K S_law_smaller) (tCons (tVar 3) tNil)) (tCons (tCB (zcall K S_law_least) (tCons (tVar 3) tNil)) tNil))))) (tRet (tC (.bl false))) tNext))))
    (tRet (tC (.bl true))))
theorem red_law_groups_right {Ac : Cs} (T : Txt Ac K mg) (S_law_take : ZSp) (S_law_larger : ZSp) (S_law_greatest : ZSp) (S_law_same : ZSp) (S_law_smaller : ZSp) (S_law_least : ZSp)
    (G_law_take : FnZ P w K mg base "_law_take" 1 S_law_take)
    (G_law_larger : FnZ P w K mg base "_law_larger" 3 S_law_larger)
    (G_law_greatest : FnZ P w K mg base "_law_greatest" 3 S_law_greatest)
    (G_law_same : FnZ P w K mg base "_law_same" 3 S_law_same)
    (G_law_smaller : FnZ P w K mg base "_law_smaller" 3 S_law_smaller)
    (G_law_least : FnZ P w K mg base "_law_least" 3 S_law_least) (f : Addr) (cdv : Value) (A : Around) (outer : List Env) (s : Shared) (H : Hp) (E : XK) (hr : Room 3 (A.deeper (envOfC "_law_groups_right" (defScope s_law_groups_right) s.heap.objs.size f cdv))) :
    PSs (cxOf CX0 P w K mg base N_law_groups_right "_law_groups_right" (defScope s_law_groups_right) f cdv A outer s H E).nox (defBody s_law_groups_right) (t_law_groups_right K Ac S_law_take S_law_larger S_law_greatest S_law_same S_law_smaller S_law_least) :=
    (pss_cons (ps_for PassesOwn.never rfl (pi_seqZ (pe_lst (pa_cons pe_int (pa_cons pe_int (pa_cons pe_int (pa_cons pe_int (pa_cons pe_int (pa_cons pe_int (pa_cons pe_int pa_nil))))))))) (pg_name (i := 2) sc_law_groups_right.nd rfl (by first | exact Or.inl rfl | exact Or.inr rfl)) (pss_cons (ps_setLc (i := 3) (own := [("_law_k", 4)]) rfl sc_law_groups_right.nd rfl (by rfl) (sw_true rfl rfl rfl (by decide +kernel)) (pi_range1 (by rfl) T.n_range (pa_cons (pv 2) pa_nil)) (blkOk_by (by kernel_rfl)) (fun _ _ _ _ _ => (pg_name (i := 4) sc_law_groups_right.nd rfl (by first | exact Or.inl rfl | exact Or.inr rfl))) (fun _ _ _ _ _ => pts_nil) (fun _ _ _ _ _ => (p_ix (pv 1) (p_call G_law_take hr (pa_cons (pv 0) (pa_cons (pe_callB cz_len (by rfl) T.n_len Z.boot_len (pa_cons (pv 1) pa_nil)) pa_nil))))))
    (pss_cons (ps_if (pt_not (q_truth (p_call G_law_same hr (pa_cons (p_call G_law_larger hr (pa_cons (pv 3) pa_nil)) (pa_cons (p_call G_law_greatest hr (pa_cons (pv 3) pa_nil)) pa_nil))))) (pss_one (ps_ret pe_bl)) pss_nil)
    (pss_one (ps_if (pt_not (q_truth (p_call G_law_same hr (pa_cons (p_call G_law_smaller hr (pa_cons (pv 3) pa_nil)) (pa_cons (p_call G_law_least hr (pa_cons (pv 3) pa_nil)) pa_nil))))) (pss_one (ps_ret pe_bl)) pss_nil)))))
    (pss_one (ps_ret pe_bl)))
/-! _law_totals_right -/
abbrev s_law_totals_right : Stmt := topS 37
abbrev N_law_totals_right : List Str := ["_law_box_here", "_law_row", "_law_fractions", "_law_bound_here", "_law_size", "_law_terms", "_law_k"]
theorem sc_law_totals_right : FnScope N_law_totals_right ["_law_box_here", "_law_row"] (defScope s_law_totals_right) := ⟨rfl, rfl, rfl, by decide +kernel, rfl, by decide +kernel, by decide +kernel⟩
def t_law_totals_right (K : Fg) (Ac : Cs) (S_law_take : ZSp) (S_law_total : ZSp) (S_law_sum : ZSp) (S_law_same : ZSp) : TS :=
    (tSeq (tAsg (tLc (iSeqZ K (tVar 1)) (gName 3) (tTest (tOp (rNeZ K) (tOp (rIxZ K) (tVar 3) (tC (.int 1))) (tC (.int 0)))) (tVar 3) [3]) (gName 2))
    (tSeq (tIfS (tTest (tOp (rEqZ K) (tVar 2) (tLst tNil))) (tAsg (tLst (tCons (tTup (tCons (tUn uNegZ (tC (.int 3))) (tCons (tC (.int 7)) tNil))) tNil)) (gName 2)) tNext)
    (tSeq (tFor (iSeqZ K (tLst (tCons (tC (.int 0)) (tCons (tC (.int 1)) (tCons (tC (.int 2)) (tCons (tC (.int 3)) (tCons (tC (.int 4)) (tCons (tC (.int 5)) (tCons (tC (.int 6)) (tCons (tC (.int 9)) tNil)))))))))) (gName 4) (tSeq (tAsg (tLc (iRng1 (tCons (tVar 4) tNil)) (gName 6) tYes (tOp (rIxZ K) (tVar 2) (tCB (zcall K S_law_take) (tCons (tVar 0) (tCons (tCB (rLenZ K) (tCons (tVar 2) tNil)) tNil)))) [6]) (gName 5))
    (tIfS (tNot (tTruZ K (tCB (zcall K S_law_same) (tCons (tCB (zcall K S_law_total) (tCons (tVar 5) tNil)) (tCons (tCB (zcall K S_law_sum) (tCons (tVar 5) tNil)) tNil))))) (tRet (tC (.bl false))) tNext)))
    (tRet (tC (.bl true))))))
theorem red_law_totals_right {Ac : Cs} (T : Txt Ac K mg) (S_law_take : ZSp) (S_law_total : ZSp) (S_law_sum : ZSp) (S_law_same : ZSp)
    (G_law_take : FnZ P w K mg base "_law_take" 1 S_law_take)
    (G_law_total : FnZ P w K mg base "_law_total" 4 S_law_total)
    (G_law_sum : FnZ P w K mg base "_law_sum" 3 S_law_sum)
    (G_law_same : FnZ P w K mg base "_law_same" 3 S_law_same) (f : Addr) (cdv : Value) (A : Around) (outer : List Env) (s : Shared) (H : Hp) (E : XK) (hr : Room 4 (A.deeper (envOfC "_law_totals_right" (defScope s_law_totals_right) s.heap.objs.size f cdv))) :
    PSs (cxOf CX0 P w K mg base N_law_totals_right "_law_totals_right" (defScope s_law_totals_right) f cdv A outer s H E).nox (defBody s_law_totals_right) (t_law_totals_right K Ac S_law_take S_law_total S_law_sum S_law_same) :=
    (pss_cons (ps_set (i := 2) sc_law_totals_right.nd rfl (by first | exact Or.inl rfl | exact Or.inr rfl) (pe_lc (own := [("_law_bound_here", 3)]) rfl sc_law_totals_right.nd (pi_seqZ (pv 1)) (blkOk_by (by kernel_rfl)) (fun _ _ _ _ _ => (pg_name (i := 3) sc_law_totals_right.nd rfl (by first | exact Or.inl rfl | exact Or.inr rfl))) (fun _ _ _ _ _ => (pts_one (q_ne (Room.units hr) (p_ix (pv 3) pe_int) pe_int))) (fun _ _ _ _ _ => (pv 3))))
    (pss_cons (ps_if (q_eq (Room.units hr) (pv 2) (pe_lst pa_nil)) (pss_one (ps_set (i := 2) sc_law_totals_right.nd rfl (by first | exact Or.inl rfl | exact Or.inr rfl) (pe_lst (pa_cons (pe_tup (pa_cons (p_neg pe_int) (pa_cons pe_int pa_nil))) pa_nil)))) pss_nil)
    (pss_cons (ps_for PassesOwn.never rfl (pi_seqZ (pe_lst (pa_cons pe_int (pa_cons pe_int (pa_cons pe_int (pa_cons pe_int (pa_cons pe_int (pa_cons pe_int (pa_cons pe_int (pa_cons pe_int pa_nil)))))))))) (pg_name (i := 4) sc_law_totals_right.nd rfl (by first | exact Or.inl rfl | exact Or.inr rfl)) (pss_cons (ps_setLc (i := 5) (own := [("_law_k", 6)]) rfl sc_law_totals_right.nd rfl (by rfl) (sw_true rfl rfl rfl (by decide +kernel)) (pi_range1 (by rfl) T.n_range (pa_cons (pv 4) pa_nil)) (blkOk_by (by kernel_rfl)) (fun _ _ _ _ _ => (pg_name (i := 6) sc_law_totals_right.nd rfl (by first | exact Or.inl rfl | exact Or.inr rfl))) (fun _ _ _ _ _ => pts_nil) (fun _ _ _ _ _ => (p_ix (pv 2) (p_call G_law_take hr (pa_cons (pv 0) (pa_cons (pe_callB cz_len (by rfl) T.n_len Z.boot_len (pa_cons (pv 2) pa_nil)) pa_nil))))))
    (pss_one (ps_if (pt_not (q_truth (p_call G_law_same hr (pa_cons (p_call G_law_total hr (pa_cons (pv 5) pa_nil)) (pa_cons (p_call G_law_sum hr (pa_cons (pv 5) pa_nil)) pa_nil))))) (pss_one (ps_ret pe_bl)) pss_nil))))
    (pss_one (ps_ret pe_bl)))))
/-! _law_whole_right -/
abbrev s_law_whole_right : Stmt := topS 38
abbrev N_law_whole_right : List Str := ["_law_bound_here", "_law_told"]
theorem sc_law_whole_right : FnScope N_law_whole_right ["_law_bound_here"] (defScope s_law_whole_right) := ⟨rfl, rfl, rfl, by decide +kernel, rfl, by decide +kernel, by decide +kernel⟩
def t_law_whole_right (K : Fg) (Ac : Cs) (S_whole : ZSp) (S_law_same : ZSp) (S_law_is_pair : ZSp) : TS :=
    (tSeq (tAsg (tCB (zcall K S_whole) (tCons (tVar 0) tNil)) (gName 1))
    (tSeq (tIfS (tTest (tOp (rEqZ K) (tOp (rIxZ K) (tVar 0) (tC (.int 1))) (tC (.int 0)))) (tRet (tCB (zcall K S_law_same) (tCons (tVar 1) (tCons (tVar 0) tNil)))) tNext)
    (tSeq (tIfS (tOr (tNot (tTruZ K (tCB (zcall K S_law_is_pair) (tCons (tVar 1) tNil)))) (tTest (tOp (rNeZ K) (tOp (rIxZ K) (tVar 1) (tC (.int 1))) (tC (.int 1))))) (tRet (tC (.bl false))) tNext)
    (tRet (tAndV (tOp rLeZ (tOp rMulZ (tOp (rIxZ K) (tVar 1) (tC (.int 0))) (tOp (rIxZ K) (tVar 0) (tC (.int 1)))) (tOp (rIxZ K) (tVar 0) (tC (.int 0)))) (tOp rLtZ (tOp (rIxZ K) (tVar 0) (tC (.int 0))) (tOp rMulZ (tOp (rAddZ K) (tOp (rIxZ K) (tVar 1) (tC (.int 0))) (tC (.int 1))) (tOp (rIxZ K) (tVar 0) (tC (.int 1))))))))))
theorem red_law_whole_right {Ac : Cs} (T : Txt Ac K mg) (S_whole : ZSp) (S_law_same : ZSp) (S_law_is_pair : ZSp)
    (G_whole : FnZ P w K mg base "whole" 1 S_whole)
    (G_law_same : FnZ P w K mg base "_law_same" 3 S_law_same)
    (G_law_is_pair : FnZ P w K mg base "_law_is_pair" 2 S_law_is_pair) (f : Addr) (cdv : Value) (A : Around) (outer : List Env) (s : Shared) (H : Hp) (E : XK) (hr : Room 3 (A.deeper (envOfC "_law_whole_right" (defScope s_law_whole_right) s.heap.objs.size f cdv))) :
    PSs (cxOf CX0 P w K mg base N_law_whole_right "_law_whole_right" (defScope s_law_whole_right) f cdv A outer s H E).nox (defBody s_law_whole_right) (t_law_whole_right K Ac S_whole S_law_same S_law_is_pair) :=
    (pss_cons (ps_set (i := 1) sc_law_whole_right.nd rfl (by first | exact Or.inl rfl | exact Or.inr rfl) (p_call G_whole hr (pa_cons (pv 0) pa_nil)))
    (pss_cons (ps_if (q_eq (Room.units hr) (p_ix (pv 0) pe_int) pe_int) (pss_one (ps_ret (p_call G_law_same hr (pa_cons (pv 1) (pa_cons (pv 0) pa_nil))))) pss_nil)
    (pss_cons (ps_if (PW.pt (pw_or (pt_not (q_truth (p_call G_law_is_pair hr (pa_cons (pv 1) pa_nil)))) (pw_or1 (q_ne (Room.units hr) (p_ix (pv 1) pe_int) pe_int)))) (pss_one (ps_ret pe_bl)) pss_nil)
    (pss_one (ps_ret (pe_and (p_le (p_mul (p_ix (pv 1) pe_int) (p_ix (pv 0) pe_int)) (p_ix (pv 0) pe_int)) (pe_one (p_lt (p_ix (pv 0) pe_int) (p_mul (p_add (p_ix (pv 1) pe_int) pe_int) (p_ix (pv 0) pe_int))))))))))
/-! _law_number_read -/
abbrev s_law_number_read : Stmt := topS 39
abbrev N_law_number_read : List Str := ["_law_text", "_law_digits", "_law_number", "_law_sign"]
theorem sc_law_number_read : FnScope N_law_number_read ["_law_text"] (defScope s_law_number_read) := ⟨rfl, rfl, rfl, by decide +kernel, rfl, by decide +kernel, by decide +kernel⟩
def t_law_number_read (K : Fg) (Ac : Cs) : TS :=
    (tSeq (tAsg (tVar 0) (gName 1))
    (tSeq (tIfS (tTest (tOp (rEqZ K) (tSl (rSlZ K) (tVar 0) tNoPart (tPart (tC (.int 1)))) (tC (.str "-")))) (tAsg (tSl (rSlZ K) (tVar 0) (tPart (tC (.int 1))) tNoPart) (gName 1)) tNext)
    (tSeq (tIfS (tOr (tTest (tOp (rEqZ K) (tVar 1) (tC (.str "")))) (tAnd (tTest (tOp (rEqZ K) (tOp (rIxZ K) (tVar 1) (tC (.int 0))) (tC (.str "0")))) (tTest (tOp (rNeZ K) (tVar 0) (tC (.str "0")))))) (tRet (tC .non)) tNext)
    (tSeq (tAsg (tC (.int 0)) (gName 2))
    (tSeq (tFor (iSeqZ K (tVar 1)) (gName 3) (tSeq (tIfS (tTest (tOp (rInY K true) (tVar 3) (tC (.str "0123456789")))) (tRet (tC .non)) tNext)
    (tAsg (tOp (rAddZ K) (tOp rMulZ (tVar 2) (tC (.int 10))) (tBM K "str" rFindZ (tC (.str "0123456789")) (tCons (tVar 3) tNil))) (gName 2))))
    (tSeq (tIfS (tTest (tOp (rNeZ K) (tVar 1) (tVar 0))) (tRet (tUn uNegZ (tVar 2))) tNext)
    (tRet (tVar 2))))))))
theorem red_law_number_read {Ac : Cs} (T : Txt Ac K mg) (f : Addr) (cdv : Value) (A : Around) (outer : List Env) (s : Shared) (H : Hp) (E : XK) (hr : Room 0 (A.deeper (envOfC "_law_number_read" (defScope s_law_number_read) s.heap.objs.size f cdv))) :
    PSs (cxOf CX0 P w K mg base N_law_number_read "_law_number_read" (defScope s_law_number_read) f cdv A outer s H E).nox (defBody s_law_number_read) (t_law_number_read K Ac) :=
    (pss_cons (ps_set (i := 1) sc_law_number_read.nd rfl (by first | exact Or.inl rfl | exact Or.inr rfl) (pv 0))
    (pss_cons (ps_if (q_eq (Room.units hr) (p_sl (pv 0) po_none (po_some pe_int)) pe_str) (pss_one (ps_set (i := 1) sc_law_number_read.nd rfl (by first | exact Or.inl rfl | exact Or.inr rfl) (p_sl (pv 0) (po_some pe_int) po_none))) pss_nil)
    (pss_cons (ps_if (PW.pt (pw_or (q_eq (Room.units hr) (pv 1) pe_str) (pw_or1 (PW.pt (pw_and (q_eq (Room.units hr) (p_ix (pv 1) pe_int) pe_str) (pw_and1 (q_ne (Room.units hr) (pv 0) pe_str))))))) (pss_one (ps_ret pe_non)) pss_nil)
    (pss_cons (ps_set (i := 2) sc_law_number_read.nd rfl (by first | exact Or.inl rfl | exact Or.inr rfl) pe_int)
    (pss_cons (ps_for PassesOwn.never rfl (pi_seqZ (pv 1)) (pg_name (i := 3) sc_law_number_read.nd rfl (by first | exact Or.inl rfl | exact Or.inr rfl)) (pss_cons (ps_if (q_notInY (pv 3) pe_str) (pss_one (ps_ret pe_non)) pss_nil)
    (pss_one (ps_set (i := 2) sc_law_number_read.nd rfl (by first | exact Or.inl rfl | exact Or.inr rfl) (p_add (p_mul (pv 2) pe_int) (pe_bm PySem.F.plainAttrs_str PySem.F.slot_str_find PySem.F.type_str_find mt_findZ pe_str (pa_cons (pv 3) pa_nil)))))))
    (pss_cons (ps_if (q_ne (Room.units hr) (pv 1) (pv 0)) (pss_one (ps_ret (p_neg (pv 2)))) pss_nil)
    (pss_one (ps_ret (pv 2)))))))))
/-! _law_bound_read -/
abbrev s_law_bound_read : Stmt := topS 40
abbrev N_law_bound_read : List Str := ["_law_text", "_law_at", "_law_under"]
theorem sc_law_bound_read : FnScope N_law_bound_read ["_law_text"] (defScope s_law_bound_read) := ⟨rfl, rfl, rfl, by decide +kernel, rfl, by decide +kernel, by decide +kernel⟩
def t_law_bound_read (K : Fg) (Ac : Cs) (S_law_number_read : ZSp) : TS :=
    (tSeq (tIfS (tNot (tTruZ K (tCB (rIsiZ K) (tCons (tVar 0) (tCons (tC (.ty "str")) tNil))))) (tRet (tC .non)) tNext)
    (tSeq (tIfS (tTest (tOp (rEqZ K) (tVar 0) (tC (.str "endless")))) (tRet (tTup (tCons (tC (.int 1)) (tCons (tC (.int 0)) tNil)))) tNext)
    (tSeq (tIfS (tTest (tOp (rEqZ K) (tVar 0) (tC (.str "nothing")))) (tRet (tTup (tCons (tUn uNegZ (tC (.int 1))) (tCons (tC (.int 0)) tNil)))) tNext)
    (tSeq (tIfS (tTest (tOp (rInY K true) (tC (.str "/")) (tVar 0))) (tRet (tTup (tCons (tCB (zcall K S_law_number_read) (tCons (tVar 0) tNil)) (tCons (tC (.int 1)) tNil)))) tNext)
    (tSeq (tAsg (tBM K "str" rFindZ (tVar 0) (tCons (tC (.str "/")) tNil)) (gName 1))
    (tSeq (tAsg (tCB (zcall K S_law_number_read) (tCons (tSl (rSlZ K) (tVar 0) (tPart (tOp (rAddZ K) (tVar 1) (tC (.int 1)))) tNoPart) tNil)) (gName 2))
    (tSeq (tIfS (tOr (tTest (tOp rIsNZ (tVar 2) (tC .non))) (tTest (tOp rLtZ (tVar 2) (tC (.int 2))))) (tRet (tC .non)) tNext)
    (tRet (tTup (tCons (tCB (zcall K S_law_number_read) (tCons (tSl (rSlZ K) (tVar 0) tNoPart (tPart (tVar 1))) tNil)) (tCons (tVar 2) tNil)))))))))))
theorem red_law_bound_read {Ac : Cs} (T : Txt Ac K mg) (S_law_number_read : ZSp)
    (G_law_number_read : FnZ P w K mg base "_law_number_read" 1 S_law_number_read) (f : Addr) (cdv : Value) (A : Around) (outer : List Env) (s : Shared) (H : Hp) (E : XK) (hr : Room 1 (A.deeper (envOfC "_law_bound_read" (defScope s_law_bound_read) s.heap.objs.size f cdv))) :
    PSs (cxOf CX0 P w K mg base N_law_bound_read "_law_bound_read" (defScope s_law_bound_read) f cdv A outer s H E).nox (defBody s_law_bound_read) (t_law_bound_read K Ac S_law_number_read) :=
    (pss_cons (ps_if (pt_not (q_truth (pe_callB cz_isi (by rfl) T.n_isinstance Z.boot_isinstance (pa_cons (pv 0) (pa_cons (pe_bltn (by rfl) T.n_str Z.boot_str rfl) pa_nil))))) (pss_one (ps_ret pe_non)) pss_nil)
    (pss_cons (ps_if (q_eq (Room.units hr) (pv 0) pe_str) (pss_one (ps_ret (pe_tup (pa_cons pe_int (pa_cons pe_int pa_nil))))) pss_nil)
    (pss_cons (ps_if (q_eq (Room.units hr) (pv 0) pe_str) (pss_one (ps_ret (pe_tup (pa_cons (p_neg pe_int) (pa_cons pe_int pa_nil))))) pss_nil)
    (pss_cons (ps_if (q_notInY pe_str (pv 0)) (pss_one (ps_ret (pe_tup (pa_cons (p_call G_law_number_read hr (pa_cons (pv 0) pa_nil)) (pa_cons pe_int pa_nil))))) pss_nil)
    (pss_cons (ps_set (i := 1) sc_law_bound_read.nd rfl (by first | exact Or.inl rfl | exact Or.inr rfl) (pe_bm PySem.F.plainAttrs_str PySem.F.slot_str_find PySem.F.type_str_find mt_findZ (pv 0) (pa_cons pe_str pa_nil)))
    (pss_cons (ps_set (i := 2) sc_law_bound_read.nd rfl (by first | exact Or.inl rfl | exact Or.inr rfl) (p_call G_law_number_read hr (pa_cons (p_sl (pv 0) (po_some (p_add (pv 1) pe_int)) po_none) pa_nil)))
    (pss_cons (ps_if (PW.pt (pw_or (q_isN (pv 2) pe_non) (pw_or1 (q_lt (pv 2) pe_int)))) (pss_one (ps_ret pe_non)) pss_nil)
    (pss_one (ps_ret (pe_tup (pa_cons (p_call G_law_number_read hr (pa_cons (p_sl (pv 0) po_none (po_some (pv 1))) pa_nil)) (pa_cons (pv 2) pa_nil))))))))))))
/-! law -/
abbrev s_law : Stmt := topS 41
abbrev N_law : List Str := ["_law_script", "_law_row", "_law_k", "_law_bound_here", "_law_box_here"]
theorem sc_law : FnScope N_law ["_law_script"] (defScope s_law) := ⟨rfl, rfl, rfl, by decide +kernel, rfl, by decide +kernel, by decide +kernel⟩
def t_law (K : Fg) (Ac : Cs) (S_law_same : ZSp) (S_law_box : ZSp) (S_law_bound : ZSp) (S_law_order_right : ZSp) (S_law_whole_right : ZSp) (S_shown : ZSp) (S_law_bound_read : ZSp) (S_law_groups_right : ZSp) (S_law_totals_right : ZSp) : TS :=
    (tSeq (tIfS (tOr (tNot (tTruZ K (tCB (zcall K S_law_same) (tCons (tC Ac.v_ENDLESS) (tCons (tTup (tCons (tC (.int 1)) (tCons (tC (.int 0)) tNil))) tNil))))) (tNot (tTruZ K (tCB (zcall K S_law_same) (tCons (tC Ac.v_NOTHING) (tCons (tTup (tCons (tUn uNegZ (tC (.int 1))) (tCons (tC (.int 0)) tNil))) tNil)))))) (tRet (tC (.bl false))) tNext)
    (tSeq (tAsg (tLst tNil) (gName 1))
    (tSeq (tFor (iRng1 (tCons (tCB rMax2Z (tCons (tC (.int 4)) (tCons (tCB rMin2Z (tCons (tC (.int 40)) (tCons (tOp rSubZ (tCB (rLenZ K) (tCons (tVar 0) tNil)) (tC (.int 1))) tNil))) tNil))) tNil)) (gName 2) (tDrop (tBM K "list" rAppend (tVar 1) (tCons (tCB (zcall K S_law_bound) (tCons (tCB (zcall K S_law_box) (tCons (tVar 0) (tCons (tOp (rAddZ K) (tVar 2) (tC (.int 1))) tNil))) (tCons (tVar 1) tNil))) tNil))))
    (tSeq (tIfS (tNot (tTruZ K (tCB (zcall K S_law_order_right) (tCons (tVar 1) tNil)))) (tRet (tC (.bl false))) tNext)
    (tSeq (tFor (iSeqZ K (tVar 1)) (gName 3) (tIfS (tOr (tNot (tTruZ K (tCB (zcall K S_law_whole_right) (tCons (tVar 3) tNil)))) (tTest (tOp (rNeZ K) (tCB (zcall K S_law_bound_read) (tCons (tCB (zcall K S_shown) (tCons (tVar 3) tNil)) tNil)) (tVar 3)))) (tRet (tC (.bl false))) tNext))
    (tSeq (tAsg (tCB (zcall K S_law_box) (tCons (tVar 0) (tCons (tC (.int 0)) tNil))) (gName 4))
    (tRet (tAndV (tCB (zcall K S_law_groups_right) (tCons (tVar 4) (tCons (tVar 1) tNil))) (tCB (zcall K S_law_totals_right) (tCons (tVar 4) (tCons (tVar 1) tNil)))))))))))
theorem red_law {Ac : Cs} (T : Txt Ac K mg) (S_law_same : ZSp) (S_law_box : ZSp) (S_law_bound : ZSp) (S_law_order_right : ZSp) (S_law_whole_right : ZSp) (S_shown : ZSp) (S_law_bound_read : ZSp) (S_law_groups_right : ZSp) (S_law_totals_right : ZSp)
    (G_law_same : FnZ P w K mg base "_law_same" 3 S_law_same)
    (G_law_box : FnZ P w K mg base "_law_box" 1 S_law_box)
    (G_law_bound : FnZ P w K mg base "_law_bound" 4 S_law_bound)
    (G_law_order_right : FnZ P w K mg base "_law_order_right" 3 S_law_order_right)
    (G_law_whole_right : FnZ P w K mg base "_law_whole_right" 4 S_law_whole_right)
    (G_shown : FnZ P w K mg base "shown" 1 S_shown)
    (G_law_bound_read : FnZ P w K mg base "_law_bound_read" 2 S_law_bound_read)
    (G_law_groups_right : FnZ P w K mg base "_law_groups_right" 4 S_law_groups_right)
    (G_law_totals_right : FnZ P w K mg base "_law_totals_right" 5 S_law_totals_right) (f : Addr) (cdv : Value) (A : Around) (outer : List Env) (s : Shared) (H : Hp) (E : XK) (hr : Room 5 (A.deeper (envOfC "law" (defScope s_law) s.heap.objs.size f cdv))) :
    PSs (cxOf CX0 P w K mg base N_law "law" (defScope s_law) f cdv A outer s H E).nox (defBody s_law) (t_law K Ac S_law_same S_law_box S_law_bound S_law_order_right S_law_whole_right S_shown S_law_bound_read S_law_groups_right S_law_totals_right) :=
    (pss_cons (ps_if (PW.pt (pw_or (pt_not (q_truth (p_call G_law_same hr (pa_cons (pe_cst T.k_ENDLESS) (pa_cons (pe_tup (pa_cons pe_int (pa_cons pe_int pa_nil))) pa_nil))))) (pw_or1 (pt_not (q_truth (p_call G_law_same hr (pa_cons (pe_cst T.k_NOTHING) (pa_cons (pe_tup (pa_cons (p_neg pe_int) (pa_cons pe_int pa_nil))) pa_nil)))))))) (pss_one (ps_ret pe_bl)) pss_nil)
    (pss_cons (ps_set (i := 1) sc_law.nd rfl (by first | exact Or.inl rfl | exact Or.inr rfl) (pe_lst pa_nil))
    (pss_cons (ps_for PassesOwn.never rfl (pi_range1 (by rfl) T.n_range (pa_cons (pe_callB (cz_max2 rfl) (by rfl) T.n_max Z.boot_max (pa_cons pe_int (pa_cons (pe_callB (cz_min2 rfl) (by rfl) T.n_min Z.boot_min (pa_cons pe_int (pa_cons (p_sub (pe_callB cz_len (by rfl) T.n_len Z.boot_len (pa_cons (pv 0) pa_nil)) pe_int) pa_nil))) pa_nil))) pa_nil)) (pg_name (i := 2) sc_law.nd rfl (by first | exact Or.inl rfl | exact Or.inr rfl)) (pss_one (ps_expr (pe_bm PySem.F.plainAttrs_list PySem.F.slot_list_append PySem.F.type_list_append mt_append (pv 1) (pa_cons (p_call G_law_bound hr (pa_cons (p_call G_law_box hr (pa_cons (pv 0) (pa_cons (p_add (pv 2) pe_int) pa_nil))) (pa_cons (pv 1) pa_nil))) pa_nil)))))
    (pss_cons (ps_if (pt_not (q_truth (p_call G_law_order_right hr (pa_cons (pv 1) pa_nil)))) (pss_one (ps_ret pe_bl)) pss_nil)
    (pss_cons (ps_for PassesOwn.never rfl (pi_seqZ (pv 1)) (pg_name (i := 3) sc_law.nd rfl (by first | exact Or.inl rfl | exact Or.inr rfl)) (pss_one (ps_if (PW.pt (pw_or (pt_not (q_truth (p_call G_law_whole_right hr (pa_cons (pv 3) pa_nil)))) (pw_or1 (q_ne (Room.units hr) (p_call G_law_bound_read hr (pa_cons (p_call G_shown hr (pa_cons (pv 3) pa_nil)) pa_nil)) (pv 3))))) (pss_one (ps_ret pe_bl)) pss_nil)))
    (pss_cons (ps_set (i := 4) sc_law.nd rfl (by first | exact Or.inl rfl | exact Or.inr rfl) (p_call G_law_box hr (pa_cons (pv 0) (pa_cons pe_int pa_nil))))
    (pss_one (ps_ret (pe_and (p_call G_law_groups_right hr (pa_cons (pv 4) (pa_cons (pv 1) pa_nil))) (pe_one (p_call G_law_totals_right hr (pa_cons (pv 4) (pa_cons (pv 1) pa_nil)))))))))))))
end
end Qk01
set_option Elab.async false
set_option linter.all false
set_option maxRecDepth 100000
set_option maxHeartbeats 4000000
/-! Printed by mir.py: the mirrors. -/
namespace Qk01
open PySem Z
noncomputable section
def m_fraction (top : D) (bottom : D) : Option (D) :=
((bEq bottom (D.int 0)).bind fun b =>
(if b then
none
else
((dGcd top bottom).bind fun divisor =>
((((bLt bottom (D.int 0)).bind fun b_1 =>
(if b_1 then
((dNeg divisor).bind fun divisor_2 =>
some divisor_2)
else
some divisor)) : Option (D)).bind fun divisor_3 =>
((dDiv top divisor_3).bind fun z =>
((dDiv bottom divisor_3).bind fun z_1 =>
some (D.tup [z, z_1])))))))
def m_plus (first : D) (second : D) : Option (D) :=
(bp (un2 first) fun top bottom =>
(bp (un2 second) fun other_top other_bottom =>
((bEq bottom (D.int 1)).bind fun b =>
((if b then ((bEq other_bottom (D.int 1)).bind fun b_1 =>
some b_1) else some false).bind fun b_2 =>
(if b_2 then
((dAdd top other_top).bind fun z =>
some (D.tup [z, (D.int 1)]))
else
((dMul top other_bottom).bind fun z_1 =>
((dMul other_top bottom).bind fun z_2 =>
((dAdd z_1 z_2).bind fun z_3 =>
((dMul bottom other_bottom).bind fun z_4 =>
((m_fraction z_3 z_4).bind fun r =>
some r))))))))))
def m_total (terms : D) : Option (D) :=
((itStr terms).bind fun ds =>
((foldO (S := D) (fun result_1 d =>
((m_plus result_1 d).bind fun result_3 =>
some result_3)) ds (D.tup [(D.int 0), (D.int 1)])).bind fun result_2 =>
some result_2))
def m_below (first : D) (second : D) : Option (D) :=
(bp (un2 first) fun top bottom =>
(bp (un2 second) fun other_top other_bottom =>
((bEq bottom other_bottom).bind fun b =>
(if b then
((bLt top other_top).bind fun b_1 =>
some (D.bl b_1))
else
((dMul top other_bottom).bind fun z =>
((dMul other_top bottom).bind fun z_1 =>
((bLt z z_1).bind fun b_2 =>
some (D.bl b_2))))))))
def m_larger (first : D) (others : D) : Option (D) :=
((itStr others).bind fun ds =>
((foldO (S := D) (fun result_1 d =>
((m_below result_1 d).bind fun z =>
((bTru z).bind fun b =>
(if b then
some d
else
some result_1)))) ds first).bind fun result_2 =>
some result_2))
def m_smaller (first : D) (others : D) : Option (D) :=
((itStr others).bind fun ds =>
((foldO (S := D) (fun result_1 d =>
((m_below d result_1).bind fun z =>
((bTru z).bind fun b =>
(if b then
some d
else
some result_1)))) ds first).bind fun result_2 =>
some result_2))
def m_whole (bound : D) : Option (D) :=
(bp (un2 bound) fun top bottom =>
((bEq bottom (D.int 0)).bind fun b =>
(if b then
some bound
else
((dDiv top bottom).bind fun z =>
some (D.tup [z, (D.int 1)])))))
def m_shown (bound : D) : Option (D) :=
(bp (un2 bound) fun top bottom =>
((bEq bottom (D.int 0)).bind fun b =>
(if b then
((bGt top (D.int 0)).bind fun b_1 =>
((if b_1 then some (D.str "endless") else some (D.str "nothing") : Option D).bind fun r =>
some r))
else
((bEq bottom (D.int 1)).bind fun b_2 =>
(if b_2 then
((dStr top).bind fun r_1 =>
some r_1)
else
((dFmt top).bind fun txt =>
((dJ Str.empty txt).bind fun acc =>
((dJ acc (D.str "/")).bind fun acc_1 =>
((dFmt bottom).bind fun txt_1 =>
((dJ acc_1 txt_1).bind fun acc_2 =>
some (D.str acc_2)))))))))))
def m_law_is_integer (actual : D) : Option (D) :=
((bIsi actual "int").bind fun b =>
((if b then ((bIsi actual "bool").bind fun b_1 =>
some (D.bl (!b_1))) else some (D.bl false)).bind fun v =>
some v))
def m_law_box (script : D) (k : D) : Option (List D) :=
((dMul (D.int 1009) k).bind fun z =>
((dAdd z (D.int 77)).bind fun z_1 =>
((dPart (D.int 1)).bind fun o =>
((dSlice script none o).bind fun z_2 =>
((dSum z_2).bind fun z_3 =>
((dInt z_3).bind fun z_4 =>
((dMod z_4 (D.int 1000003)).bind fun z_5 =>
((dAdd z_1 z_5).bind fun cell =>
((((dLen script).bind fun z_6 =>
((bLt k z_6).bind fun b =>
(if b then
((dIx script k).bind fun cell_2 =>
some cell_2)
else
some cell))) : Option (D)).bind fun cell_3 =>
((((bLt cell_3 (D.int 0)).bind fun b_1 =>
(if b_1 then
((dMul (D.int 2) cell_3).bind fun z_7 =>
((dSub (D.int 5) z_7).bind fun cell_5 =>
some cell_5))
else
some cell_3)) : Option (D)).bind fun cell_6 =>
((bGe cell_6 (D.int 1000000000000000000)).bind fun b_2 =>
(if b_2 then
((dInt cell_6).bind fun z_8 =>
((dMod z_8 (D.int 2147483647)).bind fun z_9 =>
some [cell_6, z_9, (D.int 0)]))
else
((dInt cell_6).bind fun z_10 =>
((dMod z_10 (D.int 2147483647)).bind fun z_11 =>
some [(D.int 0), z_11, (D.int 0)]))))))))))))))
def m_law_take (box : List D) (many : D) : Option (D × List D) :=
((dIx (D.lst box) (D.int 0)).bind fun z =>
((bGt z (D.int 0)).bind fun b =>
(if b then
((dIx (D.lst box) (D.int 0)).bind fun z_1 =>
((dInt z_1).bind fun z_2 =>
((dMod z_2 many).bind fun digit =>
((dIx (D.lst box) (D.int 0)).bind fun z_3 =>
((dDiv z_3 many).bind fun z_4 =>
((dSet box (D.int 0) z_4).bind fun box_1 =>
some (digit, box_1)))))))
else
((dIx (D.lst box) (D.int 2)).bind fun z_5 =>
((dAdd z_5 (D.int 1)).bind fun z_6 =>
((dSet box (D.int 2) z_6).bind fun box_2 =>
((dIx (D.lst box_2) (D.int 1)).bind fun z_7 =>
((dMul z_7 (D.int 48271)).bind fun z_8 =>
((dIx (D.lst box_2) (D.int 2)).bind fun z_9 =>
((dMul z_9 (D.int 69621)).bind fun z_10 =>
((dAdd z_8 z_10).bind fun z_11 =>
((dAdd z_11 (D.int 12345)).bind fun z_12 =>
((dInt z_12).bind fun z_13 =>
((dMod z_13 (D.int 2147483647)).bind fun once =>
((dMul once once).bind fun z_14 =>
((dIx (D.lst box_2) (D.int 1)).bind fun z_15 =>
((dMul z_15 (D.int 40692)).bind fun z_16 =>
((dAdd z_14 z_16).bind fun z_17 =>
((dIx (D.lst box_2) (D.int 2)).bind fun z_18 =>
((dMul z_18 (D.int 16807)).bind fun z_19 =>
((dAdd z_17 z_19).bind fun z_20 =>
((dInt z_20).bind fun z_21 =>
((dMod z_21 (D.int 2147483629)).bind fun twice =>
((dInt twice).bind fun z_22 =>
((dMod z_22 many).bind fun r =>
some (r, box_2))))))))))))))))))))))))))
def m_law_divisor (high : D) (low : D) : Option (D) :=
(((whl (S := D × D) (R := Empty) (fun (high_2, low_2) =>
((bNe low_2 (D.int 0)).bind fun b =>
(if b then
((dInt high_2).bind fun z =>
((dMod z low_2).bind fun rest =>
some (.nx (low_2, rest))))
else some (.bk (high_2, low_2))))) (high, low)).bind Fl.out).bind fun (high_3, low_3) =>
some high_3)
def m_law_lowest (top : D) (bottom : D) : Option (D) :=
((dAbs top).bind fun z =>
((dAbs bottom).bind fun z_1 =>
((m_law_divisor z z_1).bind fun common =>
((((bLt bottom (D.int 0)).bind fun b =>
(if b then
((dNeg top).bind fun top_2 =>
((dNeg bottom).bind fun bottom_2 =>
some (top_2, bottom_2)))
else
some (top, bottom))) : Option (D × D)).bind fun (top_3, bottom_3) =>
((dDiv top_3 common).bind fun z_2 =>
((dDiv bottom_3 common).bind fun z_3 =>
some (D.tup [z_2, z_3])))))))
def m_law_integer (box : List D) : Option (D × List D) :=
(bp (m_law_take box (D.int 6)) fun size box_1 =>
((bLt size (D.int 2)).bind fun b =>
(if b then
(bp (m_law_take box_1 (D.int 3)) fun z box_2 =>
((dSub z (D.int 1)).bind fun r =>
some (r, box_2)))
else
((bLt size (D.int 4)).bind fun b_1 =>
(if b_1 then
(bp (m_law_take box_1 (D.int 25)) fun z_1 box_3 =>
((dSub z_1 (D.int 12)).bind fun r_1 =>
some (r_1, box_3)))
else
((bEq size (D.int 4)).bind fun b_2 =>
(if b_2 then
(bp (m_law_take box_1 (D.int 2000001)) fun z_2 box_4 =>
((dSub z_2 (D.int 1000000)).bind fun r_2 =>
some (r_2, box_4)))
else
(bp (m_law_take box_1 (D.int 10000000000)) fun far box_5 =>
((dMul far (D.int 10000000000)).bind fun z_3 =>
(bp (m_law_take box_5 (D.int 10000000000)) fun z_4 box_6 =>
((dAdd z_3 z_4).bind fun far_1 =>
((dMul far_1 (D.int 10000000000)).bind fun z_5 =>
(bp (m_law_take box_6 (D.int 10000000000)) fun z_6 box_7 =>
((dAdd z_5 z_6).bind fun far_2 =>
(bp (m_law_take box_7 (D.int 2)) fun z_7 box_8 =>
((bEq z_7 (D.int 1)).bind fun b_3 =>
(if b_3 then
((dNeg far_2).bind fun r_3 =>
some (r_3, box_8))
else
some (far_2, box_8))))))))))))))))))
def m_law_fraction (box : List D) : Option (D × List D) :=
(bp (m_law_integer box) fun top box_1 =>
(bp (m_law_integer box_1) fun z box_2 =>
((dAbs z).bind fun bottom =>
((((bEq bottom (D.int 0)).bind fun b =>
(if b then
some (D.int 1)
else
some bottom)) : Option (D)).bind fun bottom_2 =>
((m_law_lowest top bottom_2).bind fun r =>
some (r, box_2))))))
def m_law_is_pair (actual : D) : Option (D) :=
((bIsi actual "tuple").bind fun b =>
((if (!b) then some true else ((dLen actual).bind fun z =>
((bNe z (D.int 2)).bind fun b_1 =>
some b_1))).bind fun b_2 =>
(if b_2 then
some (D.bl false)
else
((dIx actual (D.int 0)).bind fun z_1 =>
((m_law_is_integer z_1).bind fun z_2 =>
((dBl z_2).bind fun b_3 =>
((if b_3 then ((dIx actual (D.int 1)).bind fun z_3 =>
((m_law_is_integer z_3).bind fun z_4 =>
some z_4)) else some (D.bl false)).bind fun v =>
some v)))))))
def m_law_same (actual : D) (due : D) : Option (D) :=
((m_law_is_pair actual).bind fun z =>
((dBl z).bind fun b =>
((if b then ((dIx actual (D.int 0)).bind fun z_1 =>
((dIx due (D.int 0)).bind fun z_2 =>
((bEq z_1 z_2).bind fun b_1 =>
((if b_1 then ((dIx actual (D.int 1)).bind fun z_3 =>
((dIx due (D.int 1)).bind fun z_4 =>
((bEq z_3 z_4).bind fun b_2 =>
some (D.bl b_2)))) else some (D.bl false)).bind fun v =>
some v)))) else some (D.bl false)).bind fun v_1 =>
some v_1)))
def m_law_bound (box : List D) (row : List D) : Option (D × List D × List D) :=
(bp (m_law_take box (D.int 9)) fun way box_1 =>
(bp (m_law_fraction box_1) fun fresh box_2 =>
((bEq way (D.int 0)).bind fun b =>
(if b then
some ((D.tup [(D.int (-1)), (D.int 0)]), box_2, row)
else
((bEq way (D.int 1)).bind fun b_1 =>
(if b_1 then
some ((D.tup [(D.int 1), (D.int 0)]), box_2, row)
else
((bGt way (D.int 4)).bind fun b_2 =>
((if b_2 then some true else ((bEq (D.lst row) (D.lst [])).bind fun b_3 =>
some b_3)).bind fun b_4 =>
(if b_4 then
some (fresh, box_2, row)
else
((dLen (D.lst row)).bind fun z =>
(bp (m_law_take box_2 z) fun z_1 box_3 =>
((dIx (D.lst row) z_1).bind fun near =>
((bEq way (D.int 2)).bind fun b_5 =>
(if b_5 then
some (near, box_3, row)
else
((dIx near (D.int 1)).bind fun z_2 =>
((bEq z_2 (D.int 0)).bind fun b_6 =>
((if b_6 then some true else ((bEq way (D.int 3)).bind fun b_7 =>
some b_7)).bind fun b_8 =>
(if b_8 then
((dIx near (D.int 0)).bind fun z_3 =>
((dNeg z_3).bind fun z_4 =>
((dIx near (D.int 1)).bind fun z_5 =>
some ((D.tup [z_4, z_5]), box_3, row))))
else
(bp (m_law_take box_3 (D.int 999)) fun z_6 box_4 =>
((dAdd (D.int 1) z_6).bind fun step =>
((dIx near (D.int 0)).bind fun z_7 =>
((dMul z_7 step).bind fun z_8 =>
(bp (m_law_take box_4 (D.int 2)) fun z_9 box_5 =>
((dMul (D.int 2) z_9).bind fun z_10 =>
((dAdd z_8 z_10).bind fun z_11 =>
((dSub z_11 (D.int 1)).bind fun z_12 =>
((dIx near (D.int 1)).bind fun z_13 =>
((dMul z_13 step).bind fun z_14 =>
((m_law_lowest z_12 z_14).bind fun r =>
some (r, box_5, row))))))))))))))))))))))))))))))
def m_law_level (bound : D) : Option (D) :=
((dIx bound (D.int 1)).bind fun z =>
((bEq z (D.int 0)).bind fun b =>
(if b then
((dIx bound (D.int 0)).bind fun r =>
some r)
else
some (D.int 0))))
def m_law_is_below (one : D) (another : D) : Option (D) :=
((dIx one (D.int 1)).bind fun z =>
((bEq z (D.int 0)).bind fun b =>
((if b then some true else ((dIx another (D.int 1)).bind fun z_1 =>
((bEq z_1 (D.int 0)).bind fun b_1 =>
some b_1))).bind fun b_2 =>
(if b_2 then
((m_law_level one).bind fun z_2 =>
((m_law_level another).bind fun z_3 =>
((bLt z_2 z_3).bind fun b_3 =>
some (D.bl b_3))))
else
((dIx one (D.int 0)).bind fun z_4 =>
((dIx another (D.int 1)).bind fun z_5 =>
((dMul z_4 z_5).bind fun z_6 =>
((dIx another (D.int 0)).bind fun z_7 =>
((dIx one (D.int 1)).bind fun z_8 =>
((dMul z_7 z_8).bind fun z_9 =>
((bLt z_6 z_9).bind fun b_4 =>
some (D.bl b_4))))))))))))
def m_law_order_right (row : D) : Option (D) :=
((itStr row).bind fun ds_1 =>
(Fl.fin (forL (S := Unit) (R := D) (fun _ d =>
((itStr row).bind fun ds =>
(Fl.pass (forL (S := Unit) (R := D) (fun _ d_1 =>
((m_below d d_1).bind fun told =>
((bIsi told "bool").bind fun b =>
((if (!b) then some true else ((m_law_is_below d d_1).bind fun z =>
((bNe told z).bind fun b_1 =>
some b_1))).bind fun b_2 =>
(if b_2 then
some (.rt (D.bl false))
else
some (.nx ())))))) ds ()) fun _ =>
some (.nx ())))) ds_1 ()) fun _ =>
some (D.bl true)))
def m_law_larger (group : D) : Option (D) :=
((dLen group).bind fun z =>
((bEq z (D.int 1)).bind fun b =>
(if b then
((dIx group (D.int 0)).bind fun z_1 =>
((m_larger z_1 (D.tup [])).bind fun r =>
some r))
else
((dLen group).bind fun z_2 =>
((bEq z_2 (D.int 2)).bind fun b_1 =>
(if b_1 then
((dIx group (D.int 0)).bind fun z_3 =>
((dIx group (D.int 1)).bind fun z_4 =>
((m_larger z_3 (D.tup [z_4])).bind fun r_1 =>
some r_1)))
else
((dLen group).bind fun z_5 =>
((bEq z_5 (D.int 3)).bind fun b_2 =>
(if b_2 then
((dIx group (D.int 0)).bind fun z_6 =>
((dIx group (D.int 1)).bind fun z_7 =>
((dIx group (D.int 2)).bind fun z_8 =>
((m_larger z_6 (D.tup [z_7, z_8])).bind fun r_2 =>
some r_2))))
else
((dLen group).bind fun z_9 =>
((bEq z_9 (D.int 4)).bind fun b_3 =>
(if b_3 then
((dIx group (D.int 0)).bind fun z_10 =>
((dIx group (D.int 1)).bind fun z_11 =>
((dIx group (D.int 2)).bind fun z_12 =>
((dIx group (D.int 3)).bind fun z_13 =>
((m_larger z_10 (D.tup [z_11, z_12, z_13])).bind fun r_3 =>
some r_3)))))
else
((dLen group).bind fun z_14 =>
((bEq z_14 (D.int 5)).bind fun b_4 =>
(if b_4 then
((dIx group (D.int 0)).bind fun z_15 =>
((dIx group (D.int 1)).bind fun z_16 =>
((dIx group (D.int 2)).bind fun z_17 =>
((dIx group (D.int 3)).bind fun z_18 =>
((dIx group (D.int 4)).bind fun z_19 =>
((m_larger z_15 (D.tup [z_16, z_17, z_18, z_19])).bind fun r_4 =>
some r_4))))))
else
((dLen group).bind fun z_20 =>
((bEq z_20 (D.int 6)).bind fun b_5 =>
(if b_5 then
((dIx group (D.int 0)).bind fun z_21 =>
((dIx group (D.int 1)).bind fun z_22 =>
((dIx group (D.int 2)).bind fun z_23 =>
((dIx group (D.int 3)).bind fun z_24 =>
((dIx group (D.int 4)).bind fun z_25 =>
((dIx group (D.int 5)).bind fun z_26 =>
((m_larger z_21 (D.tup [z_22, z_23, z_24, z_25, z_26])).bind fun r_5 =>
some r_5)))))))
else
((dIx group (D.int 0)).bind fun z_27 =>
((dIx group (D.int 1)).bind fun z_28 =>
((dIx group (D.int 2)).bind fun z_29 =>
((dIx group (D.int 3)).bind fun z_30 =>
((dIx group (D.int 4)).bind fun z_31 =>
((dIx group (D.int 5)).bind fun z_32 =>
((dIx group (D.int 6)).bind fun z_33 =>
((dIx group (D.int 7)).bind fun z_34 =>
((dIx group (D.int 8)).bind fun z_35 =>
((m_larger z_27 (D.tup [z_28, z_29, z_30, z_31, z_32, z_33, z_34, z_35])).bind fun r_6 =>
some r_6))))))))))))))))))))))))))))
def m_law_smaller (group : D) : Option (D) :=
((dLen group).bind fun z =>
((bEq z (D.int 1)).bind fun b =>
(if b then
((dIx group (D.int 0)).bind fun z_1 =>
((m_smaller z_1 (D.tup [])).bind fun r =>
some r))
else
((dLen group).bind fun z_2 =>
((bEq z_2 (D.int 2)).bind fun b_1 =>
(if b_1 then
((dIx group (D.int 0)).bind fun z_3 =>
((dIx group (D.int 1)).bind fun z_4 =>
((m_smaller z_3 (D.tup [z_4])).bind fun r_1 =>
some r_1)))
else
((dLen group).bind fun z_5 =>
((bEq z_5 (D.int 3)).bind fun b_2 =>
(if b_2 then
((dIx group (D.int 0)).bind fun z_6 =>
((dIx group (D.int 1)).bind fun z_7 =>
((dIx group (D.int 2)).bind fun z_8 =>
((m_smaller z_6 (D.tup [z_7, z_8])).bind fun r_2 =>
some r_2))))
else
((dLen group).bind fun z_9 =>
((bEq z_9 (D.int 4)).bind fun b_3 =>
(if b_3 then
((dIx group (D.int 0)).bind fun z_10 =>
((dIx group (D.int 1)).bind fun z_11 =>
((dIx group (D.int 2)).bind fun z_12 =>
((dIx group (D.int 3)).bind fun z_13 =>
((m_smaller z_10 (D.tup [z_11, z_12, z_13])).bind fun r_3 =>
some r_3)))))
else
((dLen group).bind fun z_14 =>
((bEq z_14 (D.int 5)).bind fun b_4 =>
(if b_4 then
((dIx group (D.int 0)).bind fun z_15 =>
((dIx group (D.int 1)).bind fun z_16 =>
((dIx group (D.int 2)).bind fun z_17 =>
((dIx group (D.int 3)).bind fun z_18 =>
((dIx group (D.int 4)).bind fun z_19 =>
((m_smaller z_15 (D.tup [z_16, z_17, z_18, z_19])).bind fun r_4 =>
some r_4))))))
else
((dLen group).bind fun z_20 =>
((bEq z_20 (D.int 6)).bind fun b_5 =>
(if b_5 then
((dIx group (D.int 0)).bind fun z_21 =>
((dIx group (D.int 1)).bind fun z_22 =>
((dIx group (D.int 2)).bind fun z_23 =>
((dIx group (D.int 3)).bind fun z_24 =>
((dIx group (D.int 4)).bind fun z_25 =>
((dIx group (D.int 5)).bind fun z_26 =>
((m_smaller z_21 (D.tup [z_22, z_23, z_24, z_25, z_26])).bind fun r_5 =>
some r_5)))))))
else
((dIx group (D.int 0)).bind fun z_27 =>
((dIx group (D.int 1)).bind fun z_28 =>
((dIx group (D.int 2)).bind fun z_29 =>
((dIx group (D.int 3)).bind fun z_30 =>
((dIx group (D.int 4)).bind fun z_31 =>
((dIx group (D.int 5)).bind fun z_32 =>
((dIx group (D.int 6)).bind fun z_33 =>
((dIx group (D.int 7)).bind fun z_34 =>
((dIx group (D.int 8)).bind fun z_35 =>
((m_smaller z_27 (D.tup [z_28, z_29, z_30, z_31, z_32, z_33, z_34, z_35])).bind fun r_6 =>
some r_6))))))))))))))))))))))))))))
def m_law_total (terms : D) : Option (D) :=
((bEq terms (D.lst [])).bind fun b =>
(if b then
((m_total (D.tup [])).bind fun r =>
some r)
else
((dLen terms).bind fun z =>
((bEq z (D.int 1)).bind fun b_1 =>
(if b_1 then
((dIx terms (D.int 0)).bind fun z_1 =>
((m_total (D.tup [z_1])).bind fun r_1 =>
some r_1))
else
((dLen terms).bind fun z_2 =>
((bEq z_2 (D.int 2)).bind fun b_2 =>
(if b_2 then
((dIx terms (D.int 0)).bind fun z_3 =>
((dIx terms (D.int 1)).bind fun z_4 =>
((m_total (D.tup [z_3, z_4])).bind fun r_2 =>
some r_2)))
else
((dLen terms).bind fun z_5 =>
((bEq z_5 (D.int 3)).bind fun b_3 =>
(if b_3 then
((dIx terms (D.int 0)).bind fun z_6 =>
((dIx terms (D.int 1)).bind fun z_7 =>
((dIx terms (D.int 2)).bind fun z_8 =>
((m_total (D.tup [z_6, z_7, z_8])).bind fun r_3 =>
some r_3))))
else
((dLen terms).bind fun z_9 =>
((bEq z_9 (D.int 4)).bind fun b_4 =>
(if b_4 then
((dIx terms (D.int 0)).bind fun z_10 =>
((dIx terms (D.int 1)).bind fun z_11 =>
((dIx terms (D.int 2)).bind fun z_12 =>
((dIx terms (D.int 3)).bind fun z_13 =>
((m_total (D.tup [z_10, z_11, z_12, z_13])).bind fun r_4 =>
some r_4)))))
else
((dLen terms).bind fun z_14 =>
((bEq z_14 (D.int 5)).bind fun b_5 =>
(if b_5 then
((dIx terms (D.int 0)).bind fun z_15 =>
((dIx terms (D.int 1)).bind fun z_16 =>
((dIx terms (D.int 2)).bind fun z_17 =>
((dIx terms (D.int 3)).bind fun z_18 =>
((dIx terms (D.int 4)).bind fun z_19 =>
((m_total (D.tup [z_15, z_16, z_17, z_18, z_19])).bind fun r_5 =>
some r_5))))))
else
((dLen terms).bind fun z_20 =>
((bEq z_20 (D.int 6)).bind fun b_6 =>
(if b_6 then
((dIx terms (D.int 0)).bind fun z_21 =>
((dIx terms (D.int 1)).bind fun z_22 =>
((dIx terms (D.int 2)).bind fun z_23 =>
((dIx terms (D.int 3)).bind fun z_24 =>
((dIx terms (D.int 4)).bind fun z_25 =>
((dIx terms (D.int 5)).bind fun z_26 =>
((m_total (D.tup [z_21, z_22, z_23, z_24, z_25, z_26])).bind fun r_6 =>
some r_6)))))))
else
((dIx terms (D.int 0)).bind fun z_27 =>
((dIx terms (D.int 1)).bind fun z_28 =>
((dIx terms (D.int 2)).bind fun z_29 =>
((dIx terms (D.int 3)).bind fun z_30 =>
((dIx terms (D.int 4)).bind fun z_31 =>
((dIx terms (D.int 5)).bind fun z_32 =>
((dIx terms (D.int 6)).bind fun z_33 =>
((dIx terms (D.int 7)).bind fun z_34 =>
((dIx terms (D.int 8)).bind fun z_35 =>
((m_total (D.tup [z_27, z_28, z_29, z_30, z_31, z_32, z_33, z_34, z_35])).bind fun r_7 =>
some r_7))))))))))))))))))))))))))))))
def m_law_greatest (group : D) : Option (D) :=
((dIx group (D.int 0)).bind fun best =>
((itStr group).bind fun ds =>
((foldO (S := D) (fun best_2 d =>
((m_law_is_below best_2 d).bind fun z =>
((bTru z).bind fun b =>
(if b then
some d
else
some best_2)))) ds best).bind fun best_3 =>
some best_3)))
def m_law_least (group : D) : Option (D) :=
((dIx group (D.int 0)).bind fun best =>
((itStr group).bind fun ds =>
((foldO (S := D) (fun best_2 d =>
((m_law_is_below d best_2).bind fun z =>
((bTru z).bind fun b =>
(if b then
some d
else
some best_2)))) ds best).bind fun best_3 =>
some best_3)))
def m_law_sum (terms : D) : Option (D) :=
((itStr terms).bind fun ds =>
((foldO (S := D × D) (fun (top_1, under_1) d =>
((dIx d (D.int 1)).bind fun z =>
((dMul top_1 z).bind fun z_1 =>
((dIx d (D.int 0)).bind fun z_2 =>
((dMul z_2 under_1).bind fun z_3 =>
((dAdd z_1 z_3).bind fun top_3 =>
((dIx d (D.int 1)).bind fun z_4 =>
((dMul under_1 z_4).bind fun under_3 =>
some (top_3, under_3))))))))) ds ((D.int 0), (D.int 1))).bind fun (top_2, under_2) =>
((m_law_lowest top_2 under_2).bind fun r =>
some r)))
def m_law_groups_right (box : List D) (row : D) : Option (D × List D) :=
((itStr (D.lst [(D.int 1), (D.int 2), (D.int 3), (D.int 4), (D.int 5), (D.int 6), (D.int 9)])).bind fun ds_1 =>
(Fl.fin (forL (S := List D) (R := D × List D) (fun box_2 d =>
((itRng1 d).bind fun ds =>
(bp (lcS (S := List D) (fun box_4 d_1 =>
((dLen row).bind fun z =>
(bp (m_law_take box_4 z) fun z_1 box_6 =>
((dIx row z_1).bind fun z_2 =>
some (z_2, box_6))))) ds box_2) fun group box_7 =>
((m_law_larger (D.lst group)).bind fun z_3 =>
((m_law_greatest (D.lst group)).bind fun z_4 =>
((m_law_same z_3 z_4).bind fun z_5 =>
((bTru z_5).bind fun b =>
(if (!b) then
some (.rt ((D.bl false), box_7))
else
((m_law_smaller (D.lst group)).bind fun z_6 =>
((m_law_least (D.lst group)).bind fun z_7 =>
((m_law_same z_6 z_7).bind fun z_8 =>
((bTru z_8).bind fun b_1 =>
(if (!b_1) then
some (.rt ((D.bl false), box_7))
else
some (.nx box_7)))))))))))))) ds_1 box) fun box_3 =>
some ((D.bl true), box_3)))
def m_law_totals_right (box : List D) (row : D) : Option (D × List D) :=
((itStr row).bind fun ds =>
((lcF (fun d =>
((dIx d (D.int 1)).bind fun z =>
((bNe z (D.int 0)).bind fun b =>
(if b then some (some d) else some none)))) ds).bind fun fractions =>
((((bEq (D.lst fractions) (D.lst [])).bind fun b_1 =>
(if b_1 then
some (D.lst [(D.tup [(D.int (-3)), (D.int 7)])])
else
some (D.lst fractions))) : Option (D)).bind fun fractions_2 =>
((itStr (D.lst [(D.int 0), (D.int 1), (D.int 2), (D.int 3), (D.int 4), (D.int 5), (D.int 6), (D.int 9)])).bind fun ds_2 =>
(Fl.fin (forL (S := List D) (R := D × List D) (fun box_2 d_1 =>
((itRng1 d_1).bind fun ds_1 =>
(bp (lcS (S := List D) (fun box_4 d_2 =>
((dLen fractions_2).bind fun z_1 =>
(bp (m_law_take box_4 z_1) fun z_2 box_6 =>
((dIx fractions_2 z_2).bind fun z_3 =>
some (z_3, box_6))))) ds_1 box_2) fun terms box_7 =>
((m_law_total (D.lst terms)).bind fun z_4 =>
((m_law_sum (D.lst terms)).bind fun z_5 =>
((m_law_same z_4 z_5).bind fun z_6 =>
((bTru z_6).bind fun b_2 =>
(if (!b_2) then
some (.rt ((D.bl false), box_7))
else
some (.nx box_7))))))))) ds_2 box) fun box_3 =>
some ((D.bl true), box_3))))))
def m_law_whole_right (bound : D) : Option (D) :=
((m_whole bound).bind fun told =>
((dIx bound (D.int 1)).bind fun z =>
((bEq z (D.int 0)).bind fun b =>
(if b then
((m_law_same told bound).bind fun r =>
some r)
else
((m_law_is_pair told).bind fun z_1 =>
((bTru z_1).bind fun b_1 =>
((if (!b_1) then some true else ((dIx told (D.int 1)).bind fun z_2 =>
((bNe z_2 (D.int 1)).bind fun b_2 =>
some b_2))).bind fun b_3 =>
(if b_3 then
some (D.bl false)
else
((dIx told (D.int 0)).bind fun z_3 =>
((dIx bound (D.int 1)).bind fun z_4 =>
((dMul z_3 z_4).bind fun z_5 =>
((dIx bound (D.int 0)).bind fun z_6 =>
((bLe z_5 z_6).bind fun b_4 =>
((if b_4 then ((dIx bound (D.int 0)).bind fun z_7 =>
((dIx told (D.int 0)).bind fun z_8 =>
((dAdd z_8 (D.int 1)).bind fun z_9 =>
((dIx bound (D.int 1)).bind fun z_10 =>
((dMul z_9 z_10).bind fun z_11 =>
((bLt z_7 z_11).bind fun b_5 =>
some (D.bl b_5))))))) else some (D.bl false)).bind fun v =>
some v))))))))))))))
def m_law_number_read (text : D) : Option (D) :=
((((dPart (D.int 1)).bind fun o =>
((dSlice text none o).bind fun z =>
((bEq z (D.str "-")).bind fun b =>
(if b then
((dPart (D.int 1)).bind fun o_1 =>
((dSlice text o_1 none).bind fun digits_1 =>
some digits_1))
else
some text)))) : Option (D)).bind fun digits_2 =>
((bEq digits_2 (D.str "")).bind fun b_1 =>
((if b_1 then some true else ((dIx digits_2 (D.int 0)).bind fun z_1 =>
((bEq z_1 (D.str "0")).bind fun b_2 =>
((if b_2 then ((bNe text (D.str "0")).bind fun b_3 =>
some b_3) else some false).bind fun b_4 =>
some b_4)))).bind fun b_5 =>
(if b_5 then
some D.non
else
((itStr digits_2).bind fun ds =>
(Fl.fin (forL (S := D) (R := D) (fun number_1 d =>
((bInY d (D.str "0123456789")).bind fun b_6 =>
(if (!b_6) then
some (.rt D.non)
else
((dMul number_1 (D.int 10)).bind fun z_2 =>
((isS (D.str "0123456789")).bind fun s =>
((dFind (D.str "0123456789") d).bind fun z_3 =>
((dAdd z_2 z_3).bind fun number_3 =>
some (.nx number_3)))))))) ds (D.int 0)) fun number_2 =>
((bNe digits_2 text).bind fun b_7 =>
(if b_7 then
((dNeg number_2).bind fun r =>
some r)
else
some number_2))))))))
def m_law_bound_read (text : D) : Option (D) :=
((bIsi text "str").bind fun b =>
(if (!b) then
some D.non
else
((bEq text (D.str "endless")).bind fun b_1 =>
(if b_1 then
some (D.tup [(D.int 1), (D.int 0)])
else
((bEq text (D.str "nothing")).bind fun b_2 =>
(if b_2 then
some (D.tup [(D.int (-1)), (D.int 0)])
else
((bInY (D.str "/") text).bind fun b_3 =>
(if (!b_3) then
((m_law_number_read text).bind fun z =>
some (D.tup [z, (D.int 1)]))
else
((isS text).bind fun s =>
((dFind text (D.str "/")).bind fun at' =>
((dAdd at' (D.int 1)).bind fun z_1 =>
((dPart z_1).bind fun o =>
((dSlice text o none).bind fun z_2 =>
((m_law_number_read z_2).bind fun under =>
((if (isNon under) then some true else ((bLt under (D.int 2)).bind fun b_4 =>
some b_4)).bind fun b_5 =>
(if b_5 then
some D.non
else
((dPart at').bind fun o_1 =>
((dSlice text none o_1).bind fun z_3 =>
((m_law_number_read z_3).bind fun z_4 =>
some (D.tup [z_4, under]))))))))))))))))))))
def m_law (script : D) : Option (D) :=
((m_law_same (D.tup [(D.int 1), (D.int 0)]) (D.tup [(D.int 1), (D.int 0)])).bind fun z =>
((bTru z).bind fun b =>
((if (!b) then some true else ((m_law_same (D.tup [(D.int (-1)), (D.int 0)]) (D.tup [(D.int (-1)), (D.int 0)])).bind fun z_1 =>
((bTru z_1).bind fun b_1 =>
some (!b_1)))).bind fun b_2 =>
(if b_2 then
some (D.bl false)
else
((dLen script).bind fun z_11 =>
((dSub z_11 (D.int 1)).bind fun z_12 =>
((dMin2 (D.int 40) z_12).bind fun z_13 =>
((dMax2 (D.int 4) z_13).bind fun z_14 =>
((itRng1 z_14).bind fun ds_1 =>
((foldO (S := List D) (fun row_1 d =>
((dAdd d (D.int 1)).bind fun z_2 =>
((m_law_box script z_2).bind fun z_3 =>
(bp (m_law_bound z_3 row_1) fun z_4 (t_1, row_3) =>
((dApp row_3 z_4).bind fun row_4 =>
some row_4))))) ds_1 []).bind fun row_2 =>
((m_law_order_right (D.lst row_2)).bind fun z_5 =>
((bTru z_5).bind fun b_3 =>
(if (!b_3) then
some (D.bl false)
else
((itStr (D.lst row_2)).bind fun ds =>
(Fl.fin (forL (S := Unit) (R := D) (fun _ d_1 =>
((m_law_whole_right d_1).bind fun z_6 =>
((bTru z_6).bind fun b_4 =>
((if (!b_4) then some true else ((m_shown d_1).bind fun z_7 =>
((m_law_bound_read z_7).bind fun z_8 =>
((bNe z_8 d_1).bind fun b_5 =>
some b_5)))).bind fun b_6 =>
(if b_6 then
some (.rt (D.bl false))
else
some (.nx ())))))) ds ()) fun _ =>
((m_law_box script (D.int 0)).bind fun box =>
(bp (m_law_groups_right box (D.lst row_2)) fun z_9 box_1 =>
((dBl z_9).bind fun b_7 =>
(bp (if b_7 then (bp (m_law_totals_right box_1 (D.lst row_2)) fun z_10 box_3 =>
some (z_10, box_3)) else some (D.bl false, box_1) : Option (D × List D)) fun v box_4 =>
some v)))))))))))))))))))
end
end Qk01
set_option Elab.async false
set_option linter.all false
set_option maxRecDepth 100000
set_option maxHeartbeats 4000000
/-! Printed by mir.py: the walks. -/
namespace Qk01
open PySem PySem.Spec PyProof.Rows L2 StX Z
section
variable {K : Fg} {Ac : Cs} {mg : Str → Option Value} (T : Txt Ac K mg)
include T
/-! fraction -/
def kd_fraction : D → D × Mem := fun x => (x, [])
def S_fraction : ZSp := fun ds M kk_ => ∃ (top bottom : D) (d : D), ds = [top, bottom] ∧ m_fraction top bottom = some d ∧ kk_ d M
theorem y_fraction {top : D} {bottom : D} {out : D} (h : m_fraction top bottom = some out) {DD : ZEnds} (hit : HitD (kd_fraction) DD out) : ZS { K := K } (t_fraction K Ac) [some top, some bottom, none] [] DD := by
  unfold m_fraction at h
  unfold t_fraction
  exact (zs_seq (zs_if (zt_test (z_op (zv1 (z_int (ob h fun b h1 h => (y_eq .eq .eq h1 ⟨_, rfl, ⟨fun hb => (have h := ifT hb h; (nomatch h)), fun hb => (have h := ifF hb h; (zs_nil (zs_seq (zs_asg (z_cb (za_cons (zv0 (za_cons (zv1 (za_nil (ob h fun divisor h2 h => (y_gcd h2 (zg2 (y_join (N := D) (fun divisor_1 => [some top, some bottom, some divisor_1]) (fun divisor_1 => []) h (fun _ h _ Jh3 => (zs_if (zt_test (z_op (zv1 (z_int (ob h fun b_1 h4 h => (y_lt .eq .eq h4 ⟨_, rfl, ⟨fun hb => (have h := ifT hb h; (zs_one (zs_seq (zs_asg (z_un (zv2 (ob h fun divisor_2 h5 h => (y_neg .eq h5 (zg2 (zs_nil (y_nx h Jh3 .rfl rfl rfl))))))))))), fun hb => (have h := ifF hb h; (zs_nil (y_nx h Jh3 .rfl rfl rfl)))⟩⟩)))))))) (fun divisor_3 h => (zs_ret (z_tup (za_cons (z_op (zv0 (zv2 (ob h fun z h6 h => (y_div .eq .eq h6 (za_cons (z_op (zv1 (zv2 (ob h fun z_1 h7 h => (y_div .eq .eq h7 (za_nil ⟨Nat.le_of_ble_eq_true rfl, (y_ret (kd := kd_fraction) (x := (D.tup [z, z_1])) [] h hit.rt rfl rfl)⟩))))))))))))))))))))))))))))))⟩⟩))))))))
theorem z_fraction {kk : D → Mem → Prop} {ds : List D} {M : Mem} (h : S_fraction ds M kk) : ZS { K := K } (t_fraction K Ac) (startD N_fraction ds) M { nx := fun _ M' => kk .non M', rt := kk } := by
  obtain ⟨_, _, _, rfl, hm, hk⟩ := h
  exact zs_def0 hk fun DD hit => y_fraction T hm hit
/-! plus -/
def kd_plus : D → D × Mem := fun x => (x, [])
def S_plus : ZSp := fun ds M kk_ => ∃ (first second : D) (d : D), ds = [first, second] ∧ m_plus first second = some d ∧ kk_ d M
theorem y_plus {first : D} {second : D} {out : D} (h : m_plus first second = some out) {DD : ZEnds} (hit : HitD (kd_plus) DD out) : ZS { K := K } (t_plus K Ac S_fraction) [some first, some second, none, none, none, none] [] DD := by
  unfold m_plus at h
  unfold t_plus
  exact (zs_seq (zs_asg (zv0 (obp h fun top bottom h1 h => zg_un2 h1 (zg2 (zg3 (zs_seq (zs_asg (zv1 (obp h fun other_top other_bottom h2 h => zg_un2 h2 (zg4 (zg5 (zs_seq (zs_if (zt_and' (zt_test (z_op (zv3 (z_int (ob h fun b h3 h => (y_eq .eq .eq h3 ⟨_, rfl, (y_and h (fun _ h _ hk => (zt_test (z_op (zv5 (z_int (ob h fun b_1 h4 h => (y_eq .eq .eq h4 ⟨_, rfl, (y_lfB h hk)⟩))))))) (fun b_2 h => ⟨fun hb => (have h := ifT hb h; (zs_ret (z_tup (za_cons (z_op (zv2 (zv4 (ob h fun z h5 h => (y_add .eq .eq h5 (za_cons (z_int (za_nil ⟨Nat.le_of_ble_eq_true rfl, (y_ret (kd := kd_plus) (x := (D.tup [z, (D.int 1)])) [] h hit.rt rfl rfl)⟩)))))))))))), fun hb => (have h := ifF hb h; (zs_nil (zs_ret (z_cb (za_cons (z_op (z_op (zv2 (zv5 (ob h fun z_1 h6 h => (y_mul .eq .eq h6 (z_op (zv4 (zv3 (ob h fun z_2 h7 h => (y_mul .eq .eq h7 (ob h fun z_3 h8 h => (y_add .eq .eq h8 (za_cons (z_op (zv3 (zv5 (ob h fun z_4 h9 h => (y_mul .eq .eq h9 (za_nil (ob h fun r h10 h => zc_call (S := S_fraction) ⟨_, _, _, rfl, h10, (y_ret (kd := kd_plus) (x := r) [] h hit.rt rfl rfl)⟩))))))))))))))))))))))))))⟩))⟩)))))))))))))))))))))
theorem z_plus {kk : D → Mem → Prop} {ds : List D} {M : Mem} (h : S_plus ds M kk) : ZS { K := K } (t_plus K Ac S_fraction) (startD N_plus ds) M { nx := fun _ M' => kk .non M', rt := kk } := by
  obtain ⟨_, _, _, rfl, hm, hk⟩ := h
  exact zs_def0 hk fun DD hit => y_plus T hm hit
/-! total -/
def kd_total : D → D × Mem := fun x => (x, [])
def S_total : ZSp := fun ds M kk_ => ∃ (terms : D) (d : D), ds = [terms] ∧ m_total terms = some d ∧ kk_ d M
theorem y_total {terms : D} {out : D} (h : m_total terms = some out) {DD : ZEnds} (hit : HitD (kd_total) DD out) : ZS { K := K } (t_total K Ac S_plus) [some terms, none, none] [] DD := by
  unfold m_total at h
  unfold t_total
  exact (zs_seq (zs_asg (z_glb T.k_ZERO.r (zg1 (zs_seq (zs_for (zi_seqY (zv0 (ob h fun ds h3 h => ⟨_, h3, (y_forO (S := D) (fun result => [some terms, some result, none]) (fun result => []) h .rfl (fun result_1 d _ h _ Jh1 => (zg2 (zs_one (zs_seq (zs_asg (z_cb (za_cons (zv1 (za_cons (zv2 (za_nil (ob h fun result_3 h2 h => zc_call (S := S_plus) ⟨_, _, _, rfl, h2, (zg1 (zs_nil (y_nx h Jh1 (.keep (.keep (.drop .nil))) rfl rfl)))⟩)))))))))))) (fun result_2 h => (zs_ret (zv1 (y_ret (kd := kd_total) (x := result_2) [] h hit.rt rfl rfl)))) rfl)⟩)))))))))
theorem z_total {kk : D → Mem → Prop} {ds : List D} {M : Mem} (h : S_total ds M kk) : ZS { K := K } (t_total K Ac S_plus) (startD N_total ds) M { nx := fun _ M' => kk .non M', rt := kk } := by
  obtain ⟨_, _, rfl, hm, hk⟩ := h
  exact zs_def0 hk fun DD hit => y_total T hm hit
/-! below -/
def kd_below : D → D × Mem := fun x => (x, [])
def S_below : ZSp := fun ds M kk_ => ∃ (first second : D) (d : D), ds = [first, second] ∧ m_below first second = some d ∧ kk_ d M
theorem y_below {first : D} {second : D} {out : D} (h : m_below first second = some out) {DD : ZEnds} (hit : HitD (kd_below) DD out) : ZS { K := K } (t_below K Ac) [some first, some second, none, none, none, none] [] DD := by
  unfold m_below at h
  unfold t_below
  exact (zs_seq (zs_asg (zv0 (obp h fun top bottom h1 h => zg_un2 h1 (zg2 (zg3 (zs_seq (zs_asg (zv1 (obp h fun other_top other_bottom h2 h => zg_un2 h2 (zg4 (zg5 (zs_seq (zs_if (zt_test (z_op (zv3 (zv5 (ob h fun b h3 h => (y_eq .eq .eq h3 ⟨_, rfl, ⟨fun hb => (have h := ifT hb h; (zs_ret (z_op (zv2 (zv4 (ob h fun b_1 h4 h => (y_lt .eq .eq h4 (y_ret (kd := kd_below) (x := (D.bl b_1)) [] h hit.rt rfl rfl)))))))), fun hb => (have h := ifF hb h; (zs_nil (zs_ret (z_op (z_op (zv2 (zv5 (ob h fun z h5 h => (y_mul .eq .eq h5 (z_op (zv4 (zv3 (ob h fun z_1 h6 h => (y_mul .eq .eq h6 (ob h fun b_2 h7 h => (y_lt .eq .eq h7 (y_ret (kd := kd_below) (x := (D.bl b_2)) [] h hit.rt rfl rfl)))))))))))))))))⟩⟩))))))))))))))))))))
theorem z_below {kk : D → Mem → Prop} {ds : List D} {M : Mem} (h : S_below ds M kk) : ZS { K := K } (t_below K Ac) (startD N_below ds) M { nx := fun _ M' => kk .non M', rt := kk } := by
  obtain ⟨_, _, _, rfl, hm, hk⟩ := h
  exact zs_def0 hk fun DD hit => y_below T hm hit
/-! larger -/
def kd_larger : D → D × Mem := fun x => (x, [])
def S_larger : ZSp := fun ds M kk_ => ∃ (first others : D) (d : D), ds = [first, others] ∧ m_larger first others = some d ∧ kk_ d M
theorem y_larger {first : D} {others : D} {out : D} (h : m_larger first others = some out) {DD : ZEnds} (hit : HitD (kd_larger) DD out) : ZS { K := K } (t_larger K Ac S_below) [some first, some others, none, none] [] DD := by
  unfold m_larger at h
  unfold t_larger
  exact (zs_seq (zs_asg (zv0 (zg2 (zs_seq (zs_for (zi_seqY (zv1 (ob h fun ds h4 h => ⟨_, h4, (y_forO (S := D) (fun result => [some first, some others, some result, none]) (fun result => []) h .rfl (fun result_1 d _ h _ Jh1 => (zg3 (zs_if (zt_truth (z_cb (za_cons (zv2 (za_cons (zv3 (za_nil (ob h fun z h2 h => zc_call (S := S_below) ⟨_, _, _, rfl, h2, (ob h fun b h3 h => ⟨_, y_truD .eq h3, ⟨fun hb => (have h := ifT hb h; (zs_one (zs_seq (zs_asg (zv3 (zg2 (zs_nil (y_nx h Jh1 (.keep (.keep (.keep (.drop .nil)))) rfl rfl)))))))), fun hb => (have h := ifF hb h; (zs_nil (y_nx h Jh1 (.keep (.keep (.keep (.drop .nil)))) rfl rfl)))⟩⟩)⟩))))))))))) (fun result_2 h => (zs_ret (zv2 (y_ret (kd := kd_larger) (x := result_2) [] h hit.rt rfl rfl)))) rfl)⟩)))))))))
theorem z_larger {kk : D → Mem → Prop} {ds : List D} {M : Mem} (h : S_larger ds M kk) : ZS { K := K } (t_larger K Ac S_below) (startD N_larger ds) M { nx := fun _ M' => kk .non M', rt := kk } := by
  obtain ⟨_, _, _, rfl, hm, hk⟩ := h
  exact zs_def0 hk fun DD hit => y_larger T hm hit
/-! smaller -/
def kd_smaller : D → D × Mem := fun x => (x, [])
def S_smaller : ZSp := fun ds M kk_ => ∃ (first others : D) (d : D), ds = [first, others] ∧ m_smaller first others = some d ∧ kk_ d M
theorem y_smaller {first : D} {others : D} {out : D} (h : m_smaller first others = some out) {DD : ZEnds} (hit : HitD (kd_smaller) DD out) : ZS { K := K } (t_smaller K Ac S_below) [some first, some others, none, none] [] DD := by
  unfold m_smaller at h
  unfold t_smaller
  exact (zs_seq (zs_asg (zv0 (zg2 (zs_seq (zs_for (zi_seqY (zv1 (ob h fun ds h4 h => ⟨_, h4, (y_forO (S := D) (fun result => [some first, some others, some result, none]) (fun result => []) h .rfl (fun result_1 d _ h _ Jh1 => (zg3 (zs_if (zt_truth (z_cb (za_cons (zv3 (za_cons (zv2 (za_nil (ob h fun z h2 h => zc_call (S := S_below) ⟨_, _, _, rfl, h2, (ob h fun b h3 h => ⟨_, y_truD .eq h3, ⟨fun hb => (have h := ifT hb h; (zs_one (zs_seq (zs_asg (zv3 (zg2 (zs_nil (y_nx h Jh1 (.keep (.keep (.keep (.drop .nil)))) rfl rfl)))))))), fun hb => (have h := ifF hb h; (zs_nil (y_nx h Jh1 (.keep (.keep (.keep (.drop .nil)))) rfl rfl)))⟩⟩)⟩))))))))))) (fun result_2 h => (zs_ret (zv2 (y_ret (kd := kd_smaller) (x := result_2) [] h hit.rt rfl rfl)))) rfl)⟩)))))))))
theorem z_smaller {kk : D → Mem → Prop} {ds : List D} {M : Mem} (h : S_smaller ds M kk) : ZS { K := K } (t_smaller K Ac S_below) (startD N_smaller ds) M { nx := fun _ M' => kk .non M', rt := kk } := by
  obtain ⟨_, _, _, rfl, hm, hk⟩ := h
  exact zs_def0 hk fun DD hit => y_smaller T hm hit
/-! whole -/
def kd_whole : D → D × Mem := fun x => (x, [])
def S_whole : ZSp := fun ds M kk_ => ∃ (bound : D) (d : D), ds = [bound] ∧ m_whole bound = some d ∧ kk_ d M
theorem y_whole {bound : D} {out : D} (h : m_whole bound = some out) {DD : ZEnds} (hit : HitD (kd_whole) DD out) : ZS { K := K } (t_whole K Ac) [some bound, none, none] [] DD := by
  unfold m_whole at h
  unfold t_whole
  exact (zs_seq (zs_asg (zv0 (obp h fun top bottom h1 h => zg_un2 h1 (zg1 (zg2 (zs_seq (zs_if (zt_test (z_op (zv2 (z_int (ob h fun b h2 h => (y_eq .eq .eq h2 ⟨_, rfl, ⟨fun hb => (have h := ifT hb h; (zs_ret (zv0 (y_ret (kd := kd_whole) (x := bound) [] h hit.rt rfl rfl)))), fun hb => (have h := ifF hb h; (zs_nil (zs_ret (z_tup (za_cons (z_op (zv1 (zv2 (ob h fun z h3 h => (y_div .eq .eq h3 (za_cons (z_int (za_nil ⟨Nat.le_of_ble_eq_true rfl, (y_ret (kd := kd_whole) (x := (D.tup [z, (D.int 1)])) [] h hit.rt rfl rfl)⟩)))))))))))))⟩⟩))))))))))))))
theorem z_whole {kk : D → Mem → Prop} {ds : List D} {M : Mem} (h : S_whole ds M kk) : ZS { K := K } (t_whole K Ac) (startD N_whole ds) M { nx := fun _ M' => kk .non M', rt := kk } := by
  obtain ⟨_, _, rfl, hm, hk⟩ := h
  exact zs_def0 hk fun DD hit => y_whole T hm hit
/-! shown -/
def kd_shown : D → D × Mem := fun x => (x, [])
def S_shown : ZSp := fun ds M kk_ => ∃ (bound : D) (d : D), ds = [bound] ∧ m_shown bound = some d ∧ kk_ d M
theorem y_shown {bound : D} {out : D} (h : m_shown bound = some out) {DD : ZEnds} (hit : HitD (kd_shown) DD out) : ZS { K := K } (t_shown K Ac) [some bound, none, none] [] DD := by
  unfold m_shown at h
  unfold t_shown
  exact (zs_seq (zs_asg (zv0 (obp h fun top bottom h1 h => zg_un2 h1 (zg1 (zg2 (zs_seq (zs_if (zt_test (z_op (zv2 (z_int (ob h fun b h2 h => (y_eq .eq .eq h2 ⟨_, rfl, ⟨fun hb => (have h := ifT hb h; (zs_ret (z_if' (zt_test (z_op (zv1 (z_int (ob h fun b_1 h3 h => (y_gt .eq .eq h3 ⟨_, rfl, (y_ifE h (fun _ h _ hk => (z_str (y_lf h hk))) (fun _ h _ hk => (z_str (y_lf h hk))) (fun r h => (y_ret (kd := kd_shown) (x := r) [] h hit.rt rfl rfl)))⟩))))))))), fun hb => (have h := ifF hb h; (zs_nil (zs_seq (zs_if (zt_test (z_op (zv2 (z_int (ob h fun b_2 h4 h => (y_eq .eq .eq h4 ⟨_, rfl, ⟨fun hb => (have h := ifT hb h; (zs_ret (z_cb (za_cons (zv1 (za_nil (ob h fun r_1 h5 h => (y_str h5 (y_ret (kd := kd_shown) (x := r_1) [] h hit.rt rfl rfl))))))))), fun hb => (have h := ifF hb h; (zs_nil (zs_ret (z_joined (zj_cons (z_fmt (zv1 (ob h fun txt h6 h => ⟨_, h6, (ob h fun acc h7 h => ⟨_, h7, (zj_cons (z_str (ob h fun acc_1 h8 h => ⟨_, h8, (zj_cons (z_fmt (zv2 (ob h fun txt_1 h9 h => ⟨_, h9, (ob h fun acc_2 h10 h => ⟨_, h10, (zj_nil (y_ret (kd := kd_shown) (x := (D.str acc_2)) [] h hit.rt rfl rfl))⟩)⟩))))⟩)))⟩)⟩))))))))⟩⟩))))))))))⟩⟩))))))))))))))
theorem z_shown {kk : D → Mem → Prop} {ds : List D} {M : Mem} (h : S_shown ds M kk) : ZS { K := K } (t_shown K Ac) (startD N_shown ds) M { nx := fun _ M' => kk .non M', rt := kk } := by
  obtain ⟨_, _, rfl, hm, hk⟩ := h
  exact zs_def0 hk fun DD hit => y_shown T hm hit
/-! _law_is_integer -/
def kd_law_is_integer : D → D × Mem := fun x => (x, [])
def S_law_is_integer : ZSp := fun ds M kk_ => ∃ (actual : D) (d : D), ds = [actual] ∧ m_law_is_integer actual = some d ∧ kk_ d M
theorem y_law_is_integer {actual : D} {out : D} (h : m_law_is_integer actual = some out) {DD : ZEnds} (hit : HitD (kd_law_is_integer) DD out) : ZS { K := K } (t_law_is_integer K Ac) [some actual] [] DD := by
  unfold m_law_is_integer at h
  unfold t_law_is_integer
  exact (zs_ret (z_andV' (z_cb (za_cons (zv0 (ob h fun b h1 h => (za_cons (z_ty (za_nil (y_isi .eq h1 ⟨_, rfl, (y_andV h (fun _ h _ hk => (z_notV (z_cb (za_cons (zv0 (ob h fun b_1 h2 h => (za_cons (z_ty (za_nil (y_isi .eq h2 ⟨_, rfl, (y_lf h hk)⟩)))))))))) (fun v h => (y_ret (kd := kd_law_is_integer) (x := v) [] h hit.rt rfl rfl)))⟩))))))))))
theorem z_law_is_integer {kk : D → Mem → Prop} {ds : List D} {M : Mem} (h : S_law_is_integer ds M kk) : ZS { K := K } (t_law_is_integer K Ac) (startD N_law_is_integer ds) M { nx := fun _ M' => kk .non M', rt := kk } := by
  obtain ⟨_, _, rfl, hm, hk⟩ := h
  exact zs_def0 hk fun DD hit => y_law_is_integer T hm hit
/-! _law_box -/
def kd_law_box : List D → List D × Mem := fun x => (x, [])
def S_law_box : ZSp := fun ds M kk_ => ∃ (script k : D) (d : List D), ds = [script, k] ∧ m_law_box script k = some d ∧ ∀ p, kk_ (.at p) ((p, .lst d) :: M)
theorem y_law_box {script : D} {k : D} {out : List D} (h : m_law_box script k = some out) {DD : ZEnds} (hit : HitO (kd_law_box) DD out) : ZS { K := K } (t_law_box K Ac) [some script, some k, none] [] DD := by
  unfold m_law_box at h
  unfold t_law_box
  exact (zs_seq (zs_asg (z_op (z_op (z_op (z_int (zv1 (ob h fun z h1 h => (y_mul .eq .eq h1 (z_int (ob h fun z_1 h2 h => (y_add .eq .eq h2 (z_op (z_cb (za_cons (z_cb (za_cons (z_sl (zv0 (zo_none (zo_some' (z_int (ob h fun o h3 h => ⟨_, h3, (ob h fun z_2 h4 h => (y_slice .eq h4 (za_nil (ob h fun z_3 h5 h => (y_sum .eq h5 (za_nil (ob h fun z_4 h6 h => (y_int h6 (z_int (ob h fun z_5 h7 h => (y_mod .eq .eq h7 (ob h fun cell h8 h => (y_add .eq .eq h8 (zg2 (y_join (N := D) (fun cell_1 => [some script, some k, some cell_1]) (fun cell_1 => []) h (fun _ h _ Jh9 => (zs_if (zt_test (z_op (zv1 (z_cb (za_cons (zv0 (za_nil (ob h fun z_6 h10 h => (y_len .eq h10 (ob h fun b h11 h => (y_lt .eq .eq h11 ⟨_, rfl, ⟨fun hb => (have h := ifT hb h; (zs_one (zs_seq (zs_asg (z_op (zv0 (zv1 (ob h fun cell_2 h12 h => (y_ix .eq .eq h12 (zg2 (zs_nil (y_nx h Jh9 .rfl rfl rfl)))))))))))), fun hb => (have h := ifF hb h; (zs_nil (y_nx h Jh9 .rfl rfl rfl)))⟩⟩))))))))))))) (fun cell_3 h => (y_join (N := D) (fun cell_4 => [some script, some k, some cell_4]) (fun cell_4 => []) h (fun _ h _ Jh13 => (zs_if (zt_test (z_op (zv2 (z_int (ob h fun b_1 h14 h => (y_lt .eq .eq h14 ⟨_, rfl, ⟨fun hb => (have h := ifT hb h; (zs_one (zs_seq (zs_asg (z_op (z_int (z_op (z_int (zv2 (ob h fun z_7 h15 h => (y_mul .eq .eq h15 (ob h fun cell_5 h16 h => (y_sub .eq .eq h16 (zg2 (zs_nil (y_nx h Jh13 .rfl rfl rfl)))))))))))))))), fun hb => (have h := ifF hb h; (zs_nil (y_nx h Jh13 .rfl rfl rfl)))⟩⟩)))))))) (fun cell_6 h => (zs_seq (zs_if (zt_test (z_op (zv2 (z_op (z_int (z_int (y_pow (x := .int 10) (y := .int 18) (z := .int 1000000000000000000) .eq .eq (gd_of (by decide +kernel)) (ob h fun b_2 h17 h => (y_ge .eq .eq h17 ⟨_, rfl, ⟨fun hb => (have h := ifT hb h; (zs_ret (z_lstM (za_cons (zv2 (za_cons (z_op (z_cb (za_cons (zv2 (za_nil (ob h fun z_8 h18 h => (y_int h18 (z_int (ob h fun z_9 h19 h => (y_mod .eq .eq h19 (za_cons (z_int (za_nil ⟨Nat.le_of_ble_eq_true rfl, (fun p => y_retO (kd := kd_law_box) (x := [cell_6, z_9, (D.int 0)]) [] [] h hit.rt rfl)⟩))))))))))))))))))), fun hb => (have h := ifF hb h; (zs_nil (zs_ret (z_lstM (za_cons (z_int (za_cons (z_op (z_cb (za_cons (zv2 (za_nil (ob h fun z_10 h20 h => (y_int h20 (z_int (ob h fun z_11 h21 h => (y_mod .eq .eq h21 (za_cons (z_int (za_nil ⟨Nat.le_of_ble_eq_true rfl, (fun p => y_retO (kd := kd_law_box) (x := [(D.int 0), z_11, (D.int 0)]) [] [] h hit.rt rfl)⟩))))))))))))))))))))⟩⟩)))))))))))))))))))))))))))))⟩)))))))))))))))))))))))
theorem z_law_box {kk : D → Mem → Prop} {ds : List D} {M : Mem} (h : S_law_box ds M kk) : ZS { K := K } (t_law_box K Ac) (startD N_law_box ds) M { nx := fun _ M' => kk .non M', rt := kk } := by
  obtain ⟨_, _, _, rfl, hm, hk⟩ := h
  exact zs_defO0 hk fun DD hit => y_law_box T hm hit
/-! _law_take -/
def kd_law_take (a_box : Addr) : D × List D → D × Mem := fun x => (x.1, [(a_box, .lst x.2)])
def S_law_take : ZSp := fun ds M kk_ => ∃ (a_box : Addr) (many : D) (box : List D) (i : Nat) (d : D) (o' : List D) (M' : Mem), ds = [.at a_box, many] ∧ M[i]? = some (a_box, .lst box) ∧ m_law_take box many = some (d, o') ∧ M.set i (a_box, .lst o') = M' ∧ kk_ d M'
theorem y_law_take {box : List D} {many : D} {a_box : Addr} {out : D × List D} (h : m_law_take box many = some out) {DD : ZEnds} (hit : HitD (kd_law_take a_box) DD out) : ZS { K := K } (t_law_take K Ac) [some (.at a_box), some many, none, none, none] [(a_box, MO.lst box)] DD := by
  unfold m_law_take at h
  unfold t_law_take
  exact (zs_seq (zs_if (zt_test (z_op (z_op (zv0 (z_int (ob h fun z h1 h => (y_ix (.at 0 rfl) .eq h1 (z_int (ob h fun b h2 h => (y_gt .eq .eq h2 ⟨_, rfl, ⟨fun hb => (have h := ifT hb h; (zs_seq (zs_asg (z_op (z_cb (za_cons (z_op (zv0 (z_int (ob h fun z_1 h3 h => (y_ix (.at 0 rfl) .eq h3 (za_nil (ob h fun z_2 h4 h => (y_int h4 (zv1 (ob h fun digit h5 h => (y_mod .eq .eq h5 (zg2 (zs_seq (zs_asg (z_op (z_op (zv0 (z_int (ob h fun z_3 h6 h => (y_ix (.at 0 rfl) .eq h6 (zv1 (ob h fun z_4 h7 h => (y_div .eq .eq h7 (zg_setL' (zv0 (z_int (ob h fun box_1 h8 h => ⟨_, 0, _, _, [(a_box, MO.lst box_1)], rfl, rfl, h8, rfl, (zs_ret (zv2 (y_ret (kd := kd_law_take a_box) (x := (digit, box_1)) [] h hit.rt rfl rfl)))⟩))))))))))))))))))))))))))))))))), fun hb => (have h := ifF hb h; (zs_nil (zs_seq (zs_asg (z_op (z_op (zv0 (z_int (ob h fun z_5 h9 h => (y_ix (.at 0 rfl) .eq h9 (z_int (ob h fun z_6 h10 h => (y_add .eq .eq h10 (zg_setL' (zv0 (z_int (ob h fun box_2 h11 h => ⟨_, 0, _, _, [(a_box, MO.lst box_2)], rfl, rfl, h11, rfl, (zs_seq (zs_asg (z_op (z_cb (za_cons (z_op (z_op (z_op (z_op (zv0 (z_int (ob h fun z_7 h12 h => (y_ix (.at 0 rfl) .eq h12 (z_int (ob h fun z_8 h13 h => (y_mul .eq .eq h13 (z_op (z_op (zv0 (z_int (ob h fun z_9 h14 h => (y_ix (.at 0 rfl) .eq h14 (z_int (ob h fun z_10 h15 h => (y_mul .eq .eq h15 (ob h fun z_11 h16 h => (y_add .eq .eq h16 (z_int (ob h fun z_12 h17 h => (y_add .eq .eq h17 (za_nil (ob h fun z_13 h18 h => (y_int h18 (z_int (ob h fun once h19 h => (y_mod .eq .eq h19 (zg3 (zs_seq (zs_asg (z_op (z_cb (za_cons (z_op (z_op (z_op (zv3 (zv3 (ob h fun z_14 h20 h => (y_mul .eq .eq h20 (z_op (z_op (zv0 (z_int (ob h fun z_15 h21 h => (y_ix (.at 0 rfl) .eq h21 (z_int (ob h fun z_16 h22 h => (y_mul .eq .eq h22 (ob h fun z_17 h23 h => (y_add .eq .eq h23 (z_op (z_op (zv0 (z_int (ob h fun z_18 h24 h => (y_ix (.at 0 rfl) .eq h24 (z_int (ob h fun z_19 h25 h => (y_mul .eq .eq h25 (ob h fun z_20 h26 h => (y_add .eq .eq h26 (za_nil (ob h fun z_21 h27 h => (y_int h27 (z_int (ob h fun twice h28 h => (y_mod .eq .eq h28 (zg4 (zs_ret (z_op (z_cb (za_cons (zv4 (za_nil (ob h fun z_22 h29 h => (y_int h29 (zv1 (ob h fun r h30 h => (y_mod .eq .eq h30 (y_ret (kd := kd_law_take a_box) (x := (r, box_2)) [] h hit.rt rfl rfl))))))))))))))))))))))))))))))))))))))))))))))))))))))))))))))))))))))))))))))))))))))))))⟩)))))))))))))))))⟩⟩))))))))))))
theorem z_law_take {kk : D → Mem → Prop} {ds : List D} {M : Mem} (h : S_law_take ds M kk) : ZS { K := K } (t_law_take K Ac) (startD N_law_take ds) M { nx := fun _ M' => kk .non M', rt := kk } := by
  obtain ⟨_, _, _, _, _, _, _, rfl, hi, hm, rfl, hk⟩ := h
  exact zs_def1 hi (out := (_, _)) hk fun DD hit => y_law_take T hm hit
/-! _law_divisor -/
def kd_law_divisor : D → D × Mem := fun x => (x, [])
def S_law_divisor : ZSp := fun ds M kk_ => ∃ (high low : D) (d : D), ds = [high, low] ∧ m_law_divisor high low = some d ∧ kk_ d M
theorem y_law_divisor {high : D} {low : D} {out : D} (h : m_law_divisor high low = some out) {DD : ZEnds} (hit : HitD (kd_law_divisor) DD out) : ZS { K := K } (t_law_divisor K Ac) [some high, some low, none] [] DD := by
  unfold m_law_divisor at h
  unfold t_law_divisor
  exact (y_whlB (S := D × D) (fun (high_1, low_1) => [some high_1, some low_1, none]) (fun (high_1, low_1) => []) h .rfl (fun (high_2, low_2) _ h _ Jh1 => (zt_test (z_op (zv1 (z_int (ob h fun b h2 h => (y_ne .eq .eq h2 ⟨_, rfl, ⟨fun hb => (have h := ifT hb h; (zs_seq (zs_asg (z_op (z_cb (za_cons (zv0 (za_nil (ob h fun z h3 h => (y_int h3 (zv1 (ob h fun rest h4 h => (y_mod .eq .eq h4 (zg2 (zs_seq (zs_asg (zv1 (zg0 (zs_one (zs_seq (zs_asg (zv2 (zg1 (zs_nil (y_nxF (n := (low_2, rest)) h Jh1 (.keep (.keep (.drop .nil))) rfl rfl))))))))))))))))))))))))), fun hb => (have h := ifF hb h; y_bkW (n := (high_2, low_2)) h Jh1 rfl)⟩⟩))))))) (fun (high_3, low_3) h => (zs_ret (zv0 (y_ret (kd := kd_law_divisor) (x := high_3) [] h hit.rt rfl rfl)))) rfl)
theorem z_law_divisor {kk : D → Mem → Prop} {ds : List D} {M : Mem} (h : S_law_divisor ds M kk) : ZS { K := K } (t_law_divisor K Ac) (startD N_law_divisor ds) M { nx := fun _ M' => kk .non M', rt := kk } := by
  obtain ⟨_, _, _, rfl, hm, hk⟩ := h
  exact zs_def0 hk fun DD hit => y_law_divisor T hm hit
/-! _law_lowest -/
def kd_law_lowest : D → D × Mem := fun x => (x, [])
def S_law_lowest : ZSp := fun ds M kk_ => ∃ (top bottom : D) (d : D), ds = [top, bottom] ∧ m_law_lowest top bottom = some d ∧ kk_ d M
theorem y_law_lowest {top : D} {bottom : D} {out : D} (h : m_law_lowest top bottom = some out) {DD : ZEnds} (hit : HitD (kd_law_lowest) DD out) : ZS { K := K } (t_law_lowest K Ac S_law_divisor) [some top, some bottom, none] [] DD := by
  unfold m_law_lowest at h
  unfold t_law_lowest
  exact (zs_seq (zs_asg (z_cb (za_cons (z_cb (za_cons (zv0 (za_nil (ob h fun z h1 h => (y_abs h1 (za_cons (z_cb (za_cons (zv1 (za_nil (ob h fun z_1 h2 h => (y_abs h2 (za_nil (ob h fun common h3 h => zc_call (S := S_law_divisor) ⟨_, _, _, rfl, h3, (zg2 (y_join (N := D × D) (fun (top_1, bottom_1) => [some top_1, some bottom_1, some common]) (fun (top_1, bottom_1) => []) h (fun _ h _ Jh4 => (zs_if (zt_test (z_op (zv1 (z_int (ob h fun b h5 h => (y_lt .eq .eq h5 ⟨_, rfl, ⟨fun hb => (have h := ifT hb h; (zs_seq (zs_asg (z_un (zv0 (ob h fun top_2 h6 h => (y_neg .eq h6 (zg0 (zs_one (zs_seq (zs_asg (z_un (zv1 (ob h fun bottom_2 h7 h => (y_neg .eq h7 (zg1 (zs_nil (y_nx h Jh4 .rfl rfl rfl)))))))))))))))))), fun hb => (have h := ifF hb h; (zs_nil (y_nx h Jh4 .rfl rfl rfl)))⟩⟩)))))))) (fun (top_3, bottom_3) h => (zs_ret (z_tup (za_cons (z_op (zv0 (zv2 (ob h fun z_2 h8 h => (y_div .eq .eq h8 (za_cons (z_op (zv1 (zv2 (ob h fun z_3 h9 h => (y_div .eq .eq h9 (za_nil ⟨Nat.le_of_ble_eq_true rfl, (y_ret (kd := kd_law_lowest) (x := (D.tup [z_2, z_3])) [] h hit.rt rfl rfl)⟩))))))))))))))))))⟩)))))))))))))))))))
theorem z_law_lowest {kk : D → Mem → Prop} {ds : List D} {M : Mem} (h : S_law_lowest ds M kk) : ZS { K := K } (t_law_lowest K Ac S_law_divisor) (startD N_law_lowest ds) M { nx := fun _ M' => kk .non M', rt := kk } := by
  obtain ⟨_, _, _, rfl, hm, hk⟩ := h
  exact zs_def0 hk fun DD hit => y_law_lowest T hm hit
/-! _law_integer -/
def kd_law_integer (a_box : Addr) : D × List D → D × Mem := fun x => (x.1, [(a_box, .lst x.2)])
def S_law_integer : ZSp := fun ds M kk_ => ∃ (a_box : Addr) (box : List D) (i : Nat) (d : D) (o' : List D) (M' : Mem), ds = [.at a_box] ∧ M[i]? = some (a_box, .lst box) ∧ m_law_integer box = some (d, o') ∧ M.set i (a_box, .lst o') = M' ∧ kk_ d M'
theorem y_law_integer {box : List D} {a_box : Addr} {out : D × List D} (h : m_law_integer box = some out) {DD : ZEnds} (hit : HitD (kd_law_integer a_box) DD out) : ZS { K := K } (t_law_integer K Ac S_law_take) [some (.at a_box), none, none] [(a_box, MO.lst box)] DD := by
  unfold m_law_integer at h
  unfold t_law_integer
  exact (zs_seq (zs_asg (z_cb (za_cons (zv0 (za_cons (z_int (za_nil (obp h fun size box_1 h1 h => zc_call (S := S_law_take) ⟨_, _, _, 0, _, _, [(a_box, MO.lst box_1)], rfl, rfl, h1, rfl, (zg1 (zs_seq (zs_if (zt_test (z_op (zv1 (z_int (ob h fun b h2 h => (y_lt .eq .eq h2 ⟨_, rfl, ⟨fun hb => (have h := ifT hb h; (zs_ret (z_op (z_cb (za_cons (zv0 (za_cons (z_int (za_nil (obp h fun z box_2 h3 h => zc_call (S := S_law_take) ⟨_, _, _, 0, _, _, [(a_box, MO.lst box_2)], rfl, rfl, h3, rfl, (z_int (ob h fun r h4 h => (y_sub .eq .eq h4 (y_ret (kd := kd_law_integer a_box) (x := (r, box_2)) [] h hit.rt rfl rfl))))⟩)))))))))), fun hb => (have h := ifF hb h; (zs_nil (zs_seq (zs_if (zt_test (z_op (zv1 (z_int (ob h fun b_1 h5 h => (y_lt .eq .eq h5 ⟨_, rfl, ⟨fun hb => (have h := ifT hb h; (zs_ret (z_op (z_cb (za_cons (zv0 (za_cons (z_int (za_nil (obp h fun z_1 box_3 h6 h => zc_call (S := S_law_take) ⟨_, _, _, 0, _, _, [(a_box, MO.lst box_3)], rfl, rfl, h6, rfl, (z_int (ob h fun r_1 h7 h => (y_sub .eq .eq h7 (y_ret (kd := kd_law_integer a_box) (x := (r_1, box_3)) [] h hit.rt rfl rfl))))⟩)))))))))), fun hb => (have h := ifF hb h; (zs_nil (zs_seq (zs_if (zt_test (z_op (zv1 (z_int (ob h fun b_2 h8 h => (y_eq .eq .eq h8 ⟨_, rfl, ⟨fun hb => (have h := ifT hb h; (zs_ret (z_op (z_cb (za_cons (zv0 (za_cons (z_int (za_nil (obp h fun z_2 box_4 h9 h => zc_call (S := S_law_take) ⟨_, _, _, 0, _, _, [(a_box, MO.lst box_4)], rfl, rfl, h9, rfl, (z_int (ob h fun r_2 h10 h => (y_sub .eq .eq h10 (y_ret (kd := kd_law_integer a_box) (x := (r_2, box_4)) [] h hit.rt rfl rfl))))⟩)))))))))), fun hb => (have h := ifF hb h; (zs_nil (zs_seq (zs_asg (z_cb (za_cons (zv0 (za_cons (z_op (z_int (z_int (y_pow (x := .int 10) (y := .int 10) (z := .int 10000000000) .eq .eq (gd_of (by decide +kernel)) (za_nil (obp h fun far box_5 h11 h => zc_call (S := S_law_take) ⟨_, _, _, 0, _, _, [(a_box, MO.lst box_5)], rfl, rfl, h11, rfl, (zg2 (zs_seq (zs_asg (z_op (z_op (zv2 (z_op (z_int (z_int (y_pow (x := .int 10) (y := .int 10) (z := .int 10000000000) .eq .eq (gd_of (by decide +kernel)) (ob h fun z_3 h12 h => (y_mul .eq .eq h12 (z_cb (za_cons (zv0 (za_cons (z_op (z_int (z_int (y_pow (x := .int 10) (y := .int 10) (z := .int 10000000000) .eq .eq (gd_of (by decide +kernel)) (za_nil (obp h fun z_4 box_6 h13 h => zc_call (S := S_law_take) ⟨_, _, _, 0, _, _, [(a_box, MO.lst box_6)], rfl, rfl, h13, rfl, (ob h fun far_1 h14 h => (y_add .eq .eq h14 (zg2 (zs_seq (zs_asg (z_op (z_op (zv2 (z_op (z_int (z_int (y_pow (x := .int 10) (y := .int 10) (z := .int 10000000000) .eq .eq (gd_of (by decide +kernel)) (ob h fun z_5 h15 h => (y_mul .eq .eq h15 (z_cb (za_cons (zv0 (za_cons (z_op (z_int (z_int (y_pow (x := .int 10) (y := .int 10) (z := .int 10000000000) .eq .eq (gd_of (by decide +kernel)) (za_nil (obp h fun z_6 box_7 h16 h => zc_call (S := S_law_take) ⟨_, _, _, 0, _, _, [(a_box, MO.lst box_7)], rfl, rfl, h16, rfl, (ob h fun far_2 h17 h => (y_add .eq .eq h17 (zg2 (zs_seq (zs_if (zt_test (z_op (z_cb (za_cons (zv0 (za_cons (z_int (za_nil (obp h fun z_7 box_8 h18 h => zc_call (S := S_law_take) ⟨_, _, _, 0, _, _, [(a_box, MO.lst box_8)], rfl, rfl, h18, rfl, (z_int (ob h fun b_3 h19 h => (y_eq .eq .eq h19 ⟨_, rfl, ⟨fun hb => (have h := ifT hb h; (zs_ret (z_un (zv2 (ob h fun r_3 h20 h => (y_neg .eq h20 (y_ret (kd := kd_law_integer a_box) (x := (r_3, box_8)) [] h hit.rt rfl rfl))))))), fun hb => (have h := ifF hb h; (zs_nil (zs_ret (zv2 (y_ret (kd := kd_law_integer a_box) (x := (far_2, box_8)) [] h hit.rt rfl rfl)))))⟩⟩)))⟩))))))))))))))⟩))))))))))))))))))))))))⟩))))))))))))))))))))))⟩))))))))))))))⟩⟩))))))))))⟩⟩))))))))))⟩⟩)))))))))⟩)))))))))
theorem z_law_integer {kk : D → Mem → Prop} {ds : List D} {M : Mem} (h : S_law_integer ds M kk) : ZS { K := K } (t_law_integer K Ac S_law_take) (startD N_law_integer ds) M { nx := fun _ M' => kk .non M', rt := kk } := by
  obtain ⟨_, _, _, _, _, _, rfl, hi, hm, rfl, hk⟩ := h
  exact zs_def1 hi (out := (_, _)) hk fun DD hit => y_law_integer T hm hit
/-! _law_fraction -/
def kd_law_fraction (a_box : Addr) : D × List D → D × Mem := fun x => (x.1, [(a_box, .lst x.2)])
def S_law_fraction : ZSp := fun ds M kk_ => ∃ (a_box : Addr) (box : List D) (i : Nat) (d : D) (o' : List D) (M' : Mem), ds = [.at a_box] ∧ M[i]? = some (a_box, .lst box) ∧ m_law_fraction box = some (d, o') ∧ M.set i (a_box, .lst o') = M' ∧ kk_ d M'
theorem y_law_fraction {box : List D} {a_box : Addr} {out : D × List D} (h : m_law_fraction box = some out) {DD : ZEnds} (hit : HitD (kd_law_fraction a_box) DD out) : ZS { K := K } (t_law_fraction K Ac S_law_integer S_law_lowest) [some (.at a_box), none, none] [(a_box, MO.lst box)] DD := by
  unfold m_law_fraction at h
  unfold t_law_fraction
  exact (zs_seq (zs_asg (z_cb (za_cons (zv0 (za_nil (obp h fun top box_1 h1 h => zc_call (S := S_law_integer) ⟨_, _, 0, _, _, [(a_box, MO.lst box_1)], rfl, rfl, h1, rfl, (zg1 (zs_seq (zs_asg (z_cb (za_cons (z_cb (za_cons (zv0 (za_nil (obp h fun z box_2 h2 h => zc_call (S := S_law_integer) ⟨_, _, 0, _, _, [(a_box, MO.lst box_2)], rfl, rfl, h2, rfl, (za_nil (ob h fun bottom h3 h => (y_abs h3 (zg2 (y_join (N := D) (fun bottom_1 => [some (.at a_box), some top, some bottom_1]) (fun bottom_1 => [(a_box, MO.lst box_2)]) h (fun _ h _ Jh4 => (zs_if (zt_test (z_op (zv2 (z_int (ob h fun b h5 h => (y_eq .eq .eq h5 ⟨_, rfl, ⟨fun hb => (have h := ifT hb h; (zs_one (zs_seq (zs_asg (z_int (zg2 (zs_nil (y_nx h Jh4 .rfl rfl rfl)))))))), fun hb => (have h := ifF hb h; (zs_nil (y_nx h Jh4 .rfl rfl rfl)))⟩⟩)))))))) (fun bottom_2 h => (zs_ret (z_cb (za_cons (zv1 (za_cons (zv2 (za_nil (ob h fun r h6 h => zc_call (S := S_law_lowest) ⟨_, _, _, rfl, h6, (y_ret (kd := kd_law_fraction a_box) (x := (r, box_2)) [] h hit.rt rfl rfl)⟩))))))))))))))⟩))))))))))⟩)))))))
theorem z_law_fraction {kk : D → Mem → Prop} {ds : List D} {M : Mem} (h : S_law_fraction ds M kk) : ZS { K := K } (t_law_fraction K Ac S_law_integer S_law_lowest) (startD N_law_fraction ds) M { nx := fun _ M' => kk .non M', rt := kk } := by
  obtain ⟨_, _, _, _, _, _, rfl, hi, hm, rfl, hk⟩ := h
  exact zs_def1 hi (out := (_, _)) hk fun DD hit => y_law_fraction T hm hit
/-! _law_is_pair -/
def kd_law_is_pair : D → D × Mem := fun x => (x, [])
def S_law_is_pair : ZSp := fun ds M kk_ => ∃ (actual : D) (d : D), ds = [actual] ∧ m_law_is_pair actual = some d ∧ kk_ d M
theorem y_law_is_pair {actual : D} {out : D} (h : m_law_is_pair actual = some out) {DD : ZEnds} (hit : HitD (kd_law_is_pair) DD out) : ZS { K := K } (t_law_is_pair K Ac S_law_is_integer) [some actual] [] DD := by
  unfold m_law_is_pair at h
  unfold t_law_is_pair
  exact (zs_seq (zs_if (zt_or' (zt_not (zt_truth (z_cb (za_cons (zv0 (ob h fun b h1 h => (za_cons (z_ty (za_nil (y_isi .eq h1 ⟨_, .bl _, (y_or h (fun _ h _ hk => (zt_test (z_op (z_cb (za_cons (zv0 (za_nil (ob h fun z h2 h => (y_len .eq h2 (z_int (ob h fun b_1 h3 h => (y_ne .eq .eq h3 ⟨_, rfl, (y_lfB h hk)⟩)))))))))))) (fun b_2 h => ⟨fun hb => (have h := ifT hb h; (zs_ret (z_bl (y_ret (kd := kd_law_is_pair) (x := (D.bl false)) [] h hit.rt rfl rfl)))), fun hb => (have h := ifF hb h; (zs_nil (zs_ret (z_andV' (z_cb (za_cons (z_op (zv0 (z_int (ob h fun z_1 h4 h => (y_ix .eq .eq h4 (za_nil (ob h fun z_2 h5 h => zc_call (S := S_law_is_integer) ⟨_, _, rfl, h5, (ob h fun b_3 h6 h => ⟨_, dBl_some h6, (y_andV h (fun _ h _ hk => (z_cb (za_cons (z_op (zv0 (z_int (ob h fun z_3 h7 h => (y_ix .eq .eq h7 (za_nil (ob h fun z_4 h8 h => zc_call (S := S_law_is_integer) ⟨_, _, rfl, h8, (y_lf h hk)⟩)))))))))) (fun v h => (y_ret (kd := kd_law_is_pair) (x := v) [] h hit.rt rfl rfl)))⟩)⟩)))))))))))))⟩))⟩)))))))))))))
theorem z_law_is_pair {kk : D → Mem → Prop} {ds : List D} {M : Mem} (h : S_law_is_pair ds M kk) : ZS { K := K } (t_law_is_pair K Ac S_law_is_integer) (startD N_law_is_pair ds) M { nx := fun _ M' => kk .non M', rt := kk } := by
  obtain ⟨_, _, rfl, hm, hk⟩ := h
  exact zs_def0 hk fun DD hit => y_law_is_pair T hm hit
/-! _law_same -/
def kd_law_same : D → D × Mem := fun x => (x, [])
def S_law_same : ZSp := fun ds M kk_ => ∃ (actual due : D) (d : D), ds = [actual, due] ∧ m_law_same actual due = some d ∧ kk_ d M
theorem y_law_same {actual : D} {due : D} {out : D} (h : m_law_same actual due = some out) {DD : ZEnds} (hit : HitD (kd_law_same) DD out) : ZS { K := K } (t_law_same K Ac S_law_is_pair) [some actual, some due] [] DD := by
  unfold m_law_same at h
  unfold t_law_same
  exact (zs_ret (z_andV' (z_cb (za_cons (zv0 (za_nil (ob h fun z h1 h => zc_call (S := S_law_is_pair) ⟨_, _, rfl, h1, (ob h fun b h2 h => ⟨_, dBl_some h2, (y_andV h (fun _ h _ hk => (z_andV' (z_op (z_op (zv0 (z_int (ob h fun z_1 h3 h => (y_ix .eq .eq h3 (z_op (zv1 (z_int (ob h fun z_2 h4 h => (y_ix .eq .eq h4 (ob h fun b_1 h5 h => (y_eq .eq .eq h5 ⟨_, rfl, (y_andV h (fun _ h _ hk => (z_op (z_op (zv0 (z_int (ob h fun z_3 h6 h => (y_ix .eq .eq h6 (z_op (zv1 (z_int (ob h fun z_4 h7 h => (y_ix .eq .eq h7 (ob h fun b_2 h8 h => (y_eq .eq .eq h8 (y_lf h hk))))))))))))))) (fun v h => (y_lf h hk)))⟩))))))))))))))) (fun v_1 h => (y_ret (kd := kd_law_same) (x := v_1) [] h hit.rt rfl rfl)))⟩)⟩)))))))
theorem z_law_same {kk : D → Mem → Prop} {ds : List D} {M : Mem} (h : S_law_same ds M kk) : ZS { K := K } (t_law_same K Ac S_law_is_pair) (startD N_law_same ds) M { nx := fun _ M' => kk .non M', rt := kk } := by
  obtain ⟨_, _, _, rfl, hm, hk⟩ := h
  exact zs_def0 hk fun DD hit => y_law_same T hm hit
/-! _law_bound -/
def kd_law_bound (a_box : Addr) (a_row : Addr) : D × List D × List D → D × Mem := fun x => (x.1, [(a_box, .lst x.2.1), (a_row, .lst x.2.2)])
def S_law_bound : ZSp := fun ds M kk_ => ∃ (a_box : Addr) (a_row : Addr) (box : List D) (row : List D) (i j : Nat) (d : D) (o1 o2 : List D) (M' : Mem), ds = [.at a_box, .at a_row] ∧ M[i]? = some (a_box, .lst box) ∧ M[j]? = some (a_row, .lst row) ∧ i ≠ j ∧ m_law_bound box row = some (d, o1, o2) ∧ (M.set i (a_box, .lst o1)).set j (a_row, .lst o2) = M' ∧ kk_ d M'
theorem y_law_bound {box : List D} {row : List D} {a_box : Addr} {a_row : Addr} {out : D × List D × List D} (h : m_law_bound box row = some out) {DD : ZEnds} (hit : HitD (kd_law_bound a_box a_row) DD out) : ZS { K := K } (t_law_bound K Ac S_law_take S_law_fraction S_law_lowest) [some (.at a_box), some (.at a_row), none, none, none, none] [(a_box, MO.lst box), (a_row, MO.lst row)] DD := by
  unfold m_law_bound at h
  unfold t_law_bound
  exact (zs_seq (zs_asg (z_cb (za_cons (zv0 (za_cons (z_int (za_nil (obp h fun way box_1 h1 h => zc_call (S := S_law_take) ⟨_, _, _, 0, _, _, [(a_box, MO.lst box_1), (a_row, MO.lst row)], rfl, rfl, h1, rfl, (zg2 (zs_seq (zs_asg (z_cb (za_cons (zv0 (za_nil (obp h fun fresh box_2 h2 h => zc_call (S := S_law_fraction) ⟨_, _, 0, _, _, [(a_box, MO.lst box_2), (a_row, MO.lst row)], rfl, rfl, h2, rfl, (zg3 (zs_seq (zs_if (zt_test (z_op (zv2 (z_int (ob h fun b h3 h => (y_eq .eq .eq h3 ⟨_, rfl, ⟨fun hb => (have h := ifT hb h; (zs_ret (z_tup (za_cons (z_un (z_int (y_neg (x := .int 1) (z := .int (-1)) .eq rfl (za_cons (z_int (za_nil ⟨Nat.le_of_ble_eq_true rfl, (y_ret (kd := kd_law_bound a_box a_row) (x := ((D.tup [(D.int (-1)), (D.int 0)]), box_2, row)) [] h hit.rt rfl rfl)⟩)))))))))), fun hb => (have h := ifF hb h; (zs_nil (zs_seq (zs_if (zt_test (z_op (zv2 (z_int (ob h fun b_1 h4 h => (y_eq .eq .eq h4 ⟨_, rfl, ⟨fun hb => (have h := ifT hb h; (zs_ret (z_tup (za_cons (z_int (za_cons (z_int (za_nil ⟨Nat.le_of_ble_eq_true rfl, (y_ret (kd := kd_law_bound a_box a_row) (x := ((D.tup [(D.int 1), (D.int 0)]), box_2, row)) [] h hit.rt rfl rfl)⟩)))))))), fun hb => (have h := ifF hb h; (zs_nil (zs_seq (zs_if (zt_or' (zt_test (z_op (zv2 (z_int (ob h fun b_2 h5 h => (y_gt .eq .eq h5 ⟨_, rfl, (y_or h (fun _ h _ hk => (zt_test (z_op (zv1 (z_lst (za_nil ⟨Nat.le_of_ble_eq_true rfl, (ob h fun b_3 h6 h => (y_eq (.at 1 rfl) .eq h6 ⟨_, rfl, (y_lfB h hk)⟩))⟩)))))) (fun b_4 h => ⟨fun hb => (have h := ifT hb h; (zs_ret (zv3 (y_ret (kd := kd_law_bound a_box a_row) (x := (fresh, box_2, row)) [] h hit.rt rfl rfl)))), fun hb => (have h := ifF hb h; (zs_nil (zs_seq (zs_asg (z_op (zv1 (z_cb (za_cons (zv0 (za_cons (z_cb (za_cons (zv1 (za_nil (ob h fun z h7 h => (y_len (.at 1 rfl) h7 (za_nil (obp h fun z_1 box_3 h8 h => zc_call (S := S_law_take) ⟨_, _, _, 0, _, _, [(a_box, MO.lst box_3), (a_row, MO.lst row)], rfl, rfl, h8, rfl, (ob h fun near h9 h => (y_ix (.at 1 rfl) .eq h9 (zg4 (zs_seq (zs_if (zt_test (z_op (zv2 (z_int (ob h fun b_5 h10 h => (y_eq .eq .eq h10 ⟨_, rfl, ⟨fun hb => (have h := ifT hb h; (zs_ret (zv4 (y_ret (kd := kd_law_bound a_box a_row) (x := (near, box_3, row)) [] h hit.rt rfl rfl)))), fun hb => (have h := ifF hb h; (zs_nil (zs_seq (zs_if (zt_or' (zt_test (z_op (z_op (zv4 (z_int (ob h fun z_2 h11 h => (y_ix .eq .eq h11 (z_int (ob h fun b_6 h12 h => (y_eq .eq .eq h12 ⟨_, rfl, (y_or h (fun _ h _ hk => (zt_test (z_op (zv2 (z_int (ob h fun b_7 h13 h => (y_eq .eq .eq h13 ⟨_, rfl, (y_lfB h hk)⟩))))))) (fun b_8 h => ⟨fun hb => (have h := ifT hb h; (zs_ret (z_tup (za_cons (z_un (z_op (zv4 (z_int (ob h fun z_3 h14 h => (y_ix .eq .eq h14 (ob h fun z_4 h15 h => (y_neg .eq h15 (za_cons (z_op (zv4 (z_int (ob h fun z_5 h16 h => (y_ix .eq .eq h16 (za_nil ⟨Nat.le_of_ble_eq_true rfl, (y_ret (kd := kd_law_bound a_box a_row) (x := ((D.tup [z_4, z_5]), box_3, row)) [] h hit.rt rfl rfl)⟩))))))))))))))))))), fun hb => (have h := ifF hb h; (zs_nil (zs_seq (zs_asg (z_op (z_int (z_cb (za_cons (zv0 (za_cons (z_int (za_nil (obp h fun z_6 box_4 h17 h => zc_call (S := S_law_take) ⟨_, _, _, 0, _, _, [(a_box, MO.lst box_4), (a_row, MO.lst row)], rfl, rfl, h17, rfl, (ob h fun step h18 h => (y_add .eq .eq h18 (zg5 (zs_ret (z_cb (za_cons (z_op (z_op (z_op (z_op (zv4 (z_int (ob h fun z_7 h19 h => (y_ix .eq .eq h19 (zv5 (ob h fun z_8 h20 h => (y_mul .eq .eq h20 (z_op (z_int (z_cb (za_cons (zv0 (za_cons (z_int (za_nil (obp h fun z_9 box_5 h21 h => zc_call (S := S_law_take) ⟨_, _, _, 0, _, _, [(a_box, MO.lst box_5), (a_row, MO.lst row)], rfl, rfl, h21, rfl, (ob h fun z_10 h22 h => (y_mul .eq .eq h22 (ob h fun z_11 h23 h => (y_add .eq .eq h23 (z_int (ob h fun z_12 h24 h => (y_sub .eq .eq h24 (za_cons (z_op (z_op (zv4 (z_int (ob h fun z_13 h25 h => (y_ix .eq .eq h25 (zv5 (ob h fun z_14 h26 h => (y_mul .eq .eq h26 (za_nil (ob h fun r h27 h => zc_call (S := S_law_lowest) ⟨_, _, _, rfl, h27, (y_ret (kd := kd_law_bound a_box a_row) (x := (r, box_5, row)) [] h hit.rt rfl rfl)⟩)))))))))))))))))))⟩))))))))))))))))))))))))))⟩)))))))))))))⟩))⟩)))))))))))))))⟩⟩)))))))))))⟩))))))))))))))))))⟩))⟩)))))))))))⟩⟩))))))))))⟩⟩)))))))))⟩))))))))⟩)))))))))
theorem z_law_bound {kk : D → Mem → Prop} {ds : List D} {M : Mem} (h : S_law_bound ds M kk) : ZS { K := K } (t_law_bound K Ac S_law_take S_law_fraction S_law_lowest) (startD N_law_bound ds) M { nx := fun _ M' => kk .non M', rt := kk } := by
  obtain ⟨_, _, _, _, _, _, _, _, _, _, rfl, hi, hj, hij, hm, rfl, hk⟩ := h
  exact zs_def2 hi hj hij (out := (_, _, _)) hk fun DD hit => y_law_bound T hm hit
/-! _law_level -/
def kd_law_level : D → D × Mem := fun x => (x, [])
def S_law_level : ZSp := fun ds M kk_ => ∃ (bound : D) (d : D), ds = [bound] ∧ m_law_level bound = some d ∧ kk_ d M
theorem y_law_level {bound : D} {out : D} (h : m_law_level bound = some out) {DD : ZEnds} (hit : HitD (kd_law_level) DD out) : ZS { K := K } (t_law_level K Ac) [some bound] [] DD := by
  unfold m_law_level at h
  unfold t_law_level
  exact (zs_seq (zs_if (zt_test (z_op (z_op (zv0 (z_int (ob h fun z h1 h => (y_ix .eq .eq h1 (z_int (ob h fun b h2 h => (y_eq .eq .eq h2 ⟨_, rfl, ⟨fun hb => (have h := ifT hb h; (zs_ret (z_op (zv0 (z_int (ob h fun r h3 h => (y_ix .eq .eq h3 (y_ret (kd := kd_law_level) (x := r) [] h hit.rt rfl rfl)))))))), fun hb => (have h := ifF hb h; (zs_nil (zs_ret (z_int (y_ret (kd := kd_law_level) (x := (D.int 0)) [] h hit.rt rfl rfl)))))⟩⟩))))))))))))
theorem z_law_level {kk : D → Mem → Prop} {ds : List D} {M : Mem} (h : S_law_level ds M kk) : ZS { K := K } (t_law_level K Ac) (startD N_law_level ds) M { nx := fun _ M' => kk .non M', rt := kk } := by
  obtain ⟨_, _, rfl, hm, hk⟩ := h
  exact zs_def0 hk fun DD hit => y_law_level T hm hit
/-! _law_is_below -/
def kd_law_is_below : D → D × Mem := fun x => (x, [])
def S_law_is_below : ZSp := fun ds M kk_ => ∃ (one another : D) (d : D), ds = [one, another] ∧ m_law_is_below one another = some d ∧ kk_ d M
theorem y_law_is_below {one : D} {another : D} {out : D} (h : m_law_is_below one another = some out) {DD : ZEnds} (hit : HitD (kd_law_is_below) DD out) : ZS { K := K } (t_law_is_below K Ac S_law_level) [some one, some another] [] DD := by
  unfold m_law_is_below at h
  unfold t_law_is_below
  exact (zs_seq (zs_if (zt_or' (zt_test (z_op (z_op (zv0 (z_int (ob h fun z h1 h => (y_ix .eq .eq h1 (z_int (ob h fun b h2 h => (y_eq .eq .eq h2 ⟨_, rfl, (y_or h (fun _ h _ hk => (zt_test (z_op (z_op (zv1 (z_int (ob h fun z_1 h3 h => (y_ix .eq .eq h3 (z_int (ob h fun b_1 h4 h => (y_eq .eq .eq h4 ⟨_, rfl, (y_lfB h hk)⟩))))))))))) (fun b_2 h => ⟨fun hb => (have h := ifT hb h; (zs_ret (z_op (z_cb (za_cons (zv0 (za_nil (ob h fun z_2 h5 h => zc_call (S := S_law_level) ⟨_, _, rfl, h5, (z_cb (za_cons (zv1 (za_nil (ob h fun z_3 h6 h => zc_call (S := S_law_level) ⟨_, _, rfl, h6, (ob h fun b_3 h7 h => (y_lt .eq .eq h7 (y_ret (kd := kd_law_is_below) (x := (D.bl b_3)) [] h hit.rt rfl rfl)))⟩)))))⟩)))))))), fun hb => (have h := ifF hb h; (zs_nil (zs_ret (z_op (z_op (z_op (zv0 (z_int (ob h fun z_4 h8 h => (y_ix .eq .eq h8 (z_op (zv1 (z_int (ob h fun z_5 h9 h => (y_ix .eq .eq h9 (ob h fun z_6 h10 h => (y_mul .eq .eq h10 (z_op (z_op (zv1 (z_int (ob h fun z_7 h11 h => (y_ix .eq .eq h11 (z_op (zv0 (z_int (ob h fun z_8 h12 h => (y_ix .eq .eq h12 (ob h fun z_9 h13 h => (y_mul .eq .eq h13 (ob h fun b_4 h14 h => (y_lt .eq .eq h14 (y_ret (kd := kd_law_is_below) (x := (D.bl b_4)) [] h hit.rt rfl rfl)))))))))))))))))))))))))))))))))⟩))⟩)))))))))))))
theorem z_law_is_below {kk : D → Mem → Prop} {ds : List D} {M : Mem} (h : S_law_is_below ds M kk) : ZS { K := K } (t_law_is_below K Ac S_law_level) (startD N_law_is_below ds) M { nx := fun _ M' => kk .non M', rt := kk } := by
  obtain ⟨_, _, _, rfl, hm, hk⟩ := h
  exact zs_def0 hk fun DD hit => y_law_is_below T hm hit
/-! _law_order_right -/
def kd_law_order_right : D → D × Mem := fun x => (x, [])
def S_law_order_right : ZSp := fun ds M kk_ => ∃ (row : D) (d : D), ds = [row] ∧ m_law_order_right row = some d ∧ kk_ d M
theorem y_law_order_right {row : D} {out : D} (h : m_law_order_right row = some out) {DD : ZEnds} (hit : HitD (kd_law_order_right) DD out) : ZS { K := K } (t_law_order_right K Ac S_below S_law_is_below) [some row, none, none, none] [] DD := by
  unfold m_law_order_right at h
  unfold t_law_order_right
  exact (zs_seq (zs_for (zi_seqY (zv0 (ob h fun ds_1 h8 h => ⟨_, h8, (y_forD (S := Unit) (kd := kd_law_order_right) (fun _ => [some row, none, none, none]) (fun _ => []) h hit.rt .rfl (fun _ d _ h _ Jh1 => (zg1 (zs_one (zs_seq (zs_for (zi_seqY (zv0 (ob h fun ds h7 h => ⟨_, h7, (y_forF (S := Unit) (fun _ => [some row, some d, none, none]) (fun _ => []) h Jh1 .rfl (fun _ d_1 _ h _ Jh2 => (zg2 (zs_seq (zs_asg (z_cb (za_cons (zv1 (za_cons (zv2 (za_nil (ob h fun told h3 h => zc_call (S := S_below) ⟨_, _, _, rfl, h3, (zg3 (zs_if (zt_or' (zt_not (zt_truth (z_cb (za_cons (zv3 (ob h fun b h4 h => (za_cons (z_ty (za_nil (y_isi .eq h4 ⟨_, .bl _, (y_or h (fun _ h _ hk => (zt_test (z_op (zv3 (z_cb (za_cons (zv1 (za_cons (zv2 (za_nil (ob h fun z h5 h => zc_call (S := S_law_is_below) ⟨_, _, _, rfl, h5, (ob h fun b_1 h6 h => (y_ne .eq .eq h6 ⟨_, rfl, (y_lfB h hk)⟩))⟩))))))))))) (fun b_2 h => ⟨fun hb => (have h := ifT hb h; (zs_ret (z_bl (y_rtF (r := (D.bl false)) [] h Jh2 rfl rfl rfl)))), fun hb => (have h := ifF hb h; (zs_nil (y_nxF (n := ()) h Jh2 (.keep (.keep (.drop (.drop .nil)))) rfl rfl)))⟩))⟩)))))))))))))⟩))))))))))) (fun _ h => (zs_nil (y_nxF (n := ()) h Jh1 (.keep (.drop (.keep (.keep .nil)))) rfl rfl))) rfl)⟩)))))))) (fun _ h => (zs_ret (z_bl (y_ret (kd := kd_law_order_right) (x := (D.bl true)) [] h hit.rt rfl rfl)))) rfl)⟩)))))
theorem z_law_order_right {kk : D → Mem → Prop} {ds : List D} {M : Mem} (h : S_law_order_right ds M kk) : ZS { K := K } (t_law_order_right K Ac S_below S_law_is_below) (startD N_law_order_right ds) M { nx := fun _ M' => kk .non M', rt := kk } := by
  obtain ⟨_, _, rfl, hm, hk⟩ := h
  exact zs_def0 hk fun DD hit => y_law_order_right T hm hit
/-! _law_larger -/
def kd_law_larger : D → D × Mem := fun x => (x, [])
def S_law_larger : ZSp := fun ds M kk_ => ∃ (group : D) (d : D), ds = [group] ∧ m_law_larger group = some d ∧ kk_ d M
theorem y_law_larger {group : D} {out : D} (h : m_law_larger group = some out) {DD : ZEnds} (hit : HitD (kd_law_larger) DD out) : ZS { K := K } (t_law_larger K Ac (SStar 1 S_larger)) [some group] [] DD := by
  unfold m_law_larger at h
  unfold t_law_larger
  exact (zs_seq (zs_if (zt_test (z_op (z_cb (za_cons (zv0 (za_nil (ob h fun z h1 h => (y_len .eq h1 (z_int (ob h fun b h2 h => (y_eq .eq .eq h2 ⟨_, rfl, ⟨fun hb => (have h := ifT hb h; (zs_ret (z_cb (za_cons (z_op (zv0 (z_int (ob h fun z_1 h3 h => (y_ix .eq .eq h3 (za_nil (ob h fun r h4 h => zc_call (S := SStar 1 S_larger) ⟨[z_1], [], rfl, rfl, Nat.le_of_ble_eq_true rfl, _, _, _, rfl, h4, (y_ret (kd := kd_law_larger) (x := r) [] h hit.rt rfl rfl)⟩))))))))))), fun hb => (have h := ifF hb h; (zs_nil (zs_seq (zs_if (zt_test (z_op (z_cb (za_cons (zv0 (za_nil (ob h fun z_2 h5 h => (y_len .eq h5 (z_int (ob h fun b_1 h6 h => (y_eq .eq .eq h6 ⟨_, rfl, ⟨fun hb => (have h := ifT hb h; (zs_ret (z_cb (za_cons (z_op (zv0 (z_int (ob h fun z_3 h7 h => (y_ix .eq .eq h7 (za_cons (z_op (zv0 (z_int (ob h fun z_4 h8 h => (y_ix .eq .eq h8 (za_nil (ob h fun r_1 h9 h => zc_call (S := SStar 1 S_larger) ⟨[z_3], [z_4], rfl, rfl, Nat.le_of_ble_eq_true rfl, _, _, _, rfl, h9, (y_ret (kd := kd_law_larger) (x := r_1) [] h hit.rt rfl rfl)⟩))))))))))))))))), fun hb => (have h := ifF hb h; (zs_nil (zs_seq (zs_if (zt_test (z_op (z_cb (za_cons (zv0 (za_nil (ob h fun z_5 h10 h => (y_len .eq h10 (z_int (ob h fun b_2 h11 h => (y_eq .eq .eq h11 ⟨_, rfl, ⟨fun hb => (have h := ifT hb h; (zs_ret (z_cb (za_cons (z_op (zv0 (z_int (ob h fun z_6 h12 h => (y_ix .eq .eq h12 (za_cons (z_op (zv0 (z_int (ob h fun z_7 h13 h => (y_ix .eq .eq h13 (za_cons (z_op (zv0 (z_int (ob h fun z_8 h14 h => (y_ix .eq .eq h14 (za_nil (ob h fun r_2 h15 h => zc_call (S := SStar 1 S_larger) ⟨[z_6], [z_7, z_8], rfl, rfl, Nat.le_of_ble_eq_true rfl, _, _, _, rfl, h15, (y_ret (kd := kd_law_larger) (x := r_2) [] h hit.rt rfl rfl)⟩))))))))))))))))))))))), fun hb => (have h := ifF hb h; (zs_nil (zs_seq (zs_if (zt_test (z_op (z_cb (za_cons (zv0 (za_nil (ob h fun z_9 h16 h => (y_len .eq h16 (z_int (ob h fun b_3 h17 h => (y_eq .eq .eq h17 ⟨_, rfl, ⟨fun hb => (have h := ifT hb h; (zs_ret (z_cb (za_cons (z_op (zv0 (z_int (ob h fun z_10 h18 h => (y_ix .eq .eq h18 (za_cons (z_op (zv0 (z_int (ob h fun z_11 h19 h => (y_ix .eq .eq h19 (za_cons (z_op (zv0 (z_int (ob h fun z_12 h20 h => (y_ix .eq .eq h20 (za_cons (z_op (zv0 (z_int (ob h fun z_13 h21 h => (y_ix .eq .eq h21 (za_nil (ob h fun r_3 h22 h => zc_call (S := SStar 1 S_larger) ⟨[z_10], [z_11, z_12, z_13], rfl, rfl, Nat.le_of_ble_eq_true rfl, _, _, _, rfl, h22, (y_ret (kd := kd_law_larger) (x := r_3) [] h hit.rt rfl rfl)⟩))))))))))))))))))))))))))))), fun hb => (have h := ifF hb h; (zs_nil (zs_seq (zs_if (zt_test (z_op (z_cb (za_cons (zv0 (za_nil (ob h fun z_14 h23 h => (y_len .eq h23 (z_int (ob h fun b_4 h24 h => (y_eq .eq .eq h24 ⟨_, rfl, ⟨fun hb => (have h := ifT hb h; (zs_ret (z_cb (za_cons (z_op (zv0 (z_int (ob h fun z_15 h25 h => (y_ix .eq .eq h25 (za_cons (z_op (zv0 (z_int (ob h fun z_16 h26 h => (y_ix .eq .eq h26 (za_cons (z_op (zv0 (z_int (ob h fun z_17 h27 h => (y_ix .eq .eq h27 (za_cons (z_op (zv0 (z_int (ob h fun z_18 h28 h => (y_ix .eq .eq h28 (za_cons (z_op (zv0 (z_int (ob h fun z_19 h29 h => (y_ix .eq .eq h29 (za_nil (ob h fun r_4 h30 h => zc_call (S := SStar 1 S_larger) ⟨[z_15], [z_16, z_17, z_18, z_19], rfl, rfl, Nat.le_of_ble_eq_true rfl, _, _, _, rfl, h30, (y_ret (kd := kd_law_larger) (x := r_4) [] h hit.rt rfl rfl)⟩))))))))))))))))))))))))))))))))))), fun hb => (have h := ifF hb h; (zs_nil (zs_seq (zs_if (zt_test (z_op (z_cb (za_cons (zv0 (za_nil (ob h fun z_20 h31 h => (y_len .eq h31 (z_int (ob h fun b_5 h32 h => (y_eq .eq .eq h32 ⟨_, rfl, ⟨fun hb => (have h := ifT hb h; (zs_ret (z_cb (za_cons (z_op (zv0 (z_int (ob h fun z_21 h33 h => (y_ix .eq .eq h33 (za_cons (z_op (zv0 (z_int (ob h fun z_22 h34 h => (y_ix .eq .eq h34 (za_cons (z_op (zv0 (z_int (ob h fun z_23 h35 h => (y_ix .eq .eq h35 (za_cons (z_op (zv0 (z_int (ob h fun z_24 h36 h => (y_ix .eq .eq h36 (za_cons (z_op (zv0 (z_int (ob h fun z_25 h37 h => (y_ix .eq .eq h37 (za_cons (z_op (zv0 (z_int (ob h fun z_26 h38 h => (y_ix .eq .eq h38 (za_nil (ob h fun r_5 h39 h => zc_call (S := SStar 1 S_larger) ⟨[z_21], [z_22, z_23, z_24, z_25, z_26], rfl, rfl, Nat.le_of_ble_eq_true rfl, _, _, _, rfl, h39, (y_ret (kd := kd_law_larger) (x := r_5) [] h hit.rt rfl rfl)⟩))))))))))))))))))))))))))))))))))))))))), fun hb => (have h := ifF hb h; (zs_nil (zs_ret (z_cb (za_cons (z_op (zv0 (z_int (ob h fun z_27 h40 h => (y_ix .eq .eq h40 (za_cons (z_op (zv0 (z_int (ob h fun z_28 h41 h => (y_ix .eq .eq h41 (za_cons (z_op (zv0 (z_int (ob h fun z_29 h42 h => (y_ix .eq .eq h42 (za_cons (z_op (zv0 (z_int (ob h fun z_30 h43 h => (y_ix .eq .eq h43 (za_cons (z_op (zv0 (z_int (ob h fun z_31 h44 h => (y_ix .eq .eq h44 (za_cons (z_op (zv0 (z_int (ob h fun z_32 h45 h => (y_ix .eq .eq h45 (za_cons (z_op (zv0 (z_int (ob h fun z_33 h46 h => (y_ix .eq .eq h46 (za_cons (z_op (zv0 (z_int (ob h fun z_34 h47 h => (y_ix .eq .eq h47 (za_cons (z_op (zv0 (z_int (ob h fun z_35 h48 h => (y_ix .eq .eq h48 (za_nil (ob h fun r_6 h49 h => zc_call (S := SStar 1 S_larger) ⟨[z_27], [z_28, z_29, z_30, z_31, z_32, z_33, z_34, z_35], rfl, rfl, Nat.le_of_ble_eq_true rfl, _, _, _, rfl, h49, (y_ret (kd := kd_law_larger) (x := r_6) [] h hit.rt rfl rfl)⟩))))))))))))))))))))))))))))))))))))))))))))))))))))))))))))⟩⟩)))))))))))))))⟩⟩)))))))))))))))⟩⟩)))))))))))))))⟩⟩)))))))))))))))⟩⟩)))))))))))))))⟩⟩)))))))))))))
theorem z_law_larger {kk : D → Mem → Prop} {ds : List D} {M : Mem} (h : S_law_larger ds M kk) : ZS { K := K } (t_law_larger K Ac (SStar 1 S_larger)) (startD N_law_larger ds) M { nx := fun _ M' => kk .non M', rt := kk } := by
  obtain ⟨_, _, rfl, hm, hk⟩ := h
  exact zs_def0 hk fun DD hit => y_law_larger T hm hit
/-! _law_smaller -/
def kd_law_smaller : D → D × Mem := fun x => (x, [])
def S_law_smaller : ZSp := fun ds M kk_ => ∃ (group : D) (d : D), ds = [group] ∧ m_law_smaller group = some d ∧ kk_ d M
theorem y_law_smaller {group : D} {out : D} (h : m_law_smaller group = some out) {DD : ZEnds} (hit : HitD (kd_law_smaller) DD out) : ZS { K := K } (t_law_smaller K Ac (SStar 1 S_smaller)) [some group] [] DD := by
  unfold m_law_smaller at h
  unfold t_law_smaller
  exact (zs_seq (zs_if (zt_test (z_op (z_cb (za_cons (zv0 (za_nil (ob h fun z h1 h => (y_len .eq h1 (z_int (ob h fun b h2 h => (y_eq .eq .eq h2 ⟨_, rfl, ⟨fun hb => (have h := ifT hb h; (zs_ret (z_cb (za_cons (z_op (zv0 (z_int (ob h fun z_1 h3 h => (y_ix .eq .eq h3 (za_nil (ob h fun r h4 h => zc_call (S := SStar 1 S_smaller) ⟨[z_1], [], rfl, rfl, Nat.le_of_ble_eq_true rfl, _, _, _, rfl, h4, (y_ret (kd := kd_law_smaller) (x := r) [] h hit.rt rfl rfl)⟩))))))))))), fun hb => (have h := ifF hb h; (zs_nil (zs_seq (zs_if (zt_test (z_op (z_cb (za_cons (zv0 (za_nil (ob h fun z_2 h5 h => (y_len .eq h5 (z_int (ob h fun b_1 h6 h => (y_eq .eq .eq h6 ⟨_, rfl, ⟨fun hb => (have h := ifT hb h; (zs_ret (z_cb (za_cons (z_op (zv0 (z_int (ob h fun z_3 h7 h => (y_ix .eq .eq h7 (za_cons (z_op (zv0 (z_int (ob h fun z_4 h8 h => (y_ix .eq .eq h8 (za_nil (ob h fun r_1 h9 h => zc_call (S := SStar 1 S_smaller) ⟨[z_3], [z_4], rfl, rfl, Nat.le_of_ble_eq_true rfl, _, _, _, rfl, h9, (y_ret (kd := kd_law_smaller) (x := r_1) [] h hit.rt rfl rfl)⟩))))))))))))))))), fun hb => (have h := ifF hb h; (zs_nil (zs_seq (zs_if (zt_test (z_op (z_cb (za_cons (zv0 (za_nil (ob h fun z_5 h10 h => (y_len .eq h10 (z_int (ob h fun b_2 h11 h => (y_eq .eq .eq h11 ⟨_, rfl, ⟨fun hb => (have h := ifT hb h; (zs_ret (z_cb (za_cons (z_op (zv0 (z_int (ob h fun z_6 h12 h => (y_ix .eq .eq h12 (za_cons (z_op (zv0 (z_int (ob h fun z_7 h13 h => (y_ix .eq .eq h13 (za_cons (z_op (zv0 (z_int (ob h fun z_8 h14 h => (y_ix .eq .eq h14 (za_nil (ob h fun r_2 h15 h => zc_call (S := SStar 1 S_smaller) ⟨[z_6], [z_7, z_8], rfl, rfl, Nat.le_of_ble_eq_true rfl, _, _, _, rfl, h15, (y_ret (kd := kd_law_smaller) (x := r_2) [] h hit.rt rfl rfl)⟩))))))))))))))))))))))), fun hb => (have h := ifF hb h; (zs_nil (zs_seq (zs_if (zt_test (z_op (z_cb (za_cons (zv0 (za_nil (ob h fun z_9 h16 h => (y_len .eq h16 (z_int (ob h fun b_3 h17 h => (y_eq .eq .eq h17 ⟨_, rfl, ⟨fun hb => (have h := ifT hb h; (zs_ret (z_cb (za_cons (z_op (zv0 (z_int (ob h fun z_10 h18 h => (y_ix .eq .eq h18 (za_cons (z_op (zv0 (z_int (ob h fun z_11 h19 h => (y_ix .eq .eq h19 (za_cons (z_op (zv0 (z_int (ob h fun z_12 h20 h => (y_ix .eq .eq h20 (za_cons (z_op (zv0 (z_int (ob h fun z_13 h21 h => (y_ix .eq .eq h21 (za_nil (ob h fun r_3 h22 h => zc_call (S := SStar 1 S_smaller) ⟨[z_10], [z_11, z_12, z_13], rfl, rfl, Nat.le_of_ble_eq_true rfl, _, _, _, rfl, h22, (y_ret (kd := kd_law_smaller) (x := r_3) [] h hit.rt rfl rfl)⟩))))))))))))))))))))))))))))), fun hb => (have h := ifF hb h; (zs_nil (zs_seq (zs_if (zt_test (z_op (z_cb (za_cons (zv0 (za_nil (ob h fun z_14 h23 h => (y_len .eq h23 (z_int (ob h fun b_4 h24 h => (y_eq .eq .eq h24 ⟨_, rfl, ⟨fun hb => (have h := ifT hb h; (zs_ret (z_cb (za_cons (z_op (zv0 (z_int (ob h fun z_15 h25 h => (y_ix .eq .eq h25 (za_cons (z_op (zv0 (z_int (ob h fun z_16 h26 h => (y_ix .eq .eq h26 (za_cons (z_op (zv0 (z_int (ob h fun z_17 h27 h => (y_ix .eq .eq h27 (za_cons (z_op (zv0 (z_int (ob h fun z_18 h28 h => (y_ix .eq .eq h28 (za_cons (z_op (zv0 (z_int (ob h fun z_19 h29 h => (y_ix .eq .eq h29 (za_nil (ob h fun r_4 h30 h => zc_call (S := SStar 1 S_smaller) ⟨[z_15], [z_16, z_17, z_18, z_19], rfl, rfl, Nat.le_of_ble_eq_true rfl, _, _, _, rfl, h30, (y_ret (kd := kd_law_smaller) (x := r_4) [] h hit.rt rfl rfl)⟩))))))))))))))))))))))))))))))))))), fun hb => (have h := ifF hb h; (zs_nil (zs_seq (zs_if (zt_test (z_op (z_cb (za_cons (zv0 (za_nil (ob h fun z_20 h31 h => (y_len .eq h31 (z_int (ob h fun b_5 h32 h => (y_eq .eq .eq h32 ⟨_, rfl, ⟨fun hb => (have h := ifT hb h; (zs_ret (z_cb (za_cons (z_op (zv0 (z_int (ob h fun z_21 h33 h => (y_ix .eq .eq h33 (za_cons (z_op (zv0 (z_int (ob h fun z_22 h34 h => (y_ix .eq .eq h34 (za_cons (z_op (zv0 (z_int (ob h fun z_23 h35 h => (y_ix .eq .eq h35 (za_cons (z_op (zv0 (z_int (ob h fun z_24 h36 h => (y_ix .eq .eq h36 (za_cons (z_op (zv0 (z_int (ob h fun z_25 h37 h => (y_ix .eq .eq h37 (za_cons (z_op (zv0 (z_int (ob h fun z_26 h38 h => (y_ix .eq .eq h38 (za_nil (ob h fun r_5 h39 h => zc_call (S := SStar 1 S_smaller) ⟨[z_21], [z_22, z_23, z_24, z_25, z_26], rfl, rfl, Nat.le_of_ble_eq_true rfl, _, _, _, rfl, h39, (y_ret (kd := kd_law_smaller) (x := r_5) [] h hit.rt rfl rfl)⟩))))))))))))))))))))))))))))))))))))))))), fun hb => (have h := ifF hb h; (zs_nil (zs_ret (z_cb (za_cons (z_op (zv0 (z_int (ob h fun z_27 h40 h => (y_ix .eq .eq h40 (za_cons (z_op (zv0 (z_int (ob h fun z_28 h41 h => (y_ix .eq .eq h41 (za_cons (z_op (zv0 (z_int (ob h fun z_29 h42 h => (y_ix .eq .eq h42 (za_cons (z_op (zv0 (z_int (ob h fun z_30 h43 h => (y_ix .eq .eq h43 (za_cons (z_op (zv0 (z_int (ob h fun z_31 h44 h => (y_ix .eq .eq h44 (za_cons (z_op (zv0 (z_int (ob h fun z_32 h45 h => (y_ix .eq .eq h45 (za_cons (z_op (zv0 (z_int (ob h fun z_33 h46 h => (y_ix .eq .eq h46 (za_cons (z_op (zv0 (z_int (ob h fun z_34 h47 h => (y_ix .eq .eq h47 (za_cons (z_op (zv0 (z_int (ob h fun z_35 h48 h => (y_ix .eq .eq h48 (za_nil (ob h fun r_6 h49 h => zc_call (S := SStar 1 S_smaller) ⟨[z_27], [z_28, z_29, z_30, z_31, z_32, z_33, z_34, z_35], rfl, rfl, Nat.le_of_ble_eq_true rfl, _, _, _, rfl, h49, (y_ret (kd := kd_law_smaller) (x := r_6) [] h hit.rt rfl rfl)⟩))))))))))))))))))))))))))))))))))))))))))))))))))))))))))))⟩⟩)))))))))))))))⟩⟩)))))))))))))))⟩⟩)))))))))))))))⟩⟩)))))))))))))))⟩⟩)))))))))))))))⟩⟩)))))))))))))
theorem z_law_smaller {kk : D → Mem → Prop} {ds : List D} {M : Mem} (h : S_law_smaller ds M kk) : ZS { K := K } (t_law_smaller K Ac (SStar 1 S_smaller)) (startD N_law_smaller ds) M { nx := fun _ M' => kk .non M', rt := kk } := by
  obtain ⟨_, _, rfl, hm, hk⟩ := h
  exact zs_def0 hk fun DD hit => y_law_smaller T hm hit
/-! _law_total -/
def kd_law_total : D → D × Mem := fun x => (x, [])
def S_law_total : ZSp := fun ds M kk_ => ∃ (terms : D) (d : D), ds = [terms] ∧ m_law_total terms = some d ∧ kk_ d M
theorem y_law_total {terms : D} {out : D} (h : m_law_total terms = some out) {DD : ZEnds} (hit : HitD (kd_law_total) DD out) : ZS { K := K } (t_law_total K Ac (SStar 0 S_total)) [some terms] [] DD := by
  unfold m_law_total at h
  unfold t_law_total
  exact (zs_seq (zs_if (zt_test (z_op (zv0 (z_lst (za_nil ⟨Nat.le_of_ble_eq_true rfl, (ob h fun b h1 h => (y_eq .eq .eq h1 ⟨_, rfl, ⟨fun hb => (have h := ifT hb h; (zs_ret (z_cb (za_nil (ob h fun r h2 h => zc_call (S := SStar 0 S_total) ⟨[], [], rfl, rfl, Nat.le_of_ble_eq_true rfl, _, _, rfl, h2, (y_ret (kd := kd_law_total) (x := r) [] h hit.rt rfl rfl)⟩))))), fun hb => (have h := ifF hb h; (zs_nil (zs_seq (zs_if (zt_test (z_op (z_cb (za_cons (zv0 (za_nil (ob h fun z h3 h => (y_len .eq h3 (z_int (ob h fun b_1 h4 h => (y_eq .eq .eq h4 ⟨_, rfl, ⟨fun hb => (have h := ifT hb h; (zs_ret (z_cb (za_cons (z_op (zv0 (z_int (ob h fun z_1 h5 h => (y_ix .eq .eq h5 (za_nil (ob h fun r_1 h6 h => zc_call (S := SStar 0 S_total) ⟨[], [z_1], rfl, rfl, Nat.le_of_ble_eq_true rfl, _, _, rfl, h6, (y_ret (kd := kd_law_total) (x := r_1) [] h hit.rt rfl rfl)⟩))))))))))), fun hb => (have h := ifF hb h; (zs_nil (zs_seq (zs_if (zt_test (z_op (z_cb (za_cons (zv0 (za_nil (ob h fun z_2 h7 h => (y_len .eq h7 (z_int (ob h fun b_2 h8 h => (y_eq .eq .eq h8 ⟨_, rfl, ⟨fun hb => (have h := ifT hb h; (zs_ret (z_cb (za_cons (z_op (zv0 (z_int (ob h fun z_3 h9 h => (y_ix .eq .eq h9 (za_cons (z_op (zv0 (z_int (ob h fun z_4 h10 h => (y_ix .eq .eq h10 (za_nil (ob h fun r_2 h11 h => zc_call (S := SStar 0 S_total) ⟨[], [z_3, z_4], rfl, rfl, Nat.le_of_ble_eq_true rfl, _, _, rfl, h11, (y_ret (kd := kd_law_total) (x := r_2) [] h hit.rt rfl rfl)⟩))))))))))))))))), fun hb => (have h := ifF hb h; (zs_nil (zs_seq (zs_if (zt_test (z_op (z_cb (za_cons (zv0 (za_nil (ob h fun z_5 h12 h => (y_len .eq h12 (z_int (ob h fun b_3 h13 h => (y_eq .eq .eq h13 ⟨_, rfl, ⟨fun hb => (have h := ifT hb h; (zs_ret (z_cb (za_cons (z_op (zv0 (z_int (ob h fun z_6 h14 h => (y_ix .eq .eq h14 (za_cons (z_op (zv0 (z_int (ob h fun z_7 h15 h => (y_ix .eq .eq h15 (za_cons (z_op (zv0 (z_int (ob h fun z_8 h16 h => (y_ix .eq .eq h16 (za_nil (ob h fun r_3 h17 h => zc_call (S := SStar 0 S_total) ⟨[], [z_6, z_7, z_8], rfl, rfl, Nat.le_of_ble_eq_true rfl, _, _, rfl, h17, (y_ret (kd := kd_law_total) (x := r_3) [] h hit.rt rfl rfl)⟩))))))))))))))))))))))), fun hb => (have h := ifF hb h; (zs_nil (zs_seq (zs_if (zt_test (z_op (z_cb (za_cons (zv0 (za_nil (ob h fun z_9 h18 h => (y_len .eq h18 (z_int (ob h fun b_4 h19 h => (y_eq .eq .eq h19 ⟨_, rfl, ⟨fun hb => (have h := ifT hb h; (zs_ret (z_cb (za_cons (z_op (zv0 (z_int (ob h fun z_10 h20 h => (y_ix .eq .eq h20 (za_cons (z_op (zv0 (z_int (ob h fun z_11 h21 h => (y_ix .eq .eq h21 (za_cons (z_op (zv0 (z_int (ob h fun z_12 h22 h => (y_ix .eq .eq h22 (za_cons (z_op (zv0 (z_int (ob h fun z_13 h23 h => (y_ix .eq .eq h23 (za_nil (ob h fun r_4 h24 h => zc_call (S := SStar 0 S_total) ⟨[], [z_10, z_11, z_12, z_13], rfl, rfl, Nat.le_of_ble_eq_true rfl, _, _, rfl, h24, (y_ret (kd := kd_law_total) (x := r_4) [] h hit.rt rfl rfl)⟩))))))))))))))))))))))))))))), fun hb => (have h := ifF hb h; (zs_nil (zs_seq (zs_if (zt_test (z_op (z_cb (za_cons (zv0 (za_nil (ob h fun z_14 h25 h => (y_len .eq h25 (z_int (ob h fun b_5 h26 h => (y_eq .eq .eq h26 ⟨_, rfl, ⟨fun hb => (have h := ifT hb h; (zs_ret (z_cb (za_cons (z_op (zv0 (z_int (ob h fun z_15 h27 h => (y_ix .eq .eq h27 (za_cons (z_op (zv0 (z_int (ob h fun z_16 h28 h => (y_ix .eq .eq h28 (za_cons (z_op (zv0 (z_int (ob h fun z_17 h29 h => (y_ix .eq .eq h29 (za_cons (z_op (zv0 (z_int (ob h fun z_18 h30 h => (y_ix .eq .eq h30 (za_cons (z_op (zv0 (z_int (ob h fun z_19 h31 h => (y_ix .eq .eq h31 (za_nil (ob h fun r_5 h32 h => zc_call (S := SStar 0 S_total) ⟨[], [z_15, z_16, z_17, z_18, z_19], rfl, rfl, Nat.le_of_ble_eq_true rfl, _, _, rfl, h32, (y_ret (kd := kd_law_total) (x := r_5) [] h hit.rt rfl rfl)⟩))))))))))))))))))))))))))))))))))), fun hb => (have h := ifF hb h; (zs_nil (zs_seq (zs_if (zt_test (z_op (z_cb (za_cons (zv0 (za_nil (ob h fun z_20 h33 h => (y_len .eq h33 (z_int (ob h fun b_6 h34 h => (y_eq .eq .eq h34 ⟨_, rfl, ⟨fun hb => (have h := ifT hb h; (zs_ret (z_cb (za_cons (z_op (zv0 (z_int (ob h fun z_21 h35 h => (y_ix .eq .eq h35 (za_cons (z_op (zv0 (z_int (ob h fun z_22 h36 h => (y_ix .eq .eq h36 (za_cons (z_op (zv0 (z_int (ob h fun z_23 h37 h => (y_ix .eq .eq h37 (za_cons (z_op (zv0 (z_int (ob h fun z_24 h38 h => (y_ix .eq .eq h38 (za_cons (z_op (zv0 (z_int (ob h fun z_25 h39 h => (y_ix .eq .eq h39 (za_cons (z_op (zv0 (z_int (ob h fun z_26 h40 h => (y_ix .eq .eq h40 (za_nil (ob h fun r_6 h41 h => zc_call (S := SStar 0 S_total) ⟨[], [z_21, z_22, z_23, z_24, z_25, z_26], rfl, rfl, Nat.le_of_ble_eq_true rfl, _, _, rfl, h41, (y_ret (kd := kd_law_total) (x := r_6) [] h hit.rt rfl rfl)⟩))))))))))))))))))))))))))))))))))))))))), fun hb => (have h := ifF hb h; (zs_nil (zs_ret (z_cb (za_cons (z_op (zv0 (z_int (ob h fun z_27 h42 h => (y_ix .eq .eq h42 (za_cons (z_op (zv0 (z_int (ob h fun z_28 h43 h => (y_ix .eq .eq h43 (za_cons (z_op (zv0 (z_int (ob h fun z_29 h44 h => (y_ix .eq .eq h44 (za_cons (z_op (zv0 (z_int (ob h fun z_30 h45 h => (y_ix .eq .eq h45 (za_cons (z_op (zv0 (z_int (ob h fun z_31 h46 h => (y_ix .eq .eq h46 (za_cons (z_op (zv0 (z_int (ob h fun z_32 h47 h => (y_ix .eq .eq h47 (za_cons (z_op (zv0 (z_int (ob h fun z_33 h48 h => (y_ix .eq .eq h48 (za_cons (z_op (zv0 (z_int (ob h fun z_34 h49 h => (y_ix .eq .eq h49 (za_cons (z_op (zv0 (z_int (ob h fun z_35 h50 h => (y_ix .eq .eq h50 (za_nil (ob h fun r_7 h51 h => zc_call (S := SStar 0 S_total) ⟨[], [z_27, z_28, z_29, z_30, z_31, z_32, z_33, z_34, z_35], rfl, rfl, Nat.le_of_ble_eq_true rfl, _, _, rfl, h51, (y_ret (kd := kd_law_total) (x := r_7) [] h hit.rt rfl rfl)⟩))))))))))))))))))))))))))))))))))))))))))))))))))))))))))))⟩⟩)))))))))))))))⟩⟩)))))))))))))))⟩⟩)))))))))))))))⟩⟩)))))))))))))))⟩⟩)))))))))))))))⟩⟩)))))))))))))))⟩⟩))⟩)))))))
theorem z_law_total {kk : D → Mem → Prop} {ds : List D} {M : Mem} (h : S_law_total ds M kk) : ZS { K := K } (t_law_total K Ac (SStar 0 S_total)) (startD N_law_total ds) M { nx := fun _ M' => kk .non M', rt := kk } := by
  obtain ⟨_, _, rfl, hm, hk⟩ := h
  exact zs_def0 hk fun DD hit => y_law_total T hm hit
/-! _law_greatest -/
def kd_law_greatest : D → D × Mem := fun x => (x, [])
def S_law_greatest : ZSp := fun ds M kk_ => ∃ (group : D) (d : D), ds = [group] ∧ m_law_greatest group = some d ∧ kk_ d M
theorem y_law_greatest {group : D} {out : D} (h : m_law_greatest group = some out) {DD : ZEnds} (hit : HitD (kd_law_greatest) DD out) : ZS { K := K } (t_law_greatest K Ac S_law_is_below) [some group, none, none] [] DD := by
  unfold m_law_greatest at h
  unfold t_law_greatest
  exact (zs_seq (zs_asg (z_op (zv0 (z_int (ob h fun best h1 h => (y_ix .eq .eq h1 (zg1 (zs_seq (zs_for (zi_seqY (zv0 (ob h fun ds h5 h => ⟨_, h5, (y_forO (S := D) (fun best_1 => [some group, some best_1, none]) (fun best_1 => []) h .rfl (fun best_2 d _ h _ Jh2 => (zg2 (zs_if (zt_truth (z_cb (za_cons (zv1 (za_cons (zv2 (za_nil (ob h fun z h3 h => zc_call (S := S_law_is_below) ⟨_, _, _, rfl, h3, (ob h fun b h4 h => ⟨_, y_truD .eq h4, ⟨fun hb => (have h := ifT hb h; (zs_one (zs_seq (zs_asg (zv2 (zg1 (zs_nil (y_nx h Jh2 (.keep (.keep (.drop .nil))) rfl rfl)))))))), fun hb => (have h := ifF hb h; (zs_nil (y_nx h Jh2 (.keep (.keep (.drop .nil))) rfl rfl)))⟩⟩)⟩))))))))))) (fun best_3 h => (zs_ret (zv1 (y_ret (kd := kd_law_greatest) (x := best_3) [] h hit.rt rfl rfl)))) rfl)⟩)))))))))))))
theorem z_law_greatest {kk : D → Mem → Prop} {ds : List D} {M : Mem} (h : S_law_greatest ds M kk) : ZS { K := K } (t_law_greatest K Ac S_law_is_below) (startD N_law_greatest ds) M { nx := fun _ M' => kk .non M', rt := kk } := by
  obtain ⟨_, _, rfl, hm, hk⟩ := h
  exact zs_def0 hk fun DD hit => y_law_greatest T hm hit
/-! _law_least -/
def kd_law_least : D → D × Mem := fun x => (x, [])
def S_law_least : ZSp := fun ds M kk_ => ∃ (group : D) (d : D), ds = [group] ∧ m_law_least group = some d ∧ kk_ d M
theorem y_law_least {group : D} {out : D} (h : m_law_least group = some out) {DD : ZEnds} (hit : HitD (kd_law_least) DD out) : ZS { K := K } (t_law_least K Ac S_law_is_below) [some group, none, none] [] DD := by
  unfold m_law_least at h
  unfold t_law_least
  exact (zs_seq (zs_asg (z_op (zv0 (z_int (ob h fun best h1 h => (y_ix .eq .eq h1 (zg1 (zs_seq (zs_for (zi_seqY (zv0 (ob h fun ds h5 h => ⟨_, h5, (y_forO (S := D) (fun best_1 => [some group, some best_1, none]) (fun best_1 => []) h .rfl (fun best_2 d _ h _ Jh2 => (zg2 (zs_if (zt_truth (z_cb (za_cons (zv2 (za_cons (zv1 (za_nil (ob h fun z h3 h => zc_call (S := S_law_is_below) ⟨_, _, _, rfl, h3, (ob h fun b h4 h => ⟨_, y_truD .eq h4, ⟨fun hb => (have h := ifT hb h; (zs_one (zs_seq (zs_asg (zv2 (zg1 (zs_nil (y_nx h Jh2 (.keep (.keep (.drop .nil))) rfl rfl)))))))), fun hb => (have h := ifF hb h; (zs_nil (y_nx h Jh2 (.keep (.keep (.drop .nil))) rfl rfl)))⟩⟩)⟩))))))))))) (fun best_3 h => (zs_ret (zv1 (y_ret (kd := kd_law_least) (x := best_3) [] h hit.rt rfl rfl)))) rfl)⟩)))))))))))))
theorem z_law_least {kk : D → Mem → Prop} {ds : List D} {M : Mem} (h : S_law_least ds M kk) : ZS { K := K } (t_law_least K Ac S_law_is_below) (startD N_law_least ds) M { nx := fun _ M' => kk .non M', rt := kk } := by
  obtain ⟨_, _, rfl, hm, hk⟩ := h
  exact zs_def0 hk fun DD hit => y_law_least T hm hit
/-! _law_sum -/
def kd_law_sum : D → D × Mem := fun x => (x, [])
def S_law_sum : ZSp := fun ds M kk_ => ∃ (terms : D) (d : D), ds = [terms] ∧ m_law_sum terms = some d ∧ kk_ d M
theorem y_law_sum {terms : D} {out : D} (h : m_law_sum terms = some out) {DD : ZEnds} (hit : HitD (kd_law_sum) DD out) : ZS { K := K } (t_law_sum K Ac S_law_lowest) [some terms, none, none, none] [] DD := by
  unfold m_law_sum at h
  unfold t_law_sum
  exact (zs_seq (zs_asg (z_int (zg1 (zs_seq (zs_asg (z_int (zg2 (zs_seq (zs_for (zi_seqY (zv0 (ob h fun ds h10 h => ⟨_, h10, (y_forO (S := D × D) (fun (top, under) => [some terms, some top, some under, none]) (fun (top, under) => []) h .rfl (fun (top_1, under_1) d _ h _ Jh1 => (zg3 (zs_seq (zs_asg (z_op (z_op (zv1 (z_op (zv3 (z_int (ob h fun z h2 h => (y_ix .eq .eq h2 (ob h fun z_1 h3 h => (y_mul .eq .eq h3 (z_op (z_op (zv3 (z_int (ob h fun z_2 h4 h => (y_ix .eq .eq h4 (zv2 (ob h fun z_3 h5 h => (y_mul .eq .eq h5 (ob h fun top_3 h6 h => (y_add .eq .eq h6 (zg1 (zs_one (zs_seq (zs_asg (z_op (zv2 (z_op (zv3 (z_int (ob h fun z_4 h7 h => (y_ix .eq .eq h7 (ob h fun under_3 h8 h => (y_mul .eq .eq h8 (zg2 (zs_nil (y_nx h Jh1 (.keep (.keep (.keep (.drop .nil)))) rfl rfl))))))))))))))))))))))))))))))))))))))))) (fun (top_2, under_2) h => (zs_ret (z_cb (za_cons (zv1 (za_cons (zv2 (za_nil (ob h fun r h9 h => zc_call (S := S_law_lowest) ⟨_, _, _, rfl, h9, (y_ret (kd := kd_law_sum) (x := r) [] h hit.rt rfl rfl)⟩))))))))) rfl)⟩)))))))))))))
theorem z_law_sum {kk : D → Mem → Prop} {ds : List D} {M : Mem} (h : S_law_sum ds M kk) : ZS { K := K } (t_law_sum K Ac S_law_lowest) (startD N_law_sum ds) M { nx := fun _ M' => kk .non M', rt := kk } := by
  obtain ⟨_, _, rfl, hm, hk⟩ := h
  exact zs_def0 hk fun DD hit => y_law_sum T hm hit
/-! _law_groups_right -/
def kd_law_groups_right (a_box : Addr) : D × List D → D × Mem := fun x => (x.1, [(a_box, .lst x.2)])
def S_law_groups_right : ZSp := fun ds M kk_ => ∃ (a_box : Addr) (row : D) (box : List D) (i : Nat) (d : D) (o' : List D) (M' : Mem), ds = [.at a_box, row] ∧ M[i]? = some (a_box, .lst box) ∧ m_law_groups_right box row = some (d, o') ∧ M.set i (a_box, .lst o') = M' ∧ kk_ d M'
theorem y_law_groups_right {box : List D} {row : D} {a_box : Addr} {out : D × List D} (h : m_law_groups_right box row = some out) {DD : ZEnds} (hit : HitD (kd_law_groups_right a_box) DD out) : ZS { K := K } (t_law_groups_right K Ac S_law_take S_law_larger S_law_greatest S_law_same S_law_smaller S_law_least) [some (.at a_box), some row, none, none, none] [(a_box, MO.lst box)] DD := by
  unfold m_law_groups_right at h
  unfold t_law_groups_right
  exact (zs_seq (zs_for (zi_seqY (z_lst (za_cons (z_int (za_cons (z_int (za_cons (z_int (za_cons (z_int (za_cons (z_int (za_cons (z_int (za_cons (z_int (za_nil ⟨Nat.le_of_ble_eq_true rfl, (ob h fun ds_1 h15 h => ⟨_, h15, (y_forD (S := List D) (kd := kd_law_groups_right a_box) (fun box_1 => [some (.at a_box), some row, none, none, none]) (fun box_1 => [(a_box, MO.lst box_1)]) h hit.rt .rfl (fun box_2 d _ h _ Jh1 => (zg2 (zs_seq (zs_asg (z_lc (own_name (by decide)) (zi_rng1' (za_cons (zv2 (za_nil (ob h fun ds h2 h => ⟨_, _, rfl, h2, (obp h fun group box_7 h3 h => y_lcS (S := List D) (fun box_5 => [(a_box, MO.lst box_5)]) h3 (fun box_4 d_1 _ _ h _ hk => (zg4 (z_op (zv1 (z_cb (za_cons (zv0 (za_cons (z_cb (za_cons (zv1 (za_nil (ob h fun z h4 h => (y_len .eq h4 (za_nil (obp h fun z_1 box_6 h5 h => zc_call (S := S_law_take) ⟨_, _, _, 0, _, _, [(a_box, MO.lst box_6)], rfl, rfl, h5, rfl, (ob h fun z_2 h6 h => (y_ix .eq .eq h6 (y_lfXD (Ms := (fun box_5 => [(a_box, MO.lst box_5)])) (s := box_6) h hk rfl)))⟩)))))))))))))))) rfl (zg3 (zs_seq (zs_if (zt_not (zt_truth (z_cb (za_cons (z_cb (za_cons (zv3 (za_nil (ob h fun z_3 h7 h => zc_call (S := S_law_larger) ⟨_, _, rfl, h7, (za_cons (z_cb (za_cons (zv3 (za_nil (ob h fun z_4 h8 h => zc_call (S := S_law_greatest) ⟨_, _, rfl, h8, (za_nil (ob h fun z_5 h9 h => zc_call (S := S_law_same) ⟨_, _, _, rfl, h9, (ob h fun b h10 h => ⟨_, y_truD .eq h10, ⟨fun hb => (have h := ifT hb h; (zs_ret (z_bl (y_rtF (r := ((D.bl false), box_7)) [] h Jh1 rfl rfl rfl)))), fun hb => (have h := ifF hb h; (zs_nil (zs_if (zt_not (zt_truth (z_cb (za_cons (z_cb (za_cons (zv3 (za_nil (ob h fun z_6 h11 h => zc_call (S := S_law_smaller) ⟨_, _, rfl, h11, (za_cons (z_cb (za_cons (zv3 (za_nil (ob h fun z_7 h12 h => zc_call (S := S_law_least) ⟨_, _, rfl, h12, (za_nil (ob h fun z_8 h13 h => zc_call (S := S_law_same) ⟨_, _, _, rfl, h13, (ob h fun b_1 h14 h => ⟨_, y_truD .eq h14, ⟨fun hb => (have h := ifT hb h; (zs_ret (z_bl (y_rtF (r := ((D.bl false), box_7)) [] h Jh1 rfl rfl rfl)))), fun hb => (have h := ifF hb h; (zs_nil (y_nxF (n := box_7) h Jh1 (.keep (.keep (.drop (.drop (.keep .nil))))) rfl rfl)))⟩⟩)⟩))⟩))))))⟩))))))))))))⟩⟩)⟩))⟩))))))⟩)))))))))))))⟩)))))))))) (fun box_3 h => (zs_ret (z_bl (y_ret (kd := kd_law_groups_right a_box) (x := ((D.bl true), box_3)) [] h hit.rt rfl rfl)))) rfl)⟩)⟩)))))))))))))))))))
theorem z_law_groups_right {kk : D → Mem → Prop} {ds : List D} {M : Mem} (h : S_law_groups_right ds M kk) : ZS { K := K } (t_law_groups_right K Ac S_law_take S_law_larger S_law_greatest S_law_same S_law_smaller S_law_least) (startD N_law_groups_right ds) M { nx := fun _ M' => kk .non M', rt := kk } := by
  obtain ⟨_, _, _, _, _, _, _, rfl, hi, hm, rfl, hk⟩ := h
  exact zs_def1 hi (out := (_, _)) hk fun DD hit => y_law_groups_right T hm hit
/-! _law_totals_right -/
def kd_law_totals_right (a_box : Addr) : D × List D → D × Mem := fun x => (x.1, [(a_box, .lst x.2)])
def S_law_totals_right : ZSp := fun ds M kk_ => ∃ (a_box : Addr) (row : D) (box : List D) (i : Nat) (d : D) (o' : List D) (M' : Mem), ds = [.at a_box, row] ∧ M[i]? = some (a_box, .lst box) ∧ m_law_totals_right box row = some (d, o') ∧ M.set i (a_box, .lst o') = M' ∧ kk_ d M'
theorem y_law_totals_right {box : List D} {row : D} {a_box : Addr} {out : D × List D} (h : m_law_totals_right box row = some out) {DD : ZEnds} (hit : HitD (kd_law_totals_right a_box) DD out) : ZS { K := K } (t_law_totals_right K Ac S_law_take S_law_total S_law_sum S_law_same) [some (.at a_box), some row, none, none, none, none, none] [(a_box, MO.lst box)] DD := by
  unfold m_law_totals_right at h
  unfold t_law_totals_right
  exact (zs_seq (zs_asg (z_lc (own_name (by decide)) (zi_seqY (zv1 (ob h fun ds h1 h => ⟨_, h1, (ob h fun fractions h2 h => y_lcF h2 (fun d _ h _ _ kT kF => (zg3 (zt_test (z_op (z_op (zv3 (z_int (ob h fun z h3 h => (y_ix .eq .eq h3 (z_int (ob h fun b h4 h => (y_ne .eq .eq h4 ⟨_, rfl, ⟨fun hb => (have h := ifT hb h; (zv3 (y_fT h kT))), fun hb => (have h := ifF hb h; y_fF h kF)⟩⟩)))))))))))) (zg2 (y_join (N := D) (fun fractions_1 => [some (.at a_box), some row, some fractions_1, none, none, none, none]) (fun fractions_1 => [(a_box, MO.lst box)]) h (fun _ h _ Jh5 => (zs_if (zt_test (z_op (zv2 (z_lst (za_nil ⟨Nat.le_of_ble_eq_true rfl, (ob h fun b_1 h6 h => (y_eq .eq .eq h6 ⟨_, rfl, ⟨fun hb => (have h := ifT hb h; (zs_one (zs_seq (zs_asg (z_lst (za_cons (z_tup (za_cons (z_un (z_int (y_neg (x := .int 3) (z := .int (-3)) .eq rfl (za_cons (z_int (za_nil ⟨Nat.le_of_ble_eq_true rfl, (za_nil ⟨Nat.le_of_ble_eq_true rfl, (zg2 (zs_nil (y_nx h Jh5 .rfl rfl rfl)))⟩)⟩)))))))))))))), fun hb => (have h := ifF hb h; (zs_nil (y_nx h Jh5 .rfl rfl rfl)))⟩⟩))⟩))))))) (fun fractions_2 h => (zs_seq (zs_for (zi_seqY (z_lst (za_cons (z_int (za_cons (z_int (za_cons (z_int (za_cons (z_int (za_cons (z_int (za_cons (z_int (za_cons (z_int (za_cons (z_int (za_nil ⟨Nat.le_of_ble_eq_true rfl, (ob h fun ds_2 h17 h => ⟨_, h17, (y_forD (S := List D) (kd := kd_law_totals_right a_box) (fun box_1 => [some (.at a_box), some row, some fractions_2, none, none, none, none]) (fun box_1 => [(a_box, MO.lst box_1)]) h hit.rt .rfl (fun box_2 d_1 _ h _ Jh7 => (zg4 (zs_seq (zs_asg (z_lc (own_name (by decide)) (zi_rng1' (za_cons (zv4 (za_nil (ob h fun ds_1 h8 h => ⟨_, _, rfl, h8, (obp h fun terms box_7 h9 h => y_lcS (S := List D) (fun box_5 => [(a_box, MO.lst box_5)]) h9 (fun box_4 d_2 _ _ h _ hk => (zg6 (z_op (zv2 (z_cb (za_cons (zv0 (za_cons (z_cb (za_cons (zv2 (za_nil (ob h fun z_1 h10 h => (y_len .eq h10 (za_nil (obp h fun z_2 box_6 h11 h => zc_call (S := S_law_take) ⟨_, _, _, 0, _, _, [(a_box, MO.lst box_6)], rfl, rfl, h11, rfl, (ob h fun z_3 h12 h => (y_ix .eq .eq h12 (y_lfXD (Ms := (fun box_5 => [(a_box, MO.lst box_5)])) (s := box_6) h hk rfl)))⟩)))))))))))))))) rfl (zg5 (zs_if (zt_not (zt_truth (z_cb (za_cons (z_cb (za_cons (zv5 (za_nil (ob h fun z_4 h13 h => zc_call (S := S_law_total) ⟨_, _, rfl, h13, (za_cons (z_cb (za_cons (zv5 (za_nil (ob h fun z_5 h14 h => zc_call (S := S_law_sum) ⟨_, _, rfl, h14, (za_nil (ob h fun z_6 h15 h => zc_call (S := S_law_same) ⟨_, _, _, rfl, h15, (ob h fun b_2 h16 h => ⟨_, y_truD .eq h16, ⟨fun hb => (have h := ifT hb h; (zs_ret (z_bl (y_rtF (r := ((D.bl false), box_7)) [] h Jh7 rfl rfl rfl)))), fun hb => (have h := ifF hb h; (zs_nil (y_nxF (n := box_7) h Jh7 (.keep (.keep (.keep (.keep (.drop (.drop (.keep .nil))))))) rfl rfl)))⟩⟩)⟩))⟩))))))⟩))))))))))))⟩)))))))))) (fun box_3 h => (zs_ret (z_bl (y_ret (kd := kd_law_totals_right a_box) (x := ((D.bl true), box_3)) [] h hit.rt rfl rfl)))) rfl)⟩)⟩)))))))))))))))))))))))))⟩))))))
theorem z_law_totals_right {kk : D → Mem → Prop} {ds : List D} {M : Mem} (h : S_law_totals_right ds M kk) : ZS { K := K } (t_law_totals_right K Ac S_law_take S_law_total S_law_sum S_law_same) (startD N_law_totals_right ds) M { nx := fun _ M' => kk .non M', rt := kk } := by
  obtain ⟨_, _, _, _, _, _, _, rfl, hi, hm, rfl, hk⟩ := h
  exact zs_def1 hi (out := (_, _)) hk fun DD hit => y_law_totals_right T hm hit
/-! _law_whole_right -/
def kd_law_whole_right : D → D × Mem := fun x => (x, [])
def S_law_whole_right : ZSp := fun ds M kk_ => ∃ (bound : D) (d : D), ds = [bound] ∧ m_law_whole_right bound = some d ∧ kk_ d M
theorem y_law_whole_right {bound : D} {out : D} (h : m_law_whole_right bound = some out) {DD : ZEnds} (hit : HitD (kd_law_whole_right) DD out) : ZS { K := K } (t_law_whole_right K Ac S_whole S_law_same S_law_is_pair) [some bound, none] [] DD := by
  unfold m_law_whole_right at h
  unfold t_law_whole_right
  exact (zs_seq (zs_asg (z_cb (za_cons (zv0 (za_nil (ob h fun told h1 h => zc_call (S := S_whole) ⟨_, _, rfl, h1, (zg1 (zs_seq (zs_if (zt_test (z_op (z_op (zv0 (z_int (ob h fun z h2 h => (y_ix .eq .eq h2 (z_int (ob h fun b h3 h => (y_eq .eq .eq h3 ⟨_, rfl, ⟨fun hb => (have h := ifT hb h; (zs_ret (z_cb (za_cons (zv1 (za_cons (zv0 (za_nil (ob h fun r h4 h => zc_call (S := S_law_same) ⟨_, _, _, rfl, h4, (y_ret (kd := kd_law_whole_right) (x := r) [] h hit.rt rfl rfl)⟩))))))))), fun hb => (have h := ifF hb h; (zs_nil (zs_seq (zs_if (zt_or' (zt_not (zt_truth (z_cb (za_cons (zv1 (za_nil (ob h fun z_1 h5 h => zc_call (S := S_law_is_pair) ⟨_, _, rfl, h5, (ob h fun b_1 h6 h => ⟨_, y_truD .eq h6, (y_or h (fun _ h _ hk => (zt_test (z_op (z_op (zv1 (z_int (ob h fun z_2 h7 h => (y_ix .eq .eq h7 (z_int (ob h fun b_2 h8 h => (y_ne .eq .eq h8 ⟨_, rfl, (y_lfB h hk)⟩))))))))))) (fun b_3 h => ⟨fun hb => (have h := ifT hb h; (zs_ret (z_bl (y_ret (kd := kd_law_whole_right) (x := (D.bl false)) [] h hit.rt rfl rfl)))), fun hb => (have h := ifF hb h; (zs_nil (zs_ret (z_andV' (z_op (z_op (z_op (zv1 (z_int (ob h fun z_3 h9 h => (y_ix .eq .eq h9 (z_op (zv0 (z_int (ob h fun z_4 h10 h => (y_ix .eq .eq h10 (ob h fun z_5 h11 h => (y_mul .eq .eq h11 (z_op (zv0 (z_int (ob h fun z_6 h12 h => (y_ix .eq .eq h12 (ob h fun b_4 h13 h => (y_le .eq .eq h13 ⟨_, rfl, (y_andV h (fun _ h _ hk => (z_op (z_op (zv0 (z_int (ob h fun z_7 h14 h => (y_ix .eq .eq h14 (z_op (z_op (z_op (zv1 (z_int (ob h fun z_8 h15 h => (y_ix .eq .eq h15 (z_int (ob h fun z_9 h16 h => (y_add .eq .eq h16 (z_op (zv0 (z_int (ob h fun z_10 h17 h => (y_ix .eq .eq h17 (ob h fun z_11 h18 h => (y_mul .eq .eq h18 (ob h fun b_5 h19 h => (y_lt .eq .eq h19 (y_lf h hk))))))))))))))))))))))))))) (fun v h => (y_ret (kd := kd_law_whole_right) (x := v) [] h hit.rt rfl rfl)))⟩)))))))))))))))))))))))))⟩))⟩)⟩))))))))))))⟩⟩)))))))))))))⟩)))))))
theorem z_law_whole_right {kk : D → Mem → Prop} {ds : List D} {M : Mem} (h : S_law_whole_right ds M kk) : ZS { K := K } (t_law_whole_right K Ac S_whole S_law_same S_law_is_pair) (startD N_law_whole_right ds) M { nx := fun _ M' => kk .non M', rt := kk } := by
  obtain ⟨_, _, rfl, hm, hk⟩ := h
  exact zs_def0 hk fun DD hit => y_law_whole_right T hm hit
/-! _law_number_read -/
def kd_law_number_read : D → D × Mem := fun x => (x, [])
def S_law_number_read : ZSp := fun ds M kk_ => ∃ (text : D) (d : D), ds = [text] ∧ m_law_number_read text = some d ∧ kk_ d M
theorem y_law_number_read {text : D} {out : D} (h : m_law_number_read text = some out) {DD : ZEnds} (hit : HitD (kd_law_number_read) DD out) : ZS { K := K } (t_law_number_read K Ac) [some text, none, none, none] [] DD := by
  unfold m_law_number_read at h
  unfold t_law_number_read
  exact (zs_seq (zs_asg (zv0 (zg1 (y_join (N := D) (fun digits => [some text, some digits, none, none]) (fun digits => []) h (fun _ h _ Jh1 => (zs_if (zt_test (z_op (z_sl (zv0 (zo_none (zo_some' (z_int (ob h fun o h2 h => ⟨_, h2, (ob h fun z h3 h => (y_slice .eq h3 (z_str (ob h fun b h4 h => (y_eq .eq .eq h4 ⟨_, rfl, ⟨fun hb => (have h := ifT hb h; (zs_one (zs_seq (zs_asg (z_sl (zv0 (zo_some' (z_int (ob h fun o_1 h5 h => ⟨_, h5, (zo_none (ob h fun digits_1 h6 h => (y_slice .eq h6 (zg1 (zs_nil (y_nx h Jh1 .rfl rfl rfl))))))⟩))))))))), fun hb => (have h := ifF hb h; (zs_nil (y_nx h Jh1 .rfl rfl rfl)))⟩⟩)))))⟩)))))))))) (fun digits_2 h => (zs_seq (zs_if (zt_or' (zt_test (z_op (zv1 (z_str (ob h fun b_1 h7 h => (y_eq .eq .eq h7 ⟨_, rfl, (y_or h (fun _ h _ hk => (zt_and' (zt_test (z_op (z_op (zv1 (z_int (ob h fun z_1 h8 h => (y_ix .eq .eq h8 (z_str (ob h fun b_2 h9 h => (y_eq .eq .eq h9 ⟨_, rfl, (y_and h (fun _ h _ hk => (zt_test (z_op (zv0 (z_str (ob h fun b_3 h10 h => (y_ne .eq .eq h10 ⟨_, rfl, (y_lfB h hk)⟩))))))) (fun b_4 h => (y_lfB h hk)))⟩)))))))))))) (fun b_5 h => ⟨fun hb => (have h := ifT hb h; (zs_ret (z_non (y_ret (kd := kd_law_number_read) (x := D.non) [] h hit.rt rfl rfl)))), fun hb => (have h := ifF hb h; (zs_nil (zs_seq (zs_asg (z_int (zg2 (zs_seq (zs_for (zi_seqY (zv1 (ob h fun ds h19 h => ⟨_, h19, (y_forD (S := D) (kd := kd_law_number_read) (fun number => [some text, some digits_2, some number, none]) (fun number => []) h hit.rt .rfl (fun number_1 d _ h _ Jh11 => (zg3 (zs_seq (zs_if (zt_test (z_op (zv3 (z_str (ob h fun b_6 h12 h => (y_notInY .eq .eq h12 ⟨_, rfl, ⟨fun hb => (have h := ifT hb h; (zs_ret (z_non (y_rtF (r := D.non) [] h Jh11 rfl rfl rfl)))), fun hb => (have h := ifF hb h; (zs_nil (zs_one (zs_seq (zs_asg (z_op (z_op (zv2 (z_int (ob h fun z_2 h13 h => (y_mul .eq .eq h13 (z_bmS (z_str (ob h fun s h14 h => ⟨isS_ok h14, (za_cons (zv3 (za_nil (ob h fun z_3 h15 h => (y_find h15 (ob h fun number_3 h16 h => (y_add .eq .eq h16 (zg2 (zs_nil (y_nxF (n := number_3) h Jh11 (.keep (.keep (.keep (.drop .nil)))) rfl rfl))))))))))⟩))))))))))))))⟩⟩)))))))))) (fun number_2 h => (zs_seq (zs_if (zt_test (z_op (zv1 (zv0 (ob h fun b_7 h17 h => (y_ne .eq .eq h17 ⟨_, rfl, ⟨fun hb => (have h := ifT hb h; (zs_ret (z_un (zv2 (ob h fun r h18 h => (y_neg .eq h18 (y_ret (kd := kd_law_number_read) (x := r) [] h hit.rt rfl rfl))))))), fun hb => (have h := ifF hb h; (zs_nil (zs_ret (zv2 (y_ret (kd := kd_law_number_read) (x := number_2) [] h hit.rt rfl rfl)))))⟩⟩))))))))) rfl)⟩)))))))))))⟩))⟩)))))))))))))))
theorem z_law_number_read {kk : D → Mem → Prop} {ds : List D} {M : Mem} (h : S_law_number_read ds M kk) : ZS { K := K } (t_law_number_read K Ac) (startD N_law_number_read ds) M { nx := fun _ M' => kk .non M', rt := kk } := by
  obtain ⟨_, _, rfl, hm, hk⟩ := h
  exact zs_def0 hk fun DD hit => y_law_number_read T hm hit
/-! _law_bound_read -/
def kd_law_bound_read : D → D × Mem := fun x => (x, [])
def S_law_bound_read : ZSp := fun ds M kk_ => ∃ (text : D) (d : D), ds = [text] ∧ m_law_bound_read text = some d ∧ kk_ d M
theorem y_law_bound_read {text : D} {out : D} (h : m_law_bound_read text = some out) {DD : ZEnds} (hit : HitD (kd_law_bound_read) DD out) : ZS { K := K } (t_law_bound_read K Ac S_law_number_read) [some text, none, none] [] DD := by
  unfold m_law_bound_read at h
  unfold t_law_bound_read
  exact (zs_seq (zs_if (zt_not (zt_truth (z_cb (za_cons (zv0 (ob h fun b h1 h => (za_cons (z_ty (za_nil (y_isi .eq h1 ⟨_, .bl _, ⟨fun hb => (have h := ifT hb h; (zs_ret (z_non (y_ret (kd := kd_law_bound_read) (x := D.non) [] h hit.rt rfl rfl)))), fun hb => (have h := ifF hb h; (zs_nil (zs_seq (zs_if (zt_test (z_op (zv0 (z_str (ob h fun b_1 h2 h => (y_eq .eq .eq h2 ⟨_, rfl, ⟨fun hb => (have h := ifT hb h; (zs_ret (z_tup (za_cons (z_int (za_cons (z_int (za_nil ⟨Nat.le_of_ble_eq_true rfl, (y_ret (kd := kd_law_bound_read) (x := (D.tup [(D.int 1), (D.int 0)])) [] h hit.rt rfl rfl)⟩)))))))), fun hb => (have h := ifF hb h; (zs_nil (zs_seq (zs_if (zt_test (z_op (zv0 (z_str (ob h fun b_2 h3 h => (y_eq .eq .eq h3 ⟨_, rfl, ⟨fun hb => (have h := ifT hb h; (zs_ret (z_tup (za_cons (z_un (z_int (y_neg (x := .int 1) (z := .int (-1)) .eq rfl (za_cons (z_int (za_nil ⟨Nat.le_of_ble_eq_true rfl, (y_ret (kd := kd_law_bound_read) (x := (D.tup [(D.int (-1)), (D.int 0)])) [] h hit.rt rfl rfl)⟩)))))))))), fun hb => (have h := ifF hb h; (zs_nil (zs_seq (zs_if (zt_test (z_op (z_str (zv0 (ob h fun b_3 h4 h => (y_notInY .eq .eq h4 ⟨_, rfl, ⟨fun hb => (have h := ifT hb h; (zs_ret (z_tup (za_cons (z_cb (za_cons (zv0 (za_nil (ob h fun z h5 h => zc_call (S := S_law_number_read) ⟨_, _, rfl, h5, (za_cons (z_int (za_nil ⟨Nat.le_of_ble_eq_true rfl, (y_ret (kd := kd_law_bound_read) (x := (D.tup [z, (D.int 1)])) [] h hit.rt rfl rfl)⟩)))⟩))))))))), fun hb => (have h := ifF hb h; (zs_nil (zs_seq (zs_asg (z_bmS (zv0 (ob h fun s h6 h => ⟨isS_ok h6, (za_cons (z_str (za_nil (ob h fun at' h7 h => (y_find h7 (zg1 (zs_seq (zs_asg (z_cb (za_cons (z_sl (zv0 (zo_some' (z_op (zv1 (z_int (ob h fun z_1 h8 h => (y_add .eq .eq h8 (ob h fun o h9 h => ⟨_, h9, (zo_none (ob h fun z_2 h10 h => (y_slice .eq h10 (za_nil (ob h fun under h11 h => zc_call (S := S_law_number_read) ⟨_, _, rfl, h11, (zg2 (zs_seq (zs_if (zt_or' (zt_test (z_op (zv2 (z_non (y_isN .eq ⟨_, rfl, (y_or h (fun _ h _ hk => (zt_test (z_op (zv2 (z_int (ob h fun b_4 h12 h => (y_lt .eq .eq h12 ⟨_, rfl, (y_lfB h hk)⟩))))))) (fun b_5 h => ⟨fun hb => (have h := ifT hb h; (zs_ret (z_non (y_ret (kd := kd_law_bound_read) (x := D.non) [] h hit.rt rfl rfl)))), fun hb => (have h := ifF hb h; (zs_nil (zs_ret (z_tup (za_cons (z_cb (za_cons (z_sl (zv0 (zo_none (zo_some' (zv1 (ob h fun o_1 h13 h => ⟨_, h13, (ob h fun z_3 h14 h => (y_slice .eq h14 (za_nil (ob h fun z_4 h15 h => zc_call (S := S_law_number_read) ⟨_, _, rfl, h15, (za_cons (zv2 (za_nil ⟨Nat.le_of_ble_eq_true rfl, (y_ret (kd := kd_law_bound_read) (x := (D.tup [z_4, under])) [] h hit.rt rfl rfl)⟩)))⟩))))⟩)))))))))))))⟩))⟩)))))))))⟩)))))⟩)))))))))))))))))))⟩)))))))⟩⟩))))))))))⟩⟩))))))))))⟩⟩))))))))))⟩⟩))))))))))))
theorem z_law_bound_read {kk : D → Mem → Prop} {ds : List D} {M : Mem} (h : S_law_bound_read ds M kk) : ZS { K := K } (t_law_bound_read K Ac S_law_number_read) (startD N_law_bound_read ds) M { nx := fun _ M' => kk .non M', rt := kk } := by
  obtain ⟨_, _, rfl, hm, hk⟩ := h
  exact zs_def0 hk fun DD hit => y_law_bound_read T hm hit
/-! law -/
def kd_law : D → D × Mem := fun x => (x, [])
def S_law : ZSp := fun ds M kk_ => ∃ (script : D) (d : D), ds = [script] ∧ m_law script = some d ∧ kk_ d M
theorem y_law {script : D} {out : D} (h : m_law script = some out) {DD : ZEnds} (hit : HitD (kd_law) DD out) : ZS { K := K } (t_law K Ac S_law_same S_law_box S_law_bound S_law_order_right S_law_whole_right S_shown S_law_bound_read S_law_groups_right S_law_totals_right) [some script, none, none, none, none] [] DD := by
  unfold m_law at h
  unfold t_law
  exact (zs_seq (zs_if (zt_or' (zt_not (zt_truth (z_cb (za_cons (z_glb T.k_ENDLESS.r (za_cons (z_tup (za_cons (z_int (za_cons (z_int (za_nil ⟨Nat.le_of_ble_eq_true rfl, (za_nil (ob h fun z h1 h => zc_call (S := S_law_same) ⟨_, _, _, rfl, h1, (ob h fun b h2 h => ⟨_, y_truD .eq h2, (y_or h (fun _ h _ hk => (zt_not (zt_truth (z_cb (za_cons (z_glb T.k_NOTHING.r (za_cons (z_tup (za_cons (z_un (z_int (y_neg (x := .int 1) (z := .int (-1)) .eq rfl (za_cons (z_int (za_nil ⟨Nat.le_of_ble_eq_true rfl, (za_nil (ob h fun z_1 h3 h => zc_call (S := S_law_same) ⟨_, _, _, rfl, h3, (ob h fun b_1 h4 h => ⟨_, y_truD .eq h4, (y_lfB h hk)⟩)⟩))⟩))))))))))))))) (fun b_2 h => ⟨fun hb => (have h := ifT hb h; (zs_ret (z_bl (y_ret (kd := kd_law) (x := (D.bl false)) [] h hit.rt rfl rfl)))), fun hb => (have h := ifF hb h; (zs_nil (zs_seq (zs_asg (z_lstM (za_nil ⟨Nat.le_of_ble_eq_true rfl, (fun p__law_row => zg1 (zs_seq (zs_for (zi_rng1' (za_cons (z_cb (za_cons (z_int (za_cons (z_cb (za_cons (z_int (za_cons (z_op (z_cb (za_cons (zv0 (za_nil (ob h fun z_11 h23 h => (y_len .eq h23 (z_int (ob h fun z_12 h24 h => (y_sub .eq .eq h24 (za_nil (ob h fun z_13 h25 h => (y_min2 h25 (za_nil (ob h fun z_14 h26 h => (y_max2 h26 (za_nil (ob h fun ds_1 h27 h => ⟨_, _, rfl, h27, (y_forO (S := List D) (fun row => [some script, some (.at p__law_row), none, none, none]) (fun row => [(p__law_row, MO.lst row)]) h .rfl (fun row_1 d _ h _ Jh5 => (zg2 (zs_one (zs_seq (zs_drop (z_bm (zv1 ⟨⟨_, .at 0 rfl⟩, (za_cons (z_cb (za_cons (z_cb (za_cons (zv0 (za_cons (z_op (zv2 (z_int (ob h fun z_2 h6 h => (y_add .eq .eq h6 (za_nil (ob h fun z_3 h7 h => zc_call (S := S_law_box) ⟨_, _, _, rfl, h7, (fun p_t => (za_cons (zv1 (za_nil (obp3 h fun z_4 t_1 row_3 h8 h => zc_call (S := S_law_bound) ⟨_, _, _, _, 0, 1, _, _, _, [(p_t, MO.lst t_1), (p__law_row, MO.lst row_3)], rfl, rfl, rfl, by decide, h8, rfl, (za_nil (ob h fun row_4 h9 h => y_append (i := 1) (M' := [(p_t, MO.lst t_1), (p__law_row, MO.lst row_4)]) rfl h9 rfl (y_forgetS (i := 0) (M' := [(p__law_row, MO.lst row_4)]) rfl (zs_nil (y_nx h Jh5 (.keep (.keep (.drop (.keep (.keep .nil))))) rfl rfl)))))⟩)))))⟩))))))))))))))⟩))))))) (fun row_2 h => (y_frz (i := 0) (j := 1) (Γ' := [some script, some (D.lst row_2), none, none, none]) (M' := []) rfl rfl rfl rfl (zs_seq (zs_if (zt_not (zt_truth (z_cb (za_cons (zv1 (za_nil (ob h fun z_5 h10 h => zc_call (S := S_law_order_right) ⟨_, _, rfl, h10, (ob h fun b_3 h11 h => ⟨_, y_truD .eq h11, ⟨fun hb => (have h := ifT hb h; (zs_ret (z_bl (y_ret (kd := kd_law) (x := (D.bl false)) [] h hit.rt rfl rfl)))), fun hb => (have h := ifF hb h; (zs_nil (zs_seq (zs_for (zi_seqY (zv1 (ob h fun ds h22 h => ⟨_, h22, (y_forD (S := Unit) (kd := kd_law) (fun _ => [some script, some (D.lst row_2), none, none, none]) (fun _ => []) h hit.rt .rfl (fun _ d_1 _ h _ Jh12 => (zg3 (zs_if (zt_or' (zt_not (zt_truth (z_cb (za_cons (zv3 (za_nil (ob h fun z_6 h13 h => zc_call (S := S_law_whole_right) ⟨_, _, rfl, h13, (ob h fun b_4 h14 h => ⟨_, y_truD .eq h14, (y_or h (fun _ h _ hk => (zt_test (z_op (z_cb (za_cons (z_cb (za_cons (zv3 (za_nil (ob h fun z_7 h15 h => zc_call (S := S_shown) ⟨_, _, rfl, h15, (za_nil (ob h fun z_8 h16 h => zc_call (S := S_law_bound_read) ⟨_, _, rfl, h16, (zv3 (ob h fun b_5 h17 h => (y_ne .eq .eq h17 ⟨_, rfl, (y_lfB h hk)⟩)))⟩))⟩)))))))))) (fun b_6 h => ⟨fun hb => (have h := ifT hb h; (zs_ret (z_bl (y_rtF (r := (D.bl false)) [] h Jh12 rfl rfl rfl)))), fun hb => (have h := ifF hb h; (zs_nil (y_nxF (n := ()) h Jh12 (.keep (.keep (.keep (.drop (.keep .nil))))) rfl rfl)))⟩))⟩)⟩))))))))))) (fun _ h => (zs_seq (zs_asg (z_cb (za_cons (zv0 (za_cons (z_int (za_nil (ob h fun box h18 h => zc_call (S := S_law_box) ⟨_, _, _, rfl, h18, (fun p__law_box => zg4 (zs_ret (z_andV' (z_cb (za_cons (zv4 (za_cons (zv1 (za_nil (obp h fun z_9 box_1 h19 h => zc_call (S := S_law_groups_right) ⟨_, _, _, 0, _, _, [(p__law_box, MO.lst box_1)], rfl, rfl, h19, rfl, (ob h fun b_7 h20 h => ⟨_, dBl_some h20, (y_andVX (S := List D) (fun box_2 => [(p__law_box, MO.lst box_2)]) (s := box_1) h (fun _ _ h _ hk => (z_cb (za_cons (zv4 (za_cons (zv1 (za_nil (obp h fun z_10 box_3 h21 h => zc_call (S := S_law_totals_right) ⟨_, _, _, 0, _, _, [(p__law_box, MO.lst box_3)], rfl, rfl, h21, rfl, (y_lfXD (Ms := (fun box_2 => [(p__law_box, MO.lst box_2)])) (s := box_3) h hk rfl)⟩)))))))) rfl (fun v box_4 h => (y_ret (kd := kd_law) (x := v) [(p__law_box, MO.lst box_4)] h hit.rt rfl rfl)))⟩)⟩))))))))))⟩)))))))))) rfl)⟩)))))))⟩⟩)⟩))))))))))) rfl)⟩)))))))))))))))))))))))))))))))⟩))))))⟩))⟩)⟩))⟩)))))))))))))))
theorem z_law {kk : D → Mem → Prop} {ds : List D} {M : Mem} (h : S_law ds M kk) : ZS { K := K } (t_law K Ac S_law_same S_law_box S_law_bound S_law_order_right S_law_whole_right S_shown S_law_bound_read S_law_groups_right S_law_totals_right) (startD N_law ds) M { nx := fun _ M' => kk .non M', rt := kk } := by
  obtain ⟨_, _, rfl, hm, hk⟩ := h
  exact zs_def0 hk fun DD hit => y_law T hm hit
end
end Qk01
set_option Elab.async false
set_option linter.all false
set_option maxRecDepth 100000
set_option maxHeartbeats 4000000
/-! M01a: drawing, the greatest common divisor, fractions in lowest terms. -/
namespace Qk01
open PySem Z
/-- the drawing box -/
def IsBx (box : List D) : Prop := ∃ a b c : Int, box = [.int a, .int b, .int c]
theorem take_ok {box : List D} (hb : IsBx box) {n : Int} (h0 : 0 < n) (h1 : n.natAbs < 2 ^ 200) : ∃ (v : Int) (box' : List D), m_law_take box (.int n) = some (.int v, box') ∧ 0 ≤ v ∧ v < n ∧ IsBx box' := by
  obtain ⟨a, b, c, rfl⟩ := hb
  unfold m_law_take
  simp only [dIx_l0, Option.bind_some, bGt_ii]
  by_cases ha : 0 < a
  · rw [if_pos (decide_eq_true ha)]
    simp only [Option.bind_some, dInt_i, dMod_ii h0, dDiv_n (i := a) (j := n) (by omega) h1 (by decide), dSet_0]
    exact ⟨_, _, rfl, Int.emod_nonneg _ (by omega), Int.emod_lt_of_pos _ h0, _, _, _, rfl⟩
  · rw [if_neg (by simpa using ha)]
    have hm : ∀ x : Int, (x % 2147483647).natAbs < 2 ^ 64 := fun x => by
      have h1 := Int.emod_nonneg x (show (2147483647 : Int) ≠ 0 by decide)
      have h2 := Int.emod_lt_of_pos x (show (0 : Int) < 2147483647 by decide)
      omega
    simp only [dIx_l2, dIx_l1, Option.bind_some, dAdd_ii, dSet_2, dMul_r (i := b) (j := 48271) (by decide), dMul_r (i := c + 1) (j := 69621) (by decide), dInt_i, dMod_ii (show (0 : Int) < 2147483647 by decide), dMul_l (hm _),
      dMul_r (i := b) (j := 40692) (by decide), dMul_r (i := c + 1) (j := 16807) (by decide), dMod_ii (show (0 : Int) < 2147483629 by decide), dMod_ii h0]
    exact ⟨_, _, rfl, Int.emod_nonneg _ (by omega), Int.emod_lt_of_pos _ h0, _, _, _, rfl⟩
theorem div_ok : ∀ (b a : Nat), m_law_divisor (.int (a : Int)) (.int (b : Int)) = some (.int ((Nat.gcd a b : Nat) : Int)) := by
  have key : ∀ (b a : Nat), whl (S := D × D) (R := Empty) (fun (high_2, low_2) => ((bNe low_2 (D.int 0)).bind fun b => (if b then ((dInt high_2).bind fun z => ((dMod z low_2).bind fun rest => some (.nx (low_2, rest)))) else some (.bk (high_2, low_2))))) (.int (a : Int), .int (b : Int)) = some (.nx (.int ((Nat.gcd a b : Nat) : Int), .int 0)) := by
    intro b
    induction b using Nat.strongRecOn with
    | _ b ih =>
      intro a
      by_cases hb : b = 0
      · subst hb
        rw [whl_bk (s' := (.int (a : Int), .int 0)) (by simp), Nat.gcd_zero_right]
      · have hpos : (0 : Int) < (b : Int) := by omega
        refine whl_nx (s' := (.int (b : Int), .int ((a % b : Nat) : Int))) ?_ ?_
        · have hne : (!decide ((b : Int) = 0)) = true := by simp; omega
          simp only [bNe_ii, Option.bind_some, hne, if_true, dInt_i, dMod_ii hpos]
          rw [Int.natCast_emod]
        · rw [ih (a % b) (Nat.mod_lt _ (by omega)) b, Nat.gcd_comm a b, Nat.gcd_rec b a, Nat.gcd_comm (a % b) b]
  intro b a
  unfold m_law_divisor
  rw [key b a]; rfl
/-- t / b in lowest terms -/
structure Frac (t b T B : Int) : Prop where
  eq : T * b = B * t
  pos : 1 ≤ B
  gcd : Nat.gcd T.natAbs B.natAbs = 1
  tb : T.natAbs ≤ t.natAbs
  bb : B.natAbs ≤ b.natAbs
abbrev frD (p : Int × Int) : D := .tup [.int p.1, .int p.2]
theorem frac_of {t b d : Int} (hb : b ≠ 0) (hd : d.natAbs = Nat.gcd t.natAbs b.natAbs) (hs : (b < 0 ∧ d < 0) ∨ (0 < b ∧ 0 < d)) : Frac t b (t.fdiv d) (b.fdiv d) := by
  have hd0 : d ≠ 0 := by omega
  have d1 : d ∣ t := Int.natAbs_dvd_natAbs.mp (by rw [hd]; exact Nat.gcd_dvd_left _ _)
  have d2 : d ∣ b := Int.natAbs_dvd_natAbs.mp (by rw [hd]; exact Nat.gcd_dvd_right _ _)
  rw [Int.fdiv_eq_ediv_of_dvd d1, Int.fdiv_eq_ediv_of_dvd d2]
  obtain ⟨T, rfl⟩ := d1
  obtain ⟨B, rfl⟩ := d2
  rw [Int.mul_ediv_cancel_left _ hd0, Int.mul_ediv_cancel_left _ hd0]
  have hcop : Nat.gcd T.natAbs B.natAbs = 1 := by
    rw [Int.natAbs_mul, Int.natAbs_mul, Nat.gcd_mul_left] at hd
    have hp : 0 < d.natAbs := by omega
    exact Nat.eq_of_mul_eq_mul_left hp (by omega)
  refine ⟨?_, ?_, hcop, ?_, ?_⟩
  · rw [Int.mul_comm d B, ← Int.mul_assoc, Int.mul_comm T B, Int.mul_assoc, Int.mul_comm T d]
  · rcases hs with ⟨h1, h2⟩ | ⟨h1, h2⟩
    · have : 0 < B := by
        rcases Int.lt_trichotomy B 0 with h | h | h
        · have := Int.mul_pos_of_neg_of_neg h2 h; omega
        · subst h; simp at hb
        · exact h
      omega
    · have : 0 < B := by
        rcases Int.lt_trichotomy B 0 with h | h | h
        · have := Int.mul_neg_of_pos_of_neg h2 h; omega
        · subst h; simp at hb
        · exact h
      omega
  · rw [Int.natAbs_mul]; exact Nat.le_mul_of_pos_left _ (by omega)
  · rw [Int.natAbs_mul]; exact Nat.le_mul_of_pos_left _ (by omega)
theorem dvd_of_cop {a b c : Nat} (h : Nat.gcd a b = 1) (hd : a ∣ b * c) : a ∣ c := Nat.Coprime.dvd_of_dvd_mul_left h hd
theorem frac_uniq {T B T' B' : Int} (hB : 1 ≤ B) (hB' : 1 ≤ B') (hg : Nat.gcd T.natAbs B.natAbs = 1) (hg' : Nat.gcd T'.natAbs B'.natAbs = 1) (h : T * B' = T' * B) : T = T' ∧ B = B' := by
  have e := congrArg Int.natAbs h
  rw [Int.natAbs_mul, Int.natAbs_mul] at e
  have h1 : B.natAbs ∣ B'.natAbs := by
    refine dvd_of_cop (b := T.natAbs) (by rw [Nat.gcd_comm]; exact hg) ?_
    rw [e]; exact Nat.dvd_mul_left _ _
  have h2 : B'.natAbs ∣ B.natAbs := by
    refine dvd_of_cop (b := T'.natAbs) (by rw [Nat.gcd_comm]; exact hg') ?_
    rw [← e]; exact Nat.dvd_mul_left _ _
  have h3 := Nat.dvd_antisymm h1 h2
  have h4 : B = B' := by omega
  subst h4
  exact ⟨Int.eq_of_mul_eq_mul_right (by omega) h, rfl⟩
theorem Frac.uniq {t b t' b' T B T' B' : Int} (F : Frac t b T B) (F' : Frac t' b' T' B') (hb : b ≠ 0) (hb' : b' ≠ 0) (h : t * b' = t' * b) : T = T' ∧ B = B' := by
  refine frac_uniq F.pos F'.pos F.gcd F'.gcd ?_
  have h1 := F.eq
  have h2 := F'.eq
  refine Int.eq_of_mul_eq_mul_right (a := b * b') (Int.mul_ne_zero hb hb') ?_
  calc T * B' * (b * b') = (T * b) * (B' * b') := by simp only [Int.mul_assoc, Int.mul_left_comm]
    _ = (B * t) * (B' * b') := by rw [h1]
    _ = B * B' * (t * b') := by simp only [Int.mul_assoc, Int.mul_left_comm]
    _ = B * B' * (t' * b) := by rw [h]
    _ = (B' * t') * (B * b) := by simp only [Int.mul_assoc, Int.mul_left_comm, Int.mul_comm]
    _ = (T' * b') * (B * b) := by rw [h2]
    _ = T' * B * (b * b') := by simp only [Int.mul_assoc, Int.mul_left_comm, Int.mul_comm]
theorem low_ok {t b : Int} (hb : b ≠ 0) {n : Nat} (hn : b.natAbs < 2 ^ n) (h : n < 9000) : ∃ T B, m_law_lowest (.int t) (.int b) = some (frD (T, B)) ∧ Frac t b T B := by
  have hg : 0 < Nat.gcd t.natAbs b.natAbs := Nat.gcd_pos_of_pos_right _ (by omega)
  have hle : Nat.gcd t.natAbs b.natAbs ≤ b.natAbs := Nat.le_of_dvd (by omega) (Nat.gcd_dvd_right _ _)
  have hd : ∀ i : Int, dDiv (.int i) (.int ((Nat.gcd t.natAbs b.natAbs : Nat) : Int)) = some (.int (i.fdiv ((Nat.gcd t.natAbs b.natAbs : Nat) : Int))) := fun i => dDiv_n (by omega) (by rw [Int.natAbs_natCast]; exact Nat.lt_of_le_of_lt hle hn) h
  unfold m_law_lowest
  simp only [dAbs_i, Option.bind_some, div_ok, bLt_ii]
  by_cases h0 : b < 0
  · rw [if_pos (decide_eq_true h0)]
    simp only [dNeg_i, Option.bind_some, hd]
    refine ⟨(-t).fdiv ((Nat.gcd t.natAbs b.natAbs : Nat) : Int), (-b).fdiv ((Nat.gcd t.natAbs b.natAbs : Nat) : Int), rfl, ?_⟩
    have F := frac_of (t := t) (b := b) (d := -((Nat.gcd t.natAbs b.natAbs : Nat) : Int)) hb (by omega) (.inl ⟨h0, by omega⟩)
    have d1 : ((Nat.gcd t.natAbs b.natAbs : Nat) : Int) ∣ t := Int.natAbs_dvd_natAbs.mp (by rw [Int.natAbs_natCast]; exact Nat.gcd_dvd_left _ _)
    have d2 : ((Nat.gcd t.natAbs b.natAbs : Nat) : Int) ∣ b := Int.natAbs_dvd_natAbs.mp (by rw [Int.natAbs_natCast]; exact Nat.gcd_dvd_right _ _)
    have e : ∀ x : Int, ((Nat.gcd t.natAbs b.natAbs : Nat) : Int) ∣ x → (-x).fdiv ((Nat.gcd t.natAbs b.natAbs : Nat) : Int) = x.fdiv (-((Nat.gcd t.natAbs b.natAbs : Nat) : Int)) := fun x hx => by
      rw [Int.fdiv_eq_ediv_of_dvd (Int.dvd_neg.mpr hx), Int.fdiv_eq_ediv_of_dvd (Int.neg_dvd.mpr hx), Int.ediv_neg, Int.neg_ediv_of_dvd hx]
    rw [e t d1, e b d2]; exact F
  · rw [if_neg (by simpa using h0)]
    simp only [Option.bind_some, hd]
    exact ⟨_, _, rfl, frac_of hb (by omega) (.inr ⟨by omega, by omega⟩)⟩
theorem bd_lt {n m : Nat} {x : Int} (h : x.natAbs < 2 ^ n) (hm : n ≤ m) : x.natAbs < 2 ^ m := Nat.lt_of_lt_of_le h (Nat.pow_le_pow_right (by decide) hm)
theorem bd_mul {n m : Nat} {x y : Int} (h : x.natAbs < 2 ^ n) (h2 : y.natAbs < 2 ^ m) : (x * y).natAbs < 2 ^ (n + m) := by
  rw [Int.natAbs_mul, Nat.pow_add]
  exact Nat.mul_lt_mul_of_lt_of_lt h h2
theorem bd_add {n : Nat} {x y : Int} (h : x.natAbs < 2 ^ n) (h2 : y.natAbs < 2 ^ n) : (x + y).natAbs < 2 ^ (n + 1) := by
  have := Int.natAbs_add_le x y
  rw [Nat.pow_succ]; omega
theorem int_ok {box : List D} (hb : IsBx box) : ∃ (v : Int) (box' : List D), m_law_integer box = some (.int v, box') ∧ v.natAbs < 2 ^ 100 ∧ IsBx box' := by
  unfold m_law_integer
  obtain ⟨s, b1, e1, s0, s1, hb1⟩ := take_ok hb (n := 6) (by decide) (by decide)
  obtain ⟨v3, c3, f3, l3, u3, hc3⟩ := take_ok hb1 (n := 3) (by decide) (by decide)
  obtain ⟨v25, c25, f25, l25, u25, hc25⟩ := take_ok hb1 (n := 25) (by decide) (by decide)
  obtain ⟨vm, cm, fm, lm, um, hcm⟩ := take_ok hb1 (n := 2000001) (by decide) (by decide)
  obtain ⟨x1, d1, g1, lx1, ux1, hd1⟩ := take_ok hb1 (n := 10000000000) (by decide) (by decide)
  obtain ⟨x2, d2, g2, lx2, ux2, hd2⟩ := take_ok hd1 (n := 10000000000) (by decide) (by decide)
  obtain ⟨x3, d3, g3, lx3, ux3, hd3⟩ := take_ok hd2 (n := 10000000000) (by decide) (by decide)
  obtain ⟨x4, d4, g4, lx4, ux4, hd4⟩ := take_ok hd3 (n := 2) (by decide) (by decide)
  simp only [e1, bp_some, bLt_ii, bEq_ii, Option.bind_some, f3, f25, fm, dSub_ii, g1, dMul_r (j := 10000000000) (by decide), g2, dAdd_ii, g3, g4, dNeg_i]
  by_cases h1 : s < 2
  · rw [if_pos (decide_eq_true h1)]
    exact ⟨_, _, rfl, by omega, hc3⟩
  rw [if_neg (by simpa using h1)]
  by_cases h2 : s < 4
  · rw [if_pos (decide_eq_true h2)]
    exact ⟨_, _, rfl, by omega, hc25⟩
  rw [if_neg (by simpa using h2)]
  by_cases h3 : s = 4
  · rw [if_pos (decide_eq_true h3)]
    exact ⟨_, _, rfl, by omega, hcm⟩
  rw [if_neg (by simpa using h3)]
  by_cases h4 : x4 = 1
  · rw [if_pos (decide_eq_true h4)]
    exact ⟨_, _, rfl, by omega, hd4⟩
  · rw [if_neg (by simpa using h4)]
    exact ⟨_, _, rfl, by omega, hd4⟩
/-- a fraction in lowest terms with small entries -/
structure IsF (n : Nat) (p : Int × Int) : Prop where
  pos : 1 ≤ p.2
  gcd : Nat.gcd p.1.natAbs p.2.natAbs = 1
  t : p.1.natAbs < 2 ^ n
  b : p.2.natAbs < 2 ^ n
theorem IsF.mono {n m : Nat} {p : Int × Int} (h : IsF n p) (hm : n ≤ m) : IsF m p := ⟨h.pos, h.gcd, bd_lt h.t hm, bd_lt h.b hm⟩
theorem fraction_ok {box : List D} (hb : IsBx box) : ∃ (p : Int × Int) (box' : List D), m_law_fraction box = some (frD p, box') ∧ IsF 100 p ∧ IsBx box' := by
  unfold m_law_fraction
  obtain ⟨t, b1, e1, ht, hb1⟩ := int_ok hb
  obtain ⟨v, b2, e2, hv, hb2⟩ := int_ok hb1
  have key : ∀ b : Int, 1 ≤ b → b.natAbs < 2 ^ 100 → ∃ p : Int × Int, m_law_lowest (.int t) (.int b) = some (frD p) ∧ IsF 100 p := fun b h1 h2 => by
    obtain ⟨T, B, e, F⟩ := low_ok (t := t) (b := b) (by omega) h2 (by decide)
    exact ⟨(T, B), e, F.pos, F.gcd, Nat.lt_of_le_of_lt F.tb ht, Nat.lt_of_le_of_lt F.bb h2⟩
  simp only [e1, e2, bp_some, dAbs_i, Option.bind_some, bEq_ii]
  by_cases h : ((v.natAbs : Nat) : Int) = 0
  · rw [if_pos (decide_eq_true h)]
    obtain ⟨p, e, hp⟩ := key 1 (by decide) (by decide)
    simp only [Option.bind_some, e]
    exact ⟨p, b2, rfl, hp, hb2⟩
  · rw [if_neg (by simpa using h)]
    obtain ⟨p, e, hp⟩ := key (v.natAbs : Int) (by omega) (by omega)
    simp only [Option.bind_some, e]
    exact ⟨p, b2, rfl, hp, hb2⟩
end Qk01
set_option Elab.async false
set_option linter.all false
set_option maxRecDepth 100000
set_option maxHeartbeats 4000000
/-! M01b: boxes, bounds, the row. -/
namespace Qk01
open PySem Z
theorem bEq_pp (p q : Int × Int) : bEq (frD p) (frD q) = some (decide (p = q)) := by
  have h : bEq (frD p) (frD q) = some (p.1 == q.1 && (p.2 == q.2 && true)) := rfl
  rw [h, Bool.and_true]
  congr 1
  rw [Bool.eq_iff_iff, Bool.and_eq_true, beq_iff_eq, beq_iff_eq, decide_eq_true_eq]
  exact ⟨fun ⟨a, b⟩ => Prod.ext a b, fun e => by rw [e]; exact ⟨rfl, rfl⟩⟩
theorem bNe_pp (p q : Int × Int) : bNe (frD p) (frD q) = some (!decide (p = q)) := by unfold bNe; rw [bEq_pp]; rfl
def pyP (p : Int × Int) : PyData := .tuple [.int p.1, .int p.2]
theorem toPys_pp : ∀ rs : List (Int × Int), toPys (rs.map frD) = some (rs.map pyP)
  | [] => rfl
  | p :: rs => by
    rw [List.map_cons]
    unfold toPys
    rw [toPys_pp rs]; rfl
theorem canLay_pp : ∀ rs : List (Int × Int), PyData.canLayAll0 (rs.map pyP) = true := fun rs => canLay_map (g := pyP) (fun _ => rfl) rs
theorem depth_pp (rs : List (Int × Int)) : PyData.depthAll (rs.map pyP) ≤ 5 := depth_map (g := pyP) (n := 5) (fun p => by show max _ _ + 1 ≤ 5; simp [PyData.depthAll, PyData.depth]) rs
theorem bEq_nil (rs : List (Int × Int)) : bEq (.lst (rs.map frD)) (.lst []) = some (decide (rs = [])) := by
  show bEqP (.lst (rs.map frD)) (.lst []) = _
  unfold bEqP
  have e1 : toPy (.lst (rs.map frD)) = some (.list (rs.map pyP)) := by unfold toPy; rw [toPys_pp]; rfl
  have e2 : toPy (.lst []) = some (.list []) := rfl
  have s1 : shp (.list (rs.map pyP)) = true := by
    show (_ && decide (_ ≤ 64)) = true
    rw [Bool.and_eq_true]
    refine ⟨canLay_pp rs, decide_eq_true ?_⟩
    show PyData.depthAll (rs.map pyP) + 1 ≤ 64
    have := depth_pp rs; omega
  have s2 : shp (.list []) = true := rfl
  rw [e1, e2, Option.bind_some, Option.bind_some, s1, s2, Bool.and_self, if_pos rfl]
  congr 1
  cases rs with
  | nil => rfl
  | cons p rs => rfl
theorem cutD_map {α : Type} (f : α → D) (xs : List α) (lo hi : Option Int) : ∃ ys : List α, cutD (xs.map f) lo hi = ys.map f := by
  unfold cutD
  rw [← List.map_drop, ← List.map_take]
  exact ⟨_, rfl⟩
theorem box_ok {ns : List Int} {k : Nat} : ∃ box, m_law_box (.scr (ns.map .int)) (.int (k : Int)) = some box ∧ IsBx box := by
  unfold m_law_box
  obtain ⟨ys, hy⟩ := cutD_map D.int ns none (some 1)
  have e1 : dSlice (.scr (ns.map D.int)) none (some 1) = some (.lst (ys.map D.int)) := by rw [← hy]; rfl
  have fin : ∀ c : Int, ∃ box, ((((bLt (.int c) (D.int 0)).bind fun b_1 => (if b_1 then ((dMul (D.int 2) (.int c)).bind fun z_7 => ((dSub (D.int 5) z_7).bind fun cell_5 => some cell_5)) else some (.int c))) : Option (D)).bind fun cell_6 =>
      ((bGe cell_6 (D.int 1000000000000000000)).bind fun b_2 => (if b_2 then ((dInt cell_6).bind fun z_8 => ((dMod z_8 (D.int 2147483647)).bind fun z_9 => some [cell_6, z_9, (D.int 0)])) else ((dInt cell_6).bind fun z_10 => ((dMod z_10 (D.int 2147483647)).bind fun z_11 => some [(D.int 0), z_11, (D.int 0)]))))) = some box ∧ IsBx box := fun c => by
    have fin2 : ∀ c : Int, ∃ box, ((bGe (.int c) (D.int 1000000000000000000)).bind fun b_2 => (if b_2 then ((dInt (.int c)).bind fun z_8 => ((dMod z_8 (D.int 2147483647)).bind fun z_9 => some [.int c, z_9, (D.int 0)])) else ((dInt (.int c)).bind fun z_10 => ((dMod z_10 (D.int 2147483647)).bind fun z_11 => some [(D.int 0), z_11, (D.int 0)])))) = some box ∧ IsBx box := fun c => by
      simp only [bGe_ii, Option.bind_some, dInt_i, dMod_ii (show (0 : Int) < 2147483647 by decide)]
      split
      · exact ⟨_, rfl, _, _, _, rfl⟩
      · exact ⟨_, rfl, _, _, _, rfl⟩
    simp only [bLt_ii, Option.bind_some, dMul_l (i := 2) (j := c) (by decide), dSub_ii]
    split
    · exact fin2 _
    · exact fin2 _
  simp only [dMul_l (i := 1009) (j := (k : Int)) (by decide), Option.bind_some, dAdd_ii, dPart_i, e1, dSum_l, dInt_i, dMod_ii (show (0 : Int) < 1000003 by decide), dLen_s, bLt_ii, List.length_map]
  by_cases hk : (k : Int) < ((ns.length : Nat) : Int)
  · rw [if_pos (decide_eq_true hk)]
    have hk' : k < ns.length := by omega
    have e2 : dIx (.scr (ns.map D.int)) (.int (k : Int)) = some (.int ns[k]) := dIx_sc (by rw [List.getElem?_map, List.getElem?_eq_getElem hk']; rfl)
    rw [e2]
    exact fin _
  · rw [if_neg (by simpa using hk)]
    exact fin _
/-- a bound -/
def IsB (n : Nat) (p : Int × Int) : Prop := (p.2 = 0 ∧ (p.1 = 1 ∨ p.1 = -1)) ∨ IsF n p
theorem IsB.mono {n m : Nat} {p : Int × Int} (h : IsB n p) (hm : n ≤ m) : IsB m p := h.imp id fun h => h.mono hm
theorem bound_ok {box : List D} (hb : IsBx box) {n : Nat} (hn : 100 ≤ n) (hn2 : n ≤ 2000) {rs : List (Int × Int)} (hr : ∀ p ∈ rs, IsB n p) (hrl : rs.length ≤ 1000) :
    ∃ (p : Int × Int) (box' : List D), m_law_bound box (rs.map frD) = some (frD p, box', rs.map frD) ∧ IsB (n + 11) p ∧ IsBx box' := by
  unfold m_law_bound
  obtain ⟨w, b1, e1, l1, u1, hb1⟩ := take_ok hb (n := 9) (by decide) (by decide)
  obtain ⟨f, b2, e2, hf, hb2⟩ := fraction_ok hb1
  have hf' : IsB (n + 11) f := .inr (hf.mono (by omega))
  simp only [e1, e2, bp_some, bEq_ii, Option.bind_some, bGt_ii]
  by_cases h0 : w = 0
  · rw [if_pos (decide_eq_true h0)]
    exact ⟨(-1, 0), b2, rfl, .inl ⟨rfl, .inr rfl⟩, hb2⟩
  rw [if_neg (by simpa using h0)]
  by_cases h1 : w = 1
  · rw [if_pos (decide_eq_true h1)]
    exact ⟨(1, 0), b2, rfl, .inl ⟨rfl, .inl rfl⟩, hb2⟩
  rw [if_neg (by simpa using h1), bEq_nil]
  by_cases h4 : 4 < w
  · rw [if_pos (decide_eq_true h4)]
    exact ⟨f, b2, rfl, hf', hb2⟩
  rw [if_neg (by simpa using h4)]
  simp only [Option.bind_some]
  by_cases hnil : rs = []
  · rw [if_pos (decide_eq_true hnil)]
    exact ⟨f, b2, rfl, hf', hb2⟩
  rw [if_neg (by simpa using hnil)]
  have hpos : 0 < rs.length := List.length_pos_iff.mpr hnil
  obtain ⟨i, b3, e3, l3, u3, hb3⟩ := take_ok hb2 (n := (rs.length : Int)) (by omega) (by omega)
  obtain ⟨j, rfl⟩ : ∃ j : Nat, i = (j : Nat) := ⟨i.toNat, by omega⟩
  have hj : j < rs.length := by omega
  have e4 : dIx (.lst (rs.map frD)) (.int (j : Int)) = some (frD rs[j]) := dIx_l (by rw [List.getElem?_map, List.getElem?_eq_getElem hj]; rfl)
  have hq := hr _ (List.getElem_mem hj)
  simp only [dLen_l, List.length_map, Option.bind_some, e3, bp_some, e4]
  generalize rs[j] = q at hq
  by_cases h2 : w = 2
  · rw [if_pos (decide_eq_true h2)]
    exact ⟨q, b3, rfl, hq.mono (by omega), hb3⟩
  rw [if_neg (by simpa using h2)]
  have hneg : IsB (n + 11) (-q.1, q.2) := by
    rcases hq with ⟨h, h'⟩ | h
    · exact .inl ⟨h, by show -q.1 = 1 ∨ -q.1 = -1; omega⟩
    · exact .inr ((⟨h.pos, by show Nat.gcd (-q.1).natAbs _ = 1; rw [Int.natAbs_neg]; exact h.gcd, by show (-q.1).natAbs < _; rw [Int.natAbs_neg]; exact h.t, h.b⟩ : IsF n (-q.1, q.2)).mono (by omega))
  simp only [dIx_t1, dIx_t0, Option.bind_some, bEq_ii, dNeg_i]
  have hno : q.2 ≠ 0 → IsF n q := fun h => by
    rcases hq with ⟨h', _⟩ | h'
    · exact absurd h' h
    · exact h'
  by_cases h5 : q.2 = 0
  · rw [if_pos (decide_eq_true h5)]
    exact ⟨(-q.1, q.2), b3, rfl, hneg, hb3⟩
  rw [if_neg (by simpa using h5)]
  simp only [Option.bind_some]
  by_cases h3 : w = 3
  · rw [if_pos (decide_eq_true h3)]
    exact ⟨(-q.1, q.2), b3, rfl, hneg, hb3⟩
  rw [if_neg (by simpa using h3)]
  have hF := hno h5
  obtain ⟨v, b4, e5, l5, u5, hb4⟩ := take_ok hb3 (n := 999) (by decide) (by decide)
  obtain ⟨v2, b5, e6, l6, u6, hb5⟩ := take_ok hb4 (n := 2) (by decide) (by decide)
  have hst : (1 + v).natAbs < 2 ^ 10 := by omega
  have hpos2 := hF.pos
  have hden : q.2 * (1 + v) ≠ 0 := Int.mul_ne_zero h5 (by omega)
  have hdb : (q.2 * (1 + v)).natAbs < 2 ^ (n + 10) := bd_mul hF.b hst
  have htb : (q.1 * (1 + v) + 2 * v2 - 1).natAbs < 2 ^ (n + 11) := by
    have h6 := bd_mul hF.t hst
    have h7 : 2 ^ (n + 11) = 2 ^ (n + 10) * 2 := by rw [← Nat.pow_succ]
    have h8 : 2 ≤ 2 ^ (n + 10) := by
      have := Nat.pow_le_pow_right (n := 2) (by decide) (show 1 ≤ n + 10 by omega)
      simpa using this
    omega
  obtain ⟨T, B, e7, F⟩ := low_ok (t := q.1 * (1 + v) + 2 * v2 - 1) (b := q.2 * (1 + v)) hden hdb (by omega)
  simp only [e5, bp_some, dAdd_ii, Option.bind_some, dMul_r (i := q.1) (j := 1 + v) (by omega), e6, dMul_l (i := 2) (j := v2) (by decide), dSub_ii, dMul_r (i := q.2) (j := 1 + v) (by omega), e7]
  exact ⟨(T, B), b5, rfl, .inr ⟨F.pos, F.gcd, Nat.lt_of_le_of_lt F.tb htb, bd_lt (Nat.lt_of_le_of_lt F.bb hdb) (by omega)⟩, hb5⟩
end Qk01
set_option Elab.async false
set_option linter.all false
set_option maxRecDepth 100000
set_option maxHeartbeats 4000000
/-! M01c: the order, groups, sums, whole parts. -/
namespace Qk01
open PySem Z
theorem one_lt {n : Nat} (hn : 1 ≤ n) : 1 < 2 ^ n := Nat.lt_of_lt_of_le (by decide : 1 < 2 ^ 1) (Nat.pow_le_pow_right (by decide) hn)
theorem IsB.t {n : Nat} {p : Int × Int} (h : IsB n p) (hn : 1 ≤ n) : p.1.natAbs < 2 ^ n := by
  have := one_lt hn
  rcases h with ⟨_, h⟩ | h
  · omega
  · exact h.t
theorem IsB.b {n : Nat} {p : Int × Int} (h : IsB n p) (hn : 1 ≤ n) : p.2.natAbs < 2 ^ n := by
  have := one_lt hn
  rcases h with ⟨h, _⟩ | h
  · omega
  · exact h.b
def blw (p q : Int × Int) : Bool := if p.2 = q.2 then decide (p.1 < q.1) else decide (p.1 * q.2 < q.1 * p.2)
theorem below_ok {n : Nat} (hn : 1 ≤ n) (hn2 : n ≤ 2000) {p q : Int × Int} (hp : IsB n p) (hq : IsB n q) : m_below (frD p) (frD q) = some (.bl (blw p q)) := by
  unfold m_below blw
  simp only [un2_t, bp_some, bEq_ii, Option.bind_some]
  by_cases h : p.2 = q.2
  · rw [if_pos (decide_eq_true h), if_pos h]; simp only [bLt_ii, Option.bind_some]
  · rw [if_neg (by simpa using h), if_neg h]
    simp only [dMul_n (hp.t hn) (hq.b hn) (by omega), dMul_n (hq.t hn) (hp.b hn) (by omega), Option.bind_some, bLt_ii]
theorem level_ok (p : Int × Int) : m_law_level (frD p) = some (.int (if p.2 = 0 then p.1 else 0)) := by
  unfold m_law_level
  simp only [dIx_t1, dIx_t0, Option.bind_some, bEq_ii]
  by_cases h : p.2 = 0
  · rw [if_pos (decide_eq_true h), if_pos h]
  · rw [if_neg (by simpa using h), if_neg h]
theorem isbelow_ok {n : Nat} (hn : 1 ≤ n) (hn2 : n ≤ 2000) {p q : Int × Int} (hp : IsB n p) (hq : IsB n q) : m_law_is_below (frD p) (frD q) = some (.bl (blw p q)) := by
  have key : ((if p.2 = 0 then p.1 else 0) < (if q.2 = 0 then q.1 else (0 : Int)) ↔ blw p q = true) ∨ (p.2 ≠ 0 ∧ q.2 ≠ 0) := by
    unfold blw
    by_cases h1 : p.2 = 0 <;> by_cases h2 : q.2 = 0
    · left; simp [h1, h2]
    · left
      have hq' : IsF n q := hq.resolve_left fun h => h2 h.1
      have := hq'.pos
      have hp' : p.1 = 1 ∨ p.1 = -1 := by
        rcases hp with h | h
        · exact h.2
        · have := h.pos; omega
      rw [if_pos h1, if_neg h2, if_neg (by omega), h1, decide_eq_true_eq]
      rcases hp' with e | e <;> rw [e] <;> omega
    · left
      have hp' : IsF n p := hp.resolve_left fun h => h1 h.1
      have := hp'.pos
      have hq' : q.1 = 1 ∨ q.1 = -1 := by
        rcases hq with h | h
        · exact h.2
        · have := h.pos; omega
      rw [if_neg h1, if_pos h2, if_neg (by omega), h2, decide_eq_true_eq]
      rcases hq' with e | e <;> rw [e] <;> omega
    · exact .inr ⟨h1, h2⟩
  unfold m_law_is_below
  simp only [dIx_t1, dIx_t0, Option.bind_some, bEq_ii]
  have fin1 : ((p.2 = 0) ∨ (q.2 = 0)) → ((m_law_level (frD p)).bind fun z_2 => ((m_law_level (frD q)).bind fun z_3 => ((bLt z_2 z_3).bind fun b_3 => some (D.bl b_3)))) = some (.bl (blw p q)) := fun h => by
    simp only [level_ok, Option.bind_some, bLt_ii]
    rcases key with k | k
    · congr 2
      rw [Bool.eq_iff_iff, decide_eq_true_eq]; exact k
    · rcases h with h | h
      · exact absurd h k.1
      · exact absurd h k.2
  by_cases h1 : p.2 = 0
  · rw [if_pos (decide_eq_true h1)]
    simp only [Option.bind_some, if_true]
    exact fin1 (.inl h1)
  rw [if_neg (by simpa using h1)]
  simp only [Option.bind_some]
  by_cases h2 : q.2 = 0
  · rw [if_pos (decide_eq_true h2)]
    exact fin1 (.inr h2)
  rw [if_neg (by simpa using h2)]
  simp only [dMul_n (hp.t hn) (hq.b hn) (by omega), dMul_n (hq.t hn) (hp.b hn) (by omega), Option.bind_some, bLt_ii]
  congr 2
  unfold blw
  by_cases h : p.2 = q.2
  · rw [if_pos h, h]
    have hq' : IsF n q := hq.resolve_left fun h => h2 h.1
    have := hq'.pos
    rw [Bool.eq_iff_iff, decide_eq_true_eq, decide_eq_true_eq]
    exact ⟨fun h => Int.lt_of_mul_lt_mul_right h (by omega), fun h => Int.mul_lt_mul_of_pos_right h (by omega)⟩
  · rw [if_neg h]
theorem order_ok {n : Nat} (hn : 1 ≤ n) (hn2 : n ≤ 2000) {rs : List (Int × Int)} (hr : ∀ p ∈ rs, IsB n p) : m_law_order_right (.lst (rs.map frD)) = some (.bl true) := by
  unfold m_law_order_right
  simp only [itStr_l, Option.bind_some]
  rw [forL_unit (R := D) fun d hd => ?_]
  · rfl
  · obtain ⟨p, hp, rfl⟩ := List.mem_map.mp hd
    rw [forL_unit (R := D) fun d hd => ?_]
    · rfl
    · obtain ⟨q, hq, rfl⟩ := List.mem_map.mp hd
      simp only [below_ok hn hn2 (hr p hp) (hr q hq), isbelow_ok hn hn2 (hr p hp) (hr q hq), Option.bind_some, ii_bb, bNe_bb]
      simp
/-! groups -/
theorem foldO_map {S β : Type} {f : S → D → Option S} {r : β → S} {st : β → Int × Int → β} (I : β → Prop) : ∀ (xs : List (Int × Int)) (s : β), I s → (∀ s x, x ∈ xs → I s → f (r s) (frD x) = some (r (st s x)) ∧ I (st s x)) → foldO f (xs.map frD) (r s) = some (r (xs.foldl st s)) ∧ I (xs.foldl st s)
  | [], s, h, _ => ⟨rfl, h⟩
  | x :: xs, s, h, hs => by
    obtain ⟨e, h1⟩ := hs s x List.mem_cons_self h
    have := foldO_map I xs (st s x) h1 fun s y hy => hs s y (List.mem_cons_of_mem _ hy)
    refine ⟨?_, this.2⟩
    rw [List.map_cons, foldO_cons e]; exact this.1
def up (r d : Int × Int) : Int × Int := if blw r d then d else r
def dn (r d : Int × Int) : Int × Int := if blw d r then d else r
theorem blw_self (p : Int × Int) : blw p p = false := by unfold blw; simp
section
variable {n : Nat} {g : Int × Int} {rest : List (Int × Int)}
theorem larger_ok (hn : 1 ≤ n) (hn2 : n ≤ 2000) (hg : IsB n g) (hr : ∀ p ∈ rest, IsB n p) : m_larger (frD g) (.tup (rest.map frD)) = some (frD (rest.foldl up g)) := by
  unfold m_larger
  simp only [itStr_t, Option.bind_some]
  have := (foldO_map (f := fun result_1 d => ((m_below result_1 d).bind fun z => ((bTru z).bind fun b => (if b then some d else some result_1)))) (r := frD) (st := up) (IsB n) rest g hg fun s x hx hs => by
    simp only [below_ok hn hn2 hs (hr x hx), Option.bind_some, bTru_b]
    unfold up
    cases blw s x with
    | true => exact ⟨rfl, hr x hx⟩
    | false => exact ⟨rfl, hs⟩).1
  rw [this]; rfl
theorem greatest_ok (hn : 1 ≤ n) (hn2 : n ≤ 2000) (hg : IsB n g) (hr : ∀ p ∈ rest, IsB n p) : m_law_greatest (.lst ((g :: rest).map frD)) = some (frD (rest.foldl up g)) := by
  unfold m_law_greatest
  simp only [List.map_cons, dIx_l0, itStr_l, Option.bind_some]
  have := (foldO_map (f := fun best_2 d => ((m_law_is_below best_2 d).bind fun z => ((bTru z).bind fun b => (if b then some d else some best_2)))) (r := frD) (st := up) (IsB n) (g :: rest) g hg fun s x hx hs => by
    have hx' : IsB n x := by
      rcases List.mem_cons.mp hx with rfl | h
      · exact hg
      · exact hr x h
    simp only [isbelow_ok hn hn2 hs hx', Option.bind_some, bTru_b]
    unfold up
    cases blw s x with
    | true => exact ⟨rfl, hx'⟩
    | false => exact ⟨rfl, hs⟩).1
  rw [List.map_cons] at this
  rw [this, List.foldl_cons]
  show some (frD (List.foldl up (up g g) rest)) = _
  have e : up g g = g := by unfold up; simp
  rw [e]
theorem smaller_ok (hn : 1 ≤ n) (hn2 : n ≤ 2000) (hg : IsB n g) (hr : ∀ p ∈ rest, IsB n p) : m_smaller (frD g) (.tup (rest.map frD)) = some (frD (rest.foldl dn g)) := by
  unfold m_smaller
  simp only [itStr_t, Option.bind_some]
  have := (foldO_map (f := fun result_1 d => ((m_below d result_1).bind fun z => ((bTru z).bind fun b => (if b then some d else some result_1)))) (r := frD) (st := dn) (IsB n) rest g hg fun s x hx hs => by
    simp only [below_ok hn hn2 (hr x hx) hs, Option.bind_some, bTru_b]
    unfold dn
    cases blw x s with
    | true => exact ⟨rfl, hr x hx⟩
    | false => exact ⟨rfl, hs⟩).1
  rw [this]; rfl
theorem least_ok (hn : 1 ≤ n) (hn2 : n ≤ 2000) (hg : IsB n g) (hr : ∀ p ∈ rest, IsB n p) : m_law_least (.lst ((g :: rest).map frD)) = some (frD (rest.foldl dn g)) := by
  unfold m_law_least
  simp only [List.map_cons, dIx_l0, itStr_l, Option.bind_some]
  have := (foldO_map (f := fun best_2 d => ((m_law_is_below d best_2).bind fun z => ((bTru z).bind fun b => (if b then some d else some best_2)))) (r := frD) (st := dn) (IsB n) (g :: rest) g hg fun s x hx hs => by
    have hx' : IsB n x := by
      rcases List.mem_cons.mp hx with rfl | h
      · exact hg
      · exact hr x h
    simp only [isbelow_ok hn hn2 hx' hs, Option.bind_some, bTru_b]
    unfold dn
    cases blw x s with
    | true => exact ⟨rfl, hx'⟩
    | false => exact ⟨rfl, hs⟩).1
  rw [List.map_cons] at this
  rw [this, List.foldl_cons]
  show some (frD (List.foldl dn (dn g g) rest)) = _
  have e : dn g g = g := by unfold dn; simp
  rw [e]
end
def sizes : List Nat := [1, 2, 3, 4, 5, 6, 9]
theorem bind_self {α : Type} (m : Option α) : (m.bind fun r => some r) = m := by cases m <;> rfl
theorem group_larger : ∀ (gs : List D), gs.length ∈ sizes → ∃ g rest, gs = g :: rest ∧ m_law_larger (.lst gs) = m_larger g (.tup rest) ∧ m_law_smaller (.lst gs) = m_smaller g (.tup rest)
  | [a], _ => ⟨a, _, rfl, Eq.trans (show m_law_larger (.lst [a]) = (m_larger a (.tup [])).bind fun r => some r from rfl) (bind_self _), Eq.trans (show m_law_smaller (.lst [a]) = (m_smaller a (.tup [])).bind fun r => some r from rfl) (bind_self _)⟩
  | [a, b], _ => ⟨a, _, rfl, Eq.trans (show m_law_larger (.lst [a, b]) = (m_larger a (.tup [b])).bind fun r => some r from rfl) (bind_self _), Eq.trans (show m_law_smaller (.lst [a, b]) = (m_smaller a (.tup [b])).bind fun r => some r from rfl) (bind_self _)⟩
  | [a, b, c], _ => ⟨a, _, rfl, Eq.trans (show m_law_larger (.lst [a, b, c]) = (m_larger a (.tup [b, c])).bind fun r => some r from rfl) (bind_self _), Eq.trans (show m_law_smaller (.lst [a, b, c]) = (m_smaller a (.tup [b, c])).bind fun r => some r from rfl) (bind_self _)⟩
  | [a, b, c, d], _ => ⟨a, _, rfl, Eq.trans (show m_law_larger (.lst [a, b, c, d]) = (m_larger a (.tup [b, c, d])).bind fun r => some r from rfl) (bind_self _), Eq.trans (show m_law_smaller (.lst [a, b, c, d]) = (m_smaller a (.tup [b, c, d])).bind fun r => some r from rfl) (bind_self _)⟩
  | [a, b, c, d, e], _ => ⟨a, _, rfl, Eq.trans (show m_law_larger (.lst [a, b, c, d, e]) = (m_larger a (.tup [b, c, d, e])).bind fun r => some r from rfl) (bind_self _), Eq.trans (show m_law_smaller (.lst [a, b, c, d, e]) = (m_smaller a (.tup [b, c, d, e])).bind fun r => some r from rfl) (bind_self _)⟩
  | [a, b, c, d, e, f], _ => ⟨a, _, rfl, Eq.trans (show m_law_larger (.lst [a, b, c, d, e, f]) = (m_larger a (.tup [b, c, d, e, f])).bind fun r => some r from rfl) (bind_self _), Eq.trans (show m_law_smaller (.lst [a, b, c, d, e, f]) = (m_smaller a (.tup [b, c, d, e, f])).bind fun r => some r from rfl) (bind_self _)⟩
  | [a, b, c, d, e, f, g, h, i], _ => ⟨a, _, rfl, Eq.trans (show m_law_larger (.lst [a, b, c, d, e, f, g, h, i]) = (m_larger a (.tup [b, c, d, e, f, g, h, i])).bind fun r => some r from rfl) (bind_self _), Eq.trans (show m_law_smaller (.lst [a, b, c, d, e, f, g, h, i]) = (m_smaller a (.tup [b, c, d, e, f, g, h, i])).bind fun r => some r from rfl) (bind_self _)⟩
  | [], h => by simp [sizes] at h
  | [_, _, _, _, _, _, _], h => by simp [sizes] at h
  | [_, _, _, _, _, _, _, _], h => by simp [sizes] at h
  | _ :: _ :: _ :: _ :: _ :: _ :: _ :: _ :: _ :: _ :: r, h => by simp [sizes] at h
theorem isint_ok (i : Int) : m_law_is_integer (.int i) = some (.bl true) := rfl
theorem ispair_ok (p : Int × Int) : m_law_is_pair (frD p) = some (.bl true) := rfl
theorem same_ok (p : Int × Int) : m_law_same (frD p) (frD p) = some (.bl true) := by
  unfold m_law_same
  simp only [ispair_ok, Option.bind_some, dBl_b, if_true, dIx_t0, dIx_t1, bEq_ii]
  simp
theorem groups_ok {n : Nat} (hn : 1 ≤ n) (hn2 : n ≤ 2000) {rs : List (Int × Int)} (hr : ∀ p ∈ rs, IsB n p) (hne : rs ≠ []) (hl : rs.length ≤ 1000) {box : List D} (hb : IsBx box) : ∃ box', m_law_groups_right box (.lst (rs.map frD)) = some (.bl true, box') ∧ IsBx box' := by
  unfold m_law_groups_right
  simp only [itStr_l, Option.bind_some]
  refine ex_pr (fin_all IsBx _ hb (fun d hd s hs => ?_) (fun s hs => ⟨_, rfl, s, rfl, hs⟩))
  · skip
    obtain ⟨m, hm, rfl⟩ : ∃ m : Nat, m ∈ sizes ∧ d = .int (m : Int) := by
      simp only [List.mem_cons, List.not_mem_nil, or_false] at hd
      rcases hd with rfl | rfl | rfl | rfl | rfl | rfl | rfl
      · exact ⟨1, by decide, rfl⟩
      · exact ⟨2, by decide, rfl⟩
      · exact ⟨3, by decide, rfl⟩
      · exact ⟨4, by decide, rfl⟩
      · exact ⟨5, by decide, rfl⟩
      · exact ⟨6, by decide, rfl⟩
      · exact ⟨9, by decide, rfl⟩
    have hm9 : m ≤ 9 := by simp only [sizes, List.mem_cons, List.not_mem_nil, or_false] at hm; omega
    have hpos : 0 < rs.length := List.length_pos_iff.mpr hne
    rw [itRng1_n (Nat.lt_of_le_of_lt hm9 (by decide)), Option.bind_some]
    refine ex_nx ?_
    · refine lcS_then IsBx (fun y => ∃ p : {p : Int × Int // IsB n p}, y = frD p.1) _ (by rw [rngD_length]; exact Nat.le_trans hm9 (by decide)) hs (fun d hd s hs => ?_) (fun ys s1 l2 p2 hs1 => ?_)
      · obtain ⟨i, b3, e3, l3, u3, hb3⟩ := take_ok hs (n := (rs.length : Int)) (by omega) (by omega)
        obtain ⟨j, rfl⟩ : ∃ j : Nat, i = (j : Nat) := ⟨i.toNat, by omega⟩
        have hj : j < rs.length := by omega
        have e4 : dIx (.lst (rs.map frD)) (.int (j : Int)) = some (frD rs[j]) := dIx_l (by rw [List.getElem?_map, List.getElem?_eq_getElem hj]; rfl)
        exact ⟨frD rs[j], b3, by simp only [dLen_l, List.length_map, Option.bind_some, e3, bp_some, e4], ⟨⟨rs[j], hr _ (List.getElem_mem hj)⟩, rfl⟩, hb3⟩
      · obtain ⟨gs, rfl⟩ := all_map (g := fun p : {p : Int × Int // IsB n p} => frD p.1) p2
        rw [List.length_map, rngD_length] at l2
        obtain ⟨g, rest, eg, q1, q2⟩ := group_larger (gs.map fun p => frD p.1) (by rw [List.length_map, l2]; exact hm)
        cases gs with
        | nil => cases eg
        | cons g' rest' =>
          rw [List.map_cons] at eg
          cases eg
          have hrest : ∀ p ∈ rest'.map (·.1), IsB n p := fun p hp => by
            obtain ⟨x, _, rfl⟩ := List.mem_map.mp hp
            exact x.2
          have em : rest'.map (fun p : {p : Int × Int // IsB n p} => frD p.1) = (rest'.map (·.1)).map frD := by rw [List.map_map]; rfl
          have em2 : (g' :: rest').map (fun p : {p : Int × Int // IsB n p} => frD p.1) = (g'.1 :: rest'.map (·.1)).map frD := by rw [List.map_cons, em]; rfl
          rw [q1, q2, em, em2, larger_ok hn hn2 g'.2 hrest, greatest_ok hn hn2 g'.2 hrest, smaller_ok hn hn2 g'.2 hrest, least_ok hn hn2 g'.2 hrest]
          simp only [Option.bind_some, same_ok, bTru_b]
          exact ⟨_, rfl, s1, rfl, hs1⟩
end Qk01
set_option Elab.async false
set_option linter.all false
set_option maxRecDepth 100000
set_option maxHeartbeats 4000000
/-! M01d: sums, whole parts, texts. -/
namespace Qk01
open PySem Z TL
theorem frac_sz {t b T B : Int} (h : T * b = B * t) (hB : 1 ≤ B) (hg : Nat.gcd T.natAbs B.natAbs = 1) (hb : b ≠ 0) : Frac t b T B := by
  have e := congrArg Int.natAbs h
  rw [Int.natAbs_mul, Int.natAbs_mul] at e
  have h1 : T.natAbs ∣ t.natAbs := dvd_of_cop (b := B.natAbs) hg (by rw [← e]; exact Nat.dvd_mul_right _ _)
  have h2 : B.natAbs ∣ b.natAbs := dvd_of_cop (b := T.natAbs) (by rw [Nat.gcd_comm]; exact hg) (by rw [e]; exact Nat.dvd_mul_right _ _)
  refine ⟨h, hB, hg, ?_, Nat.le_of_dvd (by omega) h2⟩
  by_cases h0 : t = 0
  · subst h0
    rw [Int.natAbs_zero, Nat.mul_zero] at e
    rcases Nat.mul_eq_zero.mp e with h | h <;> omega
  · exact Nat.le_of_dvd (by omega) h1
theorem prog_fraction_ok {t b : Int} (hb : 1 ≤ b) {n : Nat} (hn : b.natAbs < 2 ^ n) (h : n < 9000) : ∃ T B, m_fraction (.int t) (.int b) = some (frD (T, B)) ∧ Frac t b T B := by
  have hg : 0 < Nat.gcd t.natAbs b.natAbs := Nat.gcd_pos_of_pos_right _ (by omega)
  have hle : Nat.gcd t.natAbs b.natAbs ≤ b.natAbs := Nat.le_of_dvd (by omega) (Nat.gcd_dvd_right _ _)
  have hd : ∀ i : Int, dDiv (.int i) (.int ((Nat.gcd t.natAbs b.natAbs : Nat) : Int)) = some (.int (i.fdiv ((Nat.gcd t.natAbs b.natAbs : Nat) : Int))) := fun i => dDiv_n (by omega) (by rw [Int.natAbs_natCast]; exact Nat.lt_of_le_of_lt hle hn) h
  unfold m_fraction
  have e0 : decide (b = 0) = false := decide_eq_false (by omega)
  have e1 : decide (b < 0) = false := decide_eq_false (by omega)
  simp only [bEq_ii, Option.bind_some, e0, Bool.false_eq_true, if_false, dGcd_ii, bLt_ii, e1, hd]
  exact ⟨_, _, rfl, frac_of (by omega) (by omega) (.inr ⟨by omega, by omega⟩)⟩
theorem plus_ok {n m : Nat} {r q : Int × Int} (hr : IsF m r) (hq : IsF n q) (h : m + n < 9000) : ∃ R, m_plus (frD r) (frD q) = some (frD R) ∧ Frac (r.1 * q.2 + q.1 * r.2) (r.2 * q.2) R.1 R.2 := by
  have hp1 := hr.pos
  have hp2 := hq.pos
  unfold m_plus
  simp only [un2_t, bp_some, bEq_ii, Option.bind_some]
  have hpos : 1 ≤ r.2 * q.2 := by have := Int.mul_pos (show 0 < r.2 by omega) (show 0 < q.2 by omega); omega
  by_cases h1 : r.2 = 1
  · by_cases h2 : q.2 = 1
    · rw [if_pos (decide_eq_true h1)]
      simp only [Option.bind_some]
      rw [if_pos (decide_eq_true h2)]
      simp only [dAdd_ii, Option.bind_some]
      refine ⟨(r.1 + q.1, 1), rfl, ?_⟩
      rw [h1, h2]
      exact ⟨by simp, by show (1 : Int) ≤ 1; decide, by simp, by simp, by simp⟩
    · rw [if_pos (decide_eq_true h1)]
      simp only [Option.bind_some]
      rw [if_neg (by simpa using h2)]
      obtain ⟨T, B, e, F⟩ := prog_fraction_ok (t := r.1 * q.2 + q.1 * r.2) hpos (bd_mul hr.b hq.b) h
      simp only [dMul_n hr.t hq.b (by omega), dMul_n hq.t hr.b (by omega), dMul_n hr.b hq.b (by omega), dAdd_ii, Option.bind_some, e]
      exact ⟨(T, B), rfl, F⟩
  · rw [if_neg (by simpa using h1)]
    simp only [Option.bind_some, Bool.false_eq_true, if_false]
    obtain ⟨T, B, e, F⟩ := prog_fraction_ok (t := r.1 * q.2 + q.1 * r.2) hpos (bd_mul hr.b hq.b) h
    simp only [dMul_n hr.t hq.b (by omega), dMul_n hq.t hr.b (by omega), dMul_n hr.b hq.b (by omega), dAdd_ii, Option.bind_some, e]
    exact ⟨(T, B), rfl, F⟩
theorem frac_add {top under rt rb qt qb R S : Int} (F : Frac top under rt rb) (hu : 1 ≤ under) (hq : 1 ≤ qb) (G : Frac (rt * qb + qt * rb) (rb * qb) R S) : Frac (top * qb + qt * under) (under * qb) R S := by
  have hp := F.pos
  refine frac_sz ?_ G.pos G.gcd (Int.mul_ne_zero (by omega) (by omega))
  refine Int.eq_of_mul_eq_mul_right (a := rb) (by omega) ?_
  have h1 := G.eq
  have h2 := F.eq
  calc R * (under * qb) * rb = R * (rb * qb) * under := by simp only [Int.mul_assoc, Int.mul_left_comm, Int.mul_comm]
    _ = S * (rt * qb + qt * rb) * under := by rw [h1]
    _ = S * (rt * under * qb + qt * rb * under) := by rw [Int.mul_assoc, Int.add_mul]; simp only [Int.mul_assoc, Int.mul_left_comm, Int.mul_comm]
    _ = S * (rb * top * qb + qt * rb * under) := by rw [h2]
    _ = S * (top * qb + qt * under) * rb := by grind
theorem frac_isF {t b : Int} {R : Int × Int} {n : Nat} (F : Frac t b R.1 R.2) (h1 : t.natAbs < 2 ^ n) (h2 : b.natAbs < 2 ^ n) : IsF n R := ⟨F.pos, F.gcd, Nat.lt_of_le_of_lt F.tb h1, Nat.lt_of_le_of_lt F.bb h2⟩
theorem total_sum {n : Nat} {f : D → D → Option D} {g : D × D → D → Option (D × D)} (hf : ∀ r d, f r d = m_plus r d) (hg : ∀ (t u : Int) (q : Int × Int) (j : Nat), t.natAbs < 2 ^ j → u.natAbs < 2 ^ j → IsF n q → j + n < 9000 → g (.int t, .int u) (frD q) = some (.int (t * q.2 + q.1 * u), .int (u * q.2))) : ∀ (ts : List (Int × Int)) (top under : Int) (r : Int × Int) (j : Nat), (∀ p ∈ ts, IsF n p) → Frac top under r.1 r.2 → 1 ≤ under → top.natAbs < 2 ^ j → under.natAbs < 2 ^ j → j + ts.length * (n + 1) + n < 9000 → ∃ r' top' under', foldO f (ts.map frD) (frD r) = some (frD r') ∧ foldO g (ts.map frD) (.int top, .int under) = some (.int top', .int under') ∧ Frac top' under' r'.1 r'.2 ∧ 1 ≤ under' ∧ under'.natAbs < 2 ^ 8999
  | [], top, under, r, j, _, F, hu, h1, h2, h3 => ⟨r, top, under, rfl, rfl, F, hu, bd_lt h2 (by simp only [List.length_nil] at h3; omega)⟩
  | q :: ts, top, under, r, j, hts, F, hu, h1, h2, h3 => by
    have hq := hts q List.mem_cons_self
    have hp := hq.pos
    rw [List.length_cons, Nat.succ_mul] at h3
    obtain ⟨R, e, G⟩ := plus_ok (frac_isF F h1 h2) hq (by omega)
    have F' := frac_add F hu hq.pos G
    have hpos : 1 ≤ under * q.2 := by have := Int.mul_pos (show 0 < under by omega) (show 0 < q.2 by omega); omega
    obtain ⟨r', t', u', e1, e2, e3⟩ := total_sum hf hg ts _ _ R (j + n + 1) (fun p hp => hts p (List.mem_cons_of_mem _ hp)) F' hpos (bd_add (bd_mul h1 hq.b) (by rw [Nat.add_comm j n]; exact bd_mul hq.t h2)) (bd_lt (bd_mul h2 hq.b) (by omega)) (by omega)
    refine ⟨r', t', u', ?_, ?_, e3⟩
    · rw [List.map_cons, foldO_cons (s' := frD R) (by rw [hf]; exact e)]; exact e1
    · rw [List.map_cons, foldO_cons (hg _ _ q j h1 h2 hq (by omega))]; exact e2
theorem sum_ok {n : Nat} (hn : 1 ≤ n) {ts : List (Int × Int)} (ht : ∀ p ∈ ts, IsF n p) (hl : ts.length ≤ 9) (hn2 : n ≤ 800) : ∃ R : Int × Int, m_total (.tup (ts.map frD)) = some (frD R) ∧ m_law_sum (.lst (ts.map frD)) = some (frD R) := by
  have hb : ts.length * (n + 1) ≤ 9 * (n + 1) := Nat.mul_le_mul_right _ hl
  unfold m_total m_law_sum
  simp only [itStr_t, itStr_l, Option.bind_some]
  obtain ⟨r', t', u', e1, e2, F, hu, hub⟩ := total_sum (n := n) (f := fun result_1 d => ((m_plus result_1 d).bind fun result_3 => some result_3)) (g := fun (top_1, under_1) d => ((dIx d (D.int 1)).bind fun z => ((dMul top_1 z).bind fun z_1 => ((dIx d (D.int 0)).bind fun z_2 => ((dMul z_2 under_1).bind fun z_3 => ((dAdd z_1 z_3).bind fun top_3 => ((dIx d (D.int 1)).bind fun z_4 => ((dMul under_1 z_4).bind fun under_3 => some (top_3, under_3))))))))) (fun r d => bind_self _) (fun t u q j h1 h2 hq h3 => by
      have : ((dIx (frD q) (D.int 1)).bind fun z => ((dMul (.int t) z).bind fun z_1 => ((dIx (frD q) (D.int 0)).bind fun z_2 => ((dMul z_2 (.int u)).bind fun z_3 => ((dAdd z_1 z_3).bind fun top_3 => ((dIx (frD q) (D.int 1)).bind fun z_4 => ((dMul (.int u) z_4).bind fun under_3 => some (top_3, under_3)))))))) = some (.int (t * q.2 + q.1 * u), .int (u * q.2)) := by
        simp only [dIx_t0, dIx_t1, Option.bind_some, dMul_n h1 hq.b (by omega), dMul_n hq.t h2 (by omega), dMul_n h2 hq.b (by omega), dAdd_ii]
      exact this) ts 0 1 (0, 1) 1 ht ⟨rfl, by decide, by decide, by decide, by decide⟩ (by decide) (by decide) (by decide) (by omega)
  rw [e1]
  refine ⟨r', rfl, ?_⟩
  rw [show frD (0, 1) = D.tup [.int 0, .int 1] from rfl] at e1
  erw [e2]
  obtain ⟨T, B, e3, G⟩ := low_ok (t := t') (b := u') (by omega) hub (by decide)
  obtain ⟨h1, h2⟩ := Frac.uniq G F (by omega) (by omega) rfl
  simp only [Option.bind_some, e3]
  rw [h1, h2]
end Qk01
set_option Elab.async false
set_option linter.all false
set_option maxRecDepth 100000
set_option maxHeartbeats 4000000
/-! M01e: sums of groups, whole parts, texts. -/
namespace Qk01
open PySem Z TL
theorem group_total : ∀ (ts : List (Int × Int)), ts.length ∈ 0 :: sizes → m_law_total (.lst (ts.map frD)) = m_total (.tup (ts.map frD))
  | [], _ => by unfold m_law_total; rw [bEq_nil]; rw [decide_eq_true rfl]; simp only [Option.bind_some, if_true]; exact bind_self _
  | [a], _ => by unfold m_law_total; rw [bEq_nil]; rw [decide_eq_false (by simp)]; exact bind_self _
  | [a, b], _ => by unfold m_law_total; rw [bEq_nil]; rw [decide_eq_false (by simp)]; exact bind_self _
  | [a, b, c], _ => by unfold m_law_total; rw [bEq_nil]; rw [decide_eq_false (by simp)]; exact bind_self _
  | [a, b, c, d], _ => by unfold m_law_total; rw [bEq_nil]; rw [decide_eq_false (by simp)]; exact bind_self _
  | [a, b, c, d, e], _ => by unfold m_law_total; rw [bEq_nil]; rw [decide_eq_false (by simp)]; exact bind_self _
  | [a, b, c, d, e, f], _ => by unfold m_law_total; rw [bEq_nil]; rw [decide_eq_false (by simp)]; exact bind_self _
  | [a, b, c, d, e, f, g, h, i], _ => by unfold m_law_total; rw [bEq_nil]; rw [decide_eq_false (by simp)]; exact bind_self _
  | [_, _, _, _, _, _, _], h => by simp [sizes] at h
  | [_, _, _, _, _, _, _, _], h => by simp [sizes] at h
  | _ :: _ :: _ :: _ :: _ :: _ :: _ :: _ :: _ :: _ :: r, h => by simp [sizes] at h
theorem totals_ok {n : Nat} (hn : 2 ≤ n) (hn2 : n ≤ 800) {rs : List (Int × Int)} (hr : ∀ p ∈ rs, IsB n p) (hn3 : 3 ≤ n) (hl : rs.length ≤ 1000) {box : List D} (hb : IsBx box) : ∃ box', m_law_totals_right box (.lst (rs.map frD)) = some (.bl true, box') ∧ IsBx box' := by
  unfold m_law_totals_right
  simp only [itStr_l, Option.bind_some]
  rw [lcF_map (g := frD) (p := fun p => !decide (p.2 = 0)) (Nat.le_trans hl (by decide)) fun p hp => by
    simp only [dIx_t1, Option.bind_some, bNe_ii]
    cases decide (p.2 = 0) <;> rfl]
  simp only [Option.bind_some, bEq_nil]
  obtain ⟨fs, hfs, hne, hl2, efs⟩ : ∃ fs : List (Int × Int), (∀ p ∈ fs, IsF n p) ∧ fs ≠ [] ∧ fs.length ≤ 1000 ∧ (if decide (rs.filter (fun p => !decide (p.2 = 0)) = []) = true then some (D.lst [D.tup [D.int (-3), D.int 7]]) else some (D.lst ((rs.filter (fun p => !decide (p.2 = 0))).map frD))) = some (D.lst (fs.map frD)) := by
    by_cases h : rs.filter (fun p => !decide (p.2 = 0)) = []
    · rw [if_pos (decide_eq_true h)]
      refine ⟨[(-3, 7)], fun p hp => ?_, by simp, by simp, rfl⟩
      rw [List.mem_singleton] at hp
      subst hp
      exact IsF.mono (n := 3) ⟨by show (1 : Int) ≤ 7; decide, by show Nat.gcd 3 7 = 1; decide, by show (3 : Nat) < 2 ^ 3; decide, by show (7 : Nat) < 2 ^ 3; decide⟩ hn3
    · rw [if_neg (by simpa using h)]
      refine ⟨_, fun p hp => ?_, h, Nat.le_trans (List.length_filter_le _ _) hl, rfl⟩
      obtain ⟨h1, h2⟩ := List.mem_filter.mp hp
      exact (hr p h1).resolve_left fun h => by simp [h.1] at h2
  rw [efs]
  simp only [Option.bind_some]
  refine ex_pr (fin_all IsBx _ hb (fun d hd s hs => ?_) (fun s hs => ⟨_, rfl, s, rfl, hs⟩))
  obtain ⟨m, hm, rfl⟩ : ∃ m : Nat, m ∈ 0 :: sizes ∧ d = .int (m : Int) := by
    simp only [List.mem_cons, List.not_mem_nil, or_false] at hd
    rcases hd with rfl | rfl | rfl | rfl | rfl | rfl | rfl | rfl
    · exact ⟨0, by decide, rfl⟩
    · exact ⟨1, by decide, rfl⟩
    · exact ⟨2, by decide, rfl⟩
    · exact ⟨3, by decide, rfl⟩
    · exact ⟨4, by decide, rfl⟩
    · exact ⟨5, by decide, rfl⟩
    · exact ⟨6, by decide, rfl⟩
    · exact ⟨9, by decide, rfl⟩
  have hm9 : m ≤ 9 := by simp only [sizes, List.mem_cons, List.not_mem_nil, or_false] at hm; omega
  have hpos : 0 < fs.length := List.length_pos_iff.mpr hne
  rw [itRng1_n (Nat.lt_of_le_of_lt hm9 (by decide)), Option.bind_some]
  refine ex_nx ?_
  refine lcS_then IsBx (fun y => ∃ p : {p : Int × Int // IsF n p}, y = frD p.1) _ (by rw [rngD_length]; exact Nat.le_trans hm9 (by decide)) hs (fun d hd s hs => ?_) (fun ys s1 l2 p2 hs1 => ?_)
  · obtain ⟨i, b3, e3, l3, u3, hb3⟩ := take_ok hs (n := (fs.length : Int)) (by omega) (by omega)
    obtain ⟨j, rfl⟩ : ∃ j : Nat, i = (j : Nat) := ⟨i.toNat, by omega⟩
    have hj : j < fs.length := by omega
    have e4 : dIx (.lst (fs.map frD)) (.int (j : Int)) = some (frD fs[j]) := dIx_l (by rw [List.getElem?_map, List.getElem?_eq_getElem hj]; rfl)
    exact ⟨frD fs[j], b3, by simp only [dLen_l, List.length_map, Option.bind_some, e3, bp_some, e4], ⟨⟨fs[j], hfs _ (List.getElem_mem hj)⟩, rfl⟩, hb3⟩
  · obtain ⟨gs, rfl⟩ := all_map (g := fun p : {p : Int × Int // IsF n p} => frD p.1) p2
    rw [List.length_map, rngD_length] at l2
    have em : gs.map (fun p : {p : Int × Int // IsF n p} => frD p.1) = (gs.map (·.1)).map frD := by rw [List.map_map]; rfl
    have hg : ∀ p ∈ gs.map (·.1), IsF n p := fun p hp => by
      obtain ⟨x, _, rfl⟩ := List.mem_map.mp hp
      exact x.2
    obtain ⟨R, e1, e2⟩ := sum_ok (n := n) (by omega) hg (by rw [List.length_map, l2]; exact hm9) hn2
    rw [em, group_total _ (by rw [List.length_map, l2]; exact hm), e1, e2]
    simp only [Option.bind_some, same_ok, bTru_b]
    exact ⟨_, rfl, s1, rfl, hs1⟩
theorem whole_right_ok {n : Nat} (hn : 1 ≤ n) (hn2 : n ≤ 2000) {p : Int × Int} (hp : IsB n p) : m_law_whole_right (frD p) = some (.bl true) := by
  have hb := hp.b hn
  have ht := hp.t hn
  unfold m_law_whole_right m_whole
  simp only [un2_t, bp_some, bEq_ii, Option.bind_some, dIx_t1, dIx_t0]
  by_cases h : p.2 = 0
  · rw [if_pos (decide_eq_true h)]
    simp only [Option.bind_some, same_ok]
    rw [if_pos (decide_eq_true h)]
  · rw [if_neg (by simpa using h)]
    have hF : IsF n p := hp.resolve_left fun x => h x.1
    have hpos := hF.pos
    rw [dDiv_n h hb (by omega)]
    simp only [Option.bind_some]
    rw [if_neg (by simpa using h)]
    rw [Int.fdiv_eq_ediv_of_nonneg _ (by omega)]
    have l1 : p.1 / p.2 * p.2 ≤ p.1 := Int.ediv_mul_le _ h
    have l2 : p.1 < (p.1 / p.2 + 1) * p.2 := Int.lt_ediv_add_one_mul_self _ (by omega)
    have hz : (p.1 / p.2).natAbs < 2 ^ n := by
      refine Nat.lt_of_le_of_lt ?_ ht
      by_cases h0 : 0 ≤ p.1
      · have a1 := Int.ediv_nonneg h0 (show 0 ≤ p.2 by omega)
        have a2 := Int.ediv_le_self p.2 h0
        omega
      · have a1 : p.1 / p.2 < 0 := Int.ediv_neg_of_neg_of_pos (by omega) (by omega)
        have a2 : p.1 ≤ p.1 / p.2 := Int.le_ediv_of_mul_le (by omega) (by
          have := Int.mul_le_mul_of_nonpos_left (a := p.1) (b := p.2) (c := 1) (by omega) (by omega)
          omega)
        omega
    rw [show m_law_is_pair (D.tup [D.int (p.1 / p.2), D.int 1]) = some (.bl true) from ispair_ok (p.1 / p.2, 1)]
    simp only [Option.bind_some, bTru_b, Bool.not_true, Bool.false_eq_true, if_false, dIx_t1, dIx_t0, bNe_ii, decide_true, dMul_n hz hb (show n + n < 1000000 by omega), bLe_ii, dAdd_ii, decide_eq_true l1, if_true,
      dMul_n (i := p.1 / p.2 + 1) (bd_add (y := 1) hz (by have := one_lt hn; omega)) hb (show n + 1 + n < 1000000 by omega), bLt_ii, decide_eq_true l2]
/-! texts -/
theorem digits_loop {f : D → D → Option (Fl D D D)} (hf : ∀ (a : Int) (c : Nat), 48 ≤ c ∧ c ≤ 57 → f (.int a) (.str ⟨#[c]⟩) = some (.nx (.int (a * 10 + ((c : Int) - 48))))) (n : Nat) : forL f ((numL n).map fun c => D.str ⟨#[c]⟩) (.int 0) = some (.nx (.int (n : Int))) := by
  have := forL_foldl (f := f) (g := fun c : Nat => D.str ⟨#[c]⟩) (r := D.int) (st := fun (t : Int) (c : Nat) => t * 10 + ((c : Int) - 48)) (xs := numL n) (s := 0) fun s x hx => hf s x (numL_digits n x hx)
  rw [fold_num] at this
  exact this
theorem numL_head0 {n : Nat} {r : List Nat} (h : numL n = 48 :: r) : n = 0 ∧ r = [] := by
  by_cases h0 : 0 < n
  · obtain ⟨c, r', e, h1, _⟩ := numL_head n h0
    rw [e] at h
    cases h; omega
  · have : n = 0 := by omega
    subst this
    rw [numL_lt (by decide)] at h
    cases h; exact ⟨rfl, rfl⟩
theorem number_ok {i : Int} {x : Str} (ex : tl x = tI i) (hx : x.length ≤ sizeLine) : m_law_number_read (.str x) = some (.int i) := by
  obtain ⟨y1, e1, t1⟩ := slice_to (x := x) (k := 1) hx
  obtain ⟨y2, e2, t2⟩ := slice_from (x := x) (k := 1) hx
  obtain ⟨c, r, ec, hneg, hpos⟩ := tI_head i
  have t1' : tl y1 = [c] := by rw [t1, ex, ec]; rfl
  have em : tl (Str.ofString "-") = [45] := by rw [tl_ofString]; rfl
  have ee : tl (Str.ofString "") = [] := by rw [tl_ofString]; rfl
  have e0 : tl (Str.ofString "0") = [48] := by rw [tl_ofString]; rfl
  unfold m_law_number_read
  simp only [dPart_i, Option.bind_some]
  rw [show dSlice (.str x) none (some 1) = _ from e1, show dSlice (.str x) (some 1) none = _ from e2]
  simp only [Option.bind_some, bEq_tl, bNe_tl, em, ee, e0, t1', ex]
  have core : ∀ (y : Str) (n : Nat), tl y = numL n → y.length ≤ sizeLine → (n = 0 → i = 0) → ((bEq (.str y) (D.str "")).bind fun b_1 => ((if b_1 then some true else ((dIx (.str y) (D.int 0)).bind fun z_1 => ((bEq z_1 (D.str "0")).bind fun b_2 => ((if b_2 then ((bNe (.str x) (D.str "0")).bind fun b_3 => some b_3) else some false).bind fun b_4 => some b_4)))).bind fun b_5 => (if b_5 then some D.non else ((itStr (.str y)).bind fun ds => (Fl.fin (forL (S := D) (R := D) (fun number_1 d => ((bInY d (D.str "0123456789")).bind fun b_6 => (if (!b_6) then some (.rt D.non) else ((dMul number_1 (D.int 10)).bind fun z_2 => ((isS (D.str "0123456789")).bind fun s => ((dFind (D.str "0123456789") d).bind fun z_3 => ((dAdd z_2 z_3).bind fun number_3 => some (.nx number_3)))))))) ds (D.int 0)) fun number_2 => ((bNe (.str y) (.str x)).bind fun b_7 => (if b_7 then ((dNeg number_2).bind fun r => some r) else some number_2))))))) = some (.int (if tl y = tl x then (n : Int) else -(n : Int))) := fun y n ey hy h0 => by
    obtain ⟨c', r', e'⟩ : ∃ c' r', numL n = c' :: r' := by
      cases h : numL n with
      | nil => exact absurd h (numL_ne n)
      | cons a b => exact ⟨a, b, rfl⟩
    have z0 : (decide (tl y = [])) = false := by rw [ey, e']; rfl
    have z1 : (if decide ([c'] = [48]) = true then some (!decide (tl x = [48])) else some false) = some false := by
      by_cases hc : c' = 48
      · subst hc
        obtain ⟨rfl, rfl⟩ := numL_head0 e'
        have hi := h0 rfl
        subst hi
        rw [ex, show tI 0 = [48] from numL_lt (by decide)]; rfl
      · rw [if_neg (by simpa using hc)]
    simp only [bEq_tl, bNe_tl, ee, e0, Option.bind_some, z0, Bool.false_eq_true, if_false, dIx_s0 (ey.trans e') hy, tl_mk1, bind_self]
    rw [z1]
    simp only [Option.bind_some, Bool.false_eq_true, if_false, itStr_s, signs_tl, ey]
    rw [digits_loop fun a c hc => by
      simp only [digit_in hc, Option.bind_some, Bool.not_true, Bool.false_eq_true, if_false, dMul_r (i := a) (j := 10) (by decide), show isS (D.str "0123456789") = some (Str.ofString "0123456789") from rfl, digit_find hc, dAdd_ii]]
    show ((some (!decide (numL n = tl x))).bind fun b_7 => (if b_7 then ((dNeg (.int (n : Int))).bind fun r => some r) else some (.int (n : Int)))) = _
    by_cases hxy : numL n = tl x
    · rw [if_pos hxy, decide_eq_true hxy]; rfl
    · rw [if_neg hxy, decide_eq_false hxy]; rfl
  by_cases h : i < 0
  · have hc := hneg h
    subst hc
    simp only [decide_true, if_true]
    have t2' : tl y2 = numL i.natAbs := by rw [t2, ex]; unfold tI; rw [if_pos h]; rfl
    have := core y2 i.natAbs t2' (by
      have : y2.length ≤ x.length := by rw [len_tl, len_tl, t2, List.length_drop]; omega
      omega) (fun h => by omega)
    rw [if_neg (by rw [t2', ex]; unfold tI; rw [if_pos h]; intro e; have := congrArg List.length e; simp at this)] at this
    simp only [bEq_tl, bNe_tl, ee, e0, ex, Option.bind_some] at this ⊢
    rw [this]
    congr 2; omega
  · have hc := hpos (by omega)
    have : decide ([c] = [45]) = false := decide_eq_false (by intro e; cases e; omega)
    rw [this]
    simp only [Bool.false_eq_true, if_false]
    have ex' : tl x = numL i.natAbs := by rw [ex]; unfold tI; rw [if_neg h]
    have := core x i.natAbs ex' hx (fun h => by omega)
    rw [if_pos rfl] at this
    simp only [bEq_tl, bNe_tl, ee, e0, ex, Option.bind_some] at this ⊢
    rw [this]
    congr 2; omega
end Qk01
set_option Elab.async false
set_option linter.all false
set_option maxRecDepth 100000
set_option maxHeartbeats 4000000
/-! M01f: the law. -/
namespace Qk01
open PySem Z TL
theorem tl_slash : tl (Str.ofString "/") = [47] := by rw [tl_ofString]; rfl
theorem tl_endless : tl (Str.ofString "endless") = [101, 110, 100, 108, 101, 115, 115] := by rw [tl_ofString]; rfl
theorem tl_nothing : tl (Str.ofString "nothing") = [110, 111, 116, 104, 105, 110, 103] := by rw [tl_ofString]; rfl
theorem cps_tl (x : Str) : x.cps.toList = tl x := rfl
theorem tI_ne {i : Int} {r : List Nat} {c : Nat} {t : List Nat} (h : 57 < c) : decide (tI i ++ r = c :: t) = false := by
  refine decide_eq_false fun e => ?_
  obtain ⟨d, s, ed, h1, h2⟩ := tI_head i
  rw [ed, List.cons_append] at e
  cases e
  by_cases hi : i < 0
  · have := h1 hi; omega
  · have := h2 (by omega); omega
theorem tI_pos {n : Int} (h : 0 ≤ n) : tI n = numL n.natAbs := by unfold tI; rw [if_neg (by omega)]
theorem read_ok {n : Nat} (hn : 1 ≤ n) (hn2 : n < 1900) {p : Int × Int} (hp : IsB n p) : ∃ z, m_shown (frD p) = some z ∧ m_law_bound_read z = some (frD p) := by
  have hb := hp.b hn
  have ht := hp.t hn
  have hsl : sizeLine = 16777216 := rfl
  unfold m_shown
  simp only [un2_t, bp_some, bEq_ii, Option.bind_some]
  by_cases h : p.2 = 0
  · rw [if_pos (decide_eq_true h)]
    have hp1 : p.1 = 1 ∨ p.1 = -1 := by
      rcases hp with h' | h'
      · exact h'.2
      · have := h'.pos; omega
    rcases hp1 with e | e
    · refine ⟨.str "endless", by rw [e]; rfl, ?_⟩
      unfold m_law_bound_read
      simp only [ii_str, Option.bind_some, Bool.not_true, Bool.false_eq_true, if_false, bEq_tl, decide_true, if_true]
      unfold frD; rw [h, e]
    · refine ⟨.str "nothing", by rw [e]; rfl, ?_⟩
      unfold m_law_bound_read
      simp only [ii_str, Option.bind_some, Bool.not_true, Bool.false_eq_true, if_false, bEq_tl, tl_endless, tl_nothing, decide_true, if_true]
      unfold frD; rw [h, e]; rfl
  rw [if_neg (by simpa using h)]
  have hF : IsF n p := hp.resolve_left fun x => h x.1
  have hpos := hF.pos
  have hlt := tI_len hn ht
  have hlb := tI_len hn hb
  by_cases h1 : p.2 = 1
  · rw [if_pos (decide_eq_true h1), dStr_n ht (by omega)]
    refine ⟨_, rfl, ?_⟩
    have ex := tl_int p.1
    generalize Str.ofString (toString p.1) = x at ex
    unfold m_law_bound_read
    have c1 : decide (tl x = [101, 110, 100, 108, 101, 115, 115]) = false := by rw [ex]; have := tI_ne (i := p.1) (r := []) (c := 101) (t := [110, 100, 108, 101, 115, 115]) (by decide); rwa [List.append_nil] at this
    have c2 : decide (tl x = [110, 111, 116, 104, 105, 110, 103]) = false := by rw [ex]; have := tI_ne (i := p.1) (r := []) (c := 110) (t := [111, 116, 104, 105, 110, 103]) (by decide); rwa [List.append_nil] at this
    have c3 : decide (47 ∈ tl x) = false := by rw [ex]; exact decide_eq_false (tI_free (by decide) (by decide))
    simp only [ii_str, Option.bind_some, Bool.not_true, Bool.false_eq_true, if_false, bEq_tl, tl_endless, tl_nothing, c1, c2, bIn_sign tl_slash, c3, Bool.not_false, if_true, number_ok ex (by rw [len_tl, ex]; omega)]
    unfold frD; rw [h1]
  · rw [if_neg (by simpa using h1), dFmt_n ht (by omega), dFmt_n hb (by omega)]
    have ex := tl_int p.1
    have ey := tl_int p.2
    generalize Str.ofString (toString p.1) = x at ex
    generalize Str.ofString (toString p.2) = y at ey
    have e0 : tl Str.empty = [] := rfl
    have t1 : tl (Str.empty ++ x) = tI p.1 := by rw [tl_append, e0, ex]; rfl
    have t2 : tl ((Str.empty ++ x) ++ Str.ofString "/") = tI p.1 ++ [47] := by rw [tl_append, t1, tl_slash]
    have t3 : tl (((Str.empty ++ x) ++ Str.ofString "/") ++ y) = tI p.1 ++ 47 :: tI p.2 := by rw [tl_append, t2, ey, List.append_assoc]; rfl
    simp only [Option.bind_some]
    rw [dJ_ok (by rw [e0, ex]; simp only [List.length_nil]; omega)]
    simp only [Option.bind_some]
    rw [dJ_ok (by rw [t1, tl_slash]; simp only [List.length_cons, List.length_nil]; omega)]
    simp only [Option.bind_some]
    rw [dJ_ok (by rw [t2, ey]; simp only [List.length_append, List.length_cons, List.length_nil]; omega)]
    refine ⟨_, rfl, ?_⟩
    generalize ((Str.empty ++ x) ++ Str.ofString "/") ++ y = z at t3
    have hz : z.length ≤ sizeLine := by rw [len_tl, t3, List.length_append, List.length_cons]; omega
    have c1 : decide (tl z = [101, 110, 100, 108, 101, 115, 115]) = false := by rw [t3]; exact tI_ne (by decide)
    have c2 : decide (tl z = [110, 111, 116, 104, 105, 110, 103]) = false := by rw [t3]; exact tI_ne (by decide)
    have c3 : decide (47 ∈ tl z) = true := by rw [t3]; exact decide_eq_true (by simp)
    obtain ⟨s1, d1, u1⟩ := slice_from (x := z) (k := (tI p.1).length + 1) hz
    obtain ⟨s2, d2, u2⟩ := slice_to (x := z) (k := (tI p.1).length) hz
    have u1' : tl s1 = tI p.2 := by rw [u1, t3, show tI p.1 ++ 47 :: tI p.2 = (tI p.1 ++ [47]) ++ tI p.2 by simp, List.drop_left' (by simp)]
    have u2' : tl s2 = tI p.1 := by rw [u2, t3, List.take_left]
    unfold m_law_bound_read
    simp only [ii_str, Option.bind_some, Bool.not_true, Bool.false_eq_true, if_false, bEq_tl, tl_endless, tl_nothing, c1, c2, bIn_sign tl_slash, c3, show isS (D.str z) = some z from rfl,
      dFind_at tl_slash t3 (tI_free (i := p.1) (s := 47) (by decide) (by decide)), dAdd_ii, dPart_i]
    rw [show (((tI p.1).length : Int) + 1) = (((tI p.1).length + 1 : Nat) : Int) from by omega, d1, d2]
    have b2 : decide (p.2 < 2) = false := decide_eq_false (by omega)
    simp only [Option.bind_some, number_ok u1' (by rw [len_tl, u1']; omega), number_ok u2' (by rw [len_tl, u2']; omega), isNon_i, Bool.false_eq_true, if_false, bLt_ii, b2]
theorem row_ok {ns : List Int} {mr : List D → Option D} {r : D} (m : Nat) (hm : m ≤ 60) (hmr : ∀ rs : List (Int × Int), rs.length = m → (∀ p ∈ rs, IsB (100 + 11 * m) p) → mr (rs.map frD) = some r) :
    ((foldO (S := List D) (fun row_1 d => ((dAdd d (D.int 1)).bind fun z_2 => ((m_law_box (.scr (ns.map .int)) z_2).bind fun z_3 => (bp (m_law_bound z_3 row_1) fun z_4 (t_1, row_3) => ((dApp row_3 z_4).bind fun row_4 => some row_4))))) (rngD 0 m) []).bind mr) = some r := by
  refine ex_eq (fold_ix (fun i row => ∃ rs : List (Int × Int), row = rs.map frD ∧ rs.length = i ∧ ∀ p ∈ rs, IsB (100 + 11 * i) p) _ ⟨[], rfl, rfl, fun p h => absurd h List.not_mem_nil⟩ (fun i d s hd hI => ?_) (fun s hI => ?_))
  · obtain ⟨rs, rfl, hl, hr⟩ := hI
    obtain ⟨hi, rfl⟩ := rngD_get hd
    obtain ⟨box, eb, hb⟩ := box_ok (ns := ns) (k := i + 1)
    simp only [dAdd_ii, Option.bind_some]
    rw [show ((0 : Int) + (i : Int) + 1) = ((i + 1 : Nat) : Int) from by omega, eb]
    obtain ⟨p, b2, e2, hp, hb2⟩ := bound_ok (n := 100 + 11 * i) hb (by omega) (by omega) hr (by omega)
    simp only [Option.bind_some, e2, bp_some]
    rw [dApp_ok (by rw [List.length_map, hl]; exact Nat.lt_of_lt_of_le (show i < 100000 by omega) (by decide))]
    refine ⟨_, rfl, rs ++ [p], by rw [List.map_append]; rfl, by rw [List.length_append, hl]; rfl, fun q hq => ?_⟩
    rcases List.mem_append.mp hq with h | h
    · exact (hr q h).mono (by omega)
    · rw [List.mem_singleton.mp h]; exact hp
  · obtain ⟨rs, rfl, hl, hr⟩ := hI
    rw [rngD_length] at hl hr
    exact ⟨r, hmr rs hl hr, rfl⟩
theorem law_ok (ns : List Int) (hns : ns.length ≤ 63) : m_law (.scr (ns.map .int)) = some (.bl true) := by
  unfold m_law
  rw [show m_law_same (D.tup [(D.int 1), (D.int 0)]) (D.tup [(D.int 1), (D.int 0)]) = some (.bl true) from same_ok (1, 0), show m_law_same (D.tup [(D.int (-1)), (D.int 0)]) (D.tup [(D.int (-1)), (D.int 0)]) = some (.bl true) from same_ok (-1, 0)]
  simp only [Option.bind_some, bTru_b, Bool.not_true, Bool.false_eq_true, if_false, dLen_s, List.length_map, dSub_ii, dMin2_ii, dMax2_ii]
  obtain ⟨m, hm, hm4, hm40⟩ : ∃ m : Nat, max (4 : Int) (min 40 ((ns.length : Int) - 1)) = (m : Int) ∧ 4 ≤ m ∧ m ≤ 40 := ⟨(max (4 : Int) (min 40 ((ns.length : Int) - 1))).toNat, by omega, by omega, by omega⟩
  rw [hm, itRng1_n (by omega), Option.bind_some]
  refine row_ok m (by omega) fun rs hl hr => ?_
  have h1 : 1 ≤ 100 + 11 * m := by omega
  have h2 : 100 + 11 * m ≤ 540 := by omega
  rw [order_ok h1 (by omega) hr]
  simp only [Option.bind_some, bTru_b, Bool.not_true, Bool.false_eq_true, if_false, itStr_l]
  refine fin_unit (fun d hd => ?_) ?_
  · obtain ⟨p, hp, rfl⟩ := List.mem_map.mp hd
    obtain ⟨z, e1, e2⟩ := read_ok h1 (by omega) (hr p hp)
    rw [whole_right_ok h1 (by omega) (hr p hp), e1]
    simp only [Option.bind_some, bTru_b, Bool.not_true, Bool.false_eq_true, if_false, e2, bNe_pp, decide_true]
  · obtain ⟨box, eb, hb⟩ := box_ok (ns := ns) (k := 0)
    rw [show m_law_box (D.scr (List.map D.int ns)) (D.int 0) = some box from eb]
    obtain ⟨b1, e1, hb1⟩ := groups_ok h1 (by omega) hr (by intro h; subst h; simp at hl; omega) (by omega) hb
    obtain ⟨b2, e2, hb2⟩ := totals_ok (n := 100 + 11 * m) (by omega) (by omega) hr (by omega) (by omega) hb1
    simp only [Option.bind_some, e1, bp_some, dBl_b, if_true, e2]
end Qk01
set_option Elab.async false
set_option linter.all false
set_option maxRecDepth 100000
set_option maxHeartbeats 0
/-! Printed by head.py: the end. -/
namespace Qk01
open PySem PySem.Spec PyProof.Rows L2 StX Z
/-! ### a Hook that tells built-in functions among the globals, too -/
def bfOk (bs : List (Str × String)) (K : PySem.W.Frag) : Bool := bs.all fun b => He.eqO (PySem.W.nsIn K mainGlobals b.1) (some (some (.builtin b.2)))
def csOk (cs : List (Str × D)) (K : PySem.W.Frag) : Bool := cs.all fun b => constB K b.1 b.2
def obsX (fa : List He.Fa) (fn : List He.DefD) (bs : List (Str × String)) (cs : List (Str × D)) (K : PySem.W.Frag) : He.AlD × Bool := (He.obsD fa fn K, bfOk bs K && csOk cs K)
def obsXG (n : Nat) (fa : List He.Fa) (fn : List He.DefD) (bs : List (Str × String)) (cs : List (Str × D)) (g : Addr → Option Obj) : He.AlD × Bool := obsX fa fn bs cs (He.frG g (He.asD g n))
def hookX (n : Nat) (fa : List He.Fa) (fn : List He.DefD) (bs : List (Str × String)) (cs : List (Str × D)) : PySem.W.Hook where
  α := He.AlD × Bool
  obs := fun s => obsXG n fa fn bs cs s.heap.get?
  val := fun _ => (He.valD fn, true)
  says := fun _ h => ∃ K : PySem.W.Frag, K.In h ∧ He.SaysD fa fn K ∧ (bfOk bs K && csOk cs K) = true
  of := fun _ _ e => ⟨_, He.frG_in, congrArg (fun z : He.AlD × Bool => z.1) e, congrArg (fun z : He.AlD × Bool => z.2) e⟩
  keeps := fun _ _ _ ⟨K, hK, c⟩ k => ⟨K, PySem.W.Frag.In.keeps hK k, c⟩
theorem obsXG_eq {n : Nat} {fa : List He.Fa} {fn : List He.DefD} {bs : List (Str × String)} {cs : List (Str × D)} {g : Addr → Option Obj} {s : Shared} (h : ∀ a, g a = s.heap.get? a) : obsXG n fa fn bs cs g = (hookX n fa fn bs cs).obs s := by
  have e : g = s.heap.get? := funext h
  rw [e] <;> rfl
theorem cs_ok {K : PySem.W.Frag} {h : Heap} {mg : Str → Option Value} (X : K.In h) (G : h.Ns mainGlobals mg) {cs : List (Str × D)} (c : csOk cs K = true) (i : Nat) {b : Str × D} (hb : cs[i]? = some b) : ∃ v, Cst K mg b.1 v b.2 := const_ok X G (List.all_eq_true.mp c b (List.mem_of_getElem? hb))
theorem bf_ok {K : PySem.W.Frag} {h : Heap} {mg : Str → Option Value} (X : K.In h) (G : h.Ns mainGlobals mg) {bs : List (Str × String)} (c : bfOk bs K = true) (i : Nat) {b : Str × String} (hb : bs[i]? = some b) : mg b.1 = some (.builtin b.2) :=
  PySem.W.mg_of X G (He.eqO_ok (List.all_eq_true.mp c b (List.mem_of_getElem? hb)))
abbrev FnP (K : PySem.W.Frag) (x : Str) (st : Stmt) (f : Addr) (fd : FuncData) : Prop := FunD K x x (defArgs st) (defBody st) (defScope st) [] [] f fd
section
variable {P : Program} {w : World} {K : PySem.W.Frag} {mg : Str → Option Value} {base : Heap}
theorem ok_fraction {Ac : Cs} (T : Txt Ac K mg) {f : Addr} {fd : FuncData} (F : FunD K "fraction" "fraction" (defArgs s_fraction) (defBody s_fraction) (defScope s_fraction) [.int 1] [] f fd) (hm : mg "fraction" = some (.ref f)) : FnZ P w K mg base "fraction" 1 S_fraction :=
  fnz_dfl F (fn_z F sc_fraction S_fraction (fun ds M kk h => by unfold S_fraction at h; first | (obtain ⟨_, rfl, _⟩ := h; rfl) | (obtain ⟨_, _, rfl, _⟩ := h; rfl) | (obtain ⟨_, _, _, rfl, _⟩ := h; rfl) | (obtain ⟨_, _, _, _, rfl, _⟩ := h; rfl) | (obtain ⟨_, _, _, _, _, rfl, _⟩ := h; rfl) | (obtain ⟨_, _, _, _, _, _, rfl, _⟩ := h; rfl) | (obtain ⟨_, _, _, _, _, _, _, rfl, _⟩ := h; rfl) | (obtain ⟨_, _, _, _, _, _, _, _, rfl, _⟩ := h; rfl) | (obtain ⟨_, _, _, _, _, _, _, _, _, rfl, _⟩ := h; rfl) | (obtain ⟨_, _, _, _, _, _, _, _, _, _, rfl, _⟩ := h; rfl) | (obtain ⟨_, _, _, _, _, _, _, _, _, _, _, rfl, _⟩ := h; rfl) | (obtain ⟨_, _, _, _, _, _, _, _, _, _, _, _, rfl, _⟩ := h; rfl) | (obtain ⟨_, _, _, _, _, _, _, _, _, _, _, _, _, rfl, _⟩ := h; rfl)) (t_fraction K Ac) (fun cdv A outer s H E hr => red_fraction T f cdv A outer s H E hr) (fun ds M kk h => z_fraction T h)) hm
    (F.binds1 2 1 (by decide) rfl fun T kV doc pm an cdv ct us its hu hi => ⟨_, rfl, match us, its, hu, hi with | [_, _], [_], _, _ => rfl⟩)
theorem ok_below {Ac : Cs} (T : Txt Ac K mg) {f : Addr} {fd : FuncData} (F : FnP K "below" s_below f fd) (hm : mg "below" = some (.ref f)) : FnZ P w K mg base "below" 1 S_below :=
  fnz_of F (fn_z F sc_below S_below (fun ds M kk h => by unfold S_below at h; first | (obtain ⟨_, rfl, _⟩ := h; rfl) | (obtain ⟨_, _, rfl, _⟩ := h; rfl) | (obtain ⟨_, _, _, rfl, _⟩ := h; rfl) | (obtain ⟨_, _, _, _, rfl, _⟩ := h; rfl) | (obtain ⟨_, _, _, _, _, rfl, _⟩ := h; rfl) | (obtain ⟨_, _, _, _, _, _, rfl, _⟩ := h; rfl) | (obtain ⟨_, _, _, _, _, _, _, rfl, _⟩ := h; rfl) | (obtain ⟨_, _, _, _, _, _, _, _, rfl, _⟩ := h; rfl) | (obtain ⟨_, _, _, _, _, _, _, _, _, rfl, _⟩ := h; rfl) | (obtain ⟨_, _, _, _, _, _, _, _, _, _, rfl, _⟩ := h; rfl) | (obtain ⟨_, _, _, _, _, _, _, _, _, _, _, rfl, _⟩ := h; rfl) | (obtain ⟨_, _, _, _, _, _, _, _, _, _, _, _, rfl, _⟩ := h; rfl) | (obtain ⟨_, _, _, _, _, _, _, _, _, _, _, _, _, rfl, _⟩ := h; rfl)) (t_below K Ac) (fun cdv A outer s H E hr => red_below T f cdv A outer s H E hr) (fun ds M kk h => z_below T h)) hm
    (F.bindsN fun _ _ _ _ _ _ us hl => match us, hl with | [_, _], _ => rfl)
theorem ok_whole {Ac : Cs} (T : Txt Ac K mg) {f : Addr} {fd : FuncData} (F : FnP K "whole" s_whole f fd) (hm : mg "whole" = some (.ref f)) : FnZ P w K mg base "whole" 1 S_whole :=
  fnz_of F (fn_z F sc_whole S_whole (fun ds M kk h => by unfold S_whole at h; first | (obtain ⟨_, rfl, _⟩ := h; rfl) | (obtain ⟨_, _, rfl, _⟩ := h; rfl) | (obtain ⟨_, _, _, rfl, _⟩ := h; rfl) | (obtain ⟨_, _, _, _, rfl, _⟩ := h; rfl) | (obtain ⟨_, _, _, _, _, rfl, _⟩ := h; rfl) | (obtain ⟨_, _, _, _, _, _, rfl, _⟩ := h; rfl) | (obtain ⟨_, _, _, _, _, _, _, rfl, _⟩ := h; rfl) | (obtain ⟨_, _, _, _, _, _, _, _, rfl, _⟩ := h; rfl) | (obtain ⟨_, _, _, _, _, _, _, _, _, rfl, _⟩ := h; rfl) | (obtain ⟨_, _, _, _, _, _, _, _, _, _, rfl, _⟩ := h; rfl) | (obtain ⟨_, _, _, _, _, _, _, _, _, _, _, rfl, _⟩ := h; rfl) | (obtain ⟨_, _, _, _, _, _, _, _, _, _, _, _, rfl, _⟩ := h; rfl) | (obtain ⟨_, _, _, _, _, _, _, _, _, _, _, _, _, rfl, _⟩ := h; rfl)) (t_whole K Ac) (fun cdv A outer s H E hr => red_whole T f cdv A outer s H E hr) (fun ds M kk h => z_whole T h)) hm
    (F.bindsN fun _ _ _ _ _ _ us hl => match us, hl with | [_], _ => rfl)
theorem ok_shown {Ac : Cs} (T : Txt Ac K mg) {f : Addr} {fd : FuncData} (F : FnP K "shown" s_shown f fd) (hm : mg "shown" = some (.ref f)) : FnZ P w K mg base "shown" 1 S_shown :=
  fnz_of F (fn_z F sc_shown S_shown (fun ds M kk h => by unfold S_shown at h; first | (obtain ⟨_, rfl, _⟩ := h; rfl) | (obtain ⟨_, _, rfl, _⟩ := h; rfl) | (obtain ⟨_, _, _, rfl, _⟩ := h; rfl) | (obtain ⟨_, _, _, _, rfl, _⟩ := h; rfl) | (obtain ⟨_, _, _, _, _, rfl, _⟩ := h; rfl) | (obtain ⟨_, _, _, _, _, _, rfl, _⟩ := h; rfl) | (obtain ⟨_, _, _, _, _, _, _, rfl, _⟩ := h; rfl) | (obtain ⟨_, _, _, _, _, _, _, _, rfl, _⟩ := h; rfl) | (obtain ⟨_, _, _, _, _, _, _, _, _, rfl, _⟩ := h; rfl) | (obtain ⟨_, _, _, _, _, _, _, _, _, _, rfl, _⟩ := h; rfl) | (obtain ⟨_, _, _, _, _, _, _, _, _, _, _, rfl, _⟩ := h; rfl) | (obtain ⟨_, _, _, _, _, _, _, _, _, _, _, _, rfl, _⟩ := h; rfl) | (obtain ⟨_, _, _, _, _, _, _, _, _, _, _, _, _, rfl, _⟩ := h; rfl)) (t_shown K Ac) (fun cdv A outer s H E hr => red_shown T f cdv A outer s H E hr) (fun ds M kk h => z_shown T h)) hm
    (F.bindsN fun _ _ _ _ _ _ us hl => match us, hl with | [_], _ => rfl)
theorem ok_law_is_integer {Ac : Cs} (T : Txt Ac K mg) {f : Addr} {fd : FuncData} (F : FnP K "_law_is_integer" s_law_is_integer f fd) (hm : mg "_law_is_integer" = some (.ref f)) : FnZ P w K mg base "_law_is_integer" 1 S_law_is_integer :=
  fnz_of F (fn_z F sc_law_is_integer S_law_is_integer (fun ds M kk h => by unfold S_law_is_integer at h; first | (obtain ⟨_, rfl, _⟩ := h; rfl) | (obtain ⟨_, _, rfl, _⟩ := h; rfl) | (obtain ⟨_, _, _, rfl, _⟩ := h; rfl) | (obtain ⟨_, _, _, _, rfl, _⟩ := h; rfl) | (obtain ⟨_, _, _, _, _, rfl, _⟩ := h; rfl) | (obtain ⟨_, _, _, _, _, _, rfl, _⟩ := h; rfl) | (obtain ⟨_, _, _, _, _, _, _, rfl, _⟩ := h; rfl) | (obtain ⟨_, _, _, _, _, _, _, _, rfl, _⟩ := h; rfl) | (obtain ⟨_, _, _, _, _, _, _, _, _, rfl, _⟩ := h; rfl) | (obtain ⟨_, _, _, _, _, _, _, _, _, _, rfl, _⟩ := h; rfl) | (obtain ⟨_, _, _, _, _, _, _, _, _, _, _, rfl, _⟩ := h; rfl) | (obtain ⟨_, _, _, _, _, _, _, _, _, _, _, _, rfl, _⟩ := h; rfl) | (obtain ⟨_, _, _, _, _, _, _, _, _, _, _, _, _, rfl, _⟩ := h; rfl)) (t_law_is_integer K Ac) (fun cdv A outer s H E hr => red_law_is_integer T f cdv A outer s H E hr) (fun ds M kk h => z_law_is_integer T h)) hm
    (F.bindsN fun _ _ _ _ _ _ us hl => match us, hl with | [_], _ => rfl)
theorem ok_law_box {Ac : Cs} (T : Txt Ac K mg) {f : Addr} {fd : FuncData} (F : FnP K "_law_box" s_law_box f fd) (hm : mg "_law_box" = some (.ref f)) : FnZ P w K mg base "_law_box" 1 S_law_box :=
  fnz_of F (fn_z F sc_law_box S_law_box (fun ds M kk h => by unfold S_law_box at h; first | (obtain ⟨_, rfl, _⟩ := h; rfl) | (obtain ⟨_, _, rfl, _⟩ := h; rfl) | (obtain ⟨_, _, _, rfl, _⟩ := h; rfl) | (obtain ⟨_, _, _, _, rfl, _⟩ := h; rfl) | (obtain ⟨_, _, _, _, _, rfl, _⟩ := h; rfl) | (obtain ⟨_, _, _, _, _, _, rfl, _⟩ := h; rfl) | (obtain ⟨_, _, _, _, _, _, _, rfl, _⟩ := h; rfl) | (obtain ⟨_, _, _, _, _, _, _, _, rfl, _⟩ := h; rfl) | (obtain ⟨_, _, _, _, _, _, _, _, _, rfl, _⟩ := h; rfl) | (obtain ⟨_, _, _, _, _, _, _, _, _, _, rfl, _⟩ := h; rfl) | (obtain ⟨_, _, _, _, _, _, _, _, _, _, _, rfl, _⟩ := h; rfl) | (obtain ⟨_, _, _, _, _, _, _, _, _, _, _, _, rfl, _⟩ := h; rfl) | (obtain ⟨_, _, _, _, _, _, _, _, _, _, _, _, _, rfl, _⟩ := h; rfl)) (t_law_box K Ac) (fun cdv A outer s H E hr => red_law_box T f cdv A outer s H E hr) (fun ds M kk h => z_law_box T h)) hm
    (F.bindsN fun _ _ _ _ _ _ us hl => match us, hl with | [_, _], _ => rfl)
theorem ok_law_take {Ac : Cs} (T : Txt Ac K mg) {f : Addr} {fd : FuncData} (F : FnP K "_law_take" s_law_take f fd) (hm : mg "_law_take" = some (.ref f)) : FnZ P w K mg base "_law_take" 1 S_law_take :=
  fnz_of F (fn_z F sc_law_take S_law_take (fun ds M kk h => by unfold S_law_take at h; first | (obtain ⟨_, rfl, _⟩ := h; rfl) | (obtain ⟨_, _, rfl, _⟩ := h; rfl) | (obtain ⟨_, _, _, rfl, _⟩ := h; rfl) | (obtain ⟨_, _, _, _, rfl, _⟩ := h; rfl) | (obtain ⟨_, _, _, _, _, rfl, _⟩ := h; rfl) | (obtain ⟨_, _, _, _, _, _, rfl, _⟩ := h; rfl) | (obtain ⟨_, _, _, _, _, _, _, rfl, _⟩ := h; rfl) | (obtain ⟨_, _, _, _, _, _, _, _, rfl, _⟩ := h; rfl) | (obtain ⟨_, _, _, _, _, _, _, _, _, rfl, _⟩ := h; rfl) | (obtain ⟨_, _, _, _, _, _, _, _, _, _, rfl, _⟩ := h; rfl) | (obtain ⟨_, _, _, _, _, _, _, _, _, _, _, rfl, _⟩ := h; rfl) | (obtain ⟨_, _, _, _, _, _, _, _, _, _, _, _, rfl, _⟩ := h; rfl) | (obtain ⟨_, _, _, _, _, _, _, _, _, _, _, _, _, rfl, _⟩ := h; rfl)) (t_law_take K Ac) (fun cdv A outer s H E hr => red_law_take T f cdv A outer s H E hr) (fun ds M kk h => z_law_take T h)) hm
    (F.bindsN fun _ _ _ _ _ _ us hl => match us, hl with | [_, _], _ => rfl)
theorem ok_law_divisor {Ac : Cs} (T : Txt Ac K mg) {f : Addr} {fd : FuncData} (F : FnP K "_law_divisor" s_law_divisor f fd) (hm : mg "_law_divisor" = some (.ref f)) : FnZ P w K mg base "_law_divisor" 1 S_law_divisor :=
  fnz_of F (fn_z F sc_law_divisor S_law_divisor (fun ds M kk h => by unfold S_law_divisor at h; first | (obtain ⟨_, rfl, _⟩ := h; rfl) | (obtain ⟨_, _, rfl, _⟩ := h; rfl) | (obtain ⟨_, _, _, rfl, _⟩ := h; rfl) | (obtain ⟨_, _, _, _, rfl, _⟩ := h; rfl) | (obtain ⟨_, _, _, _, _, rfl, _⟩ := h; rfl) | (obtain ⟨_, _, _, _, _, _, rfl, _⟩ := h; rfl) | (obtain ⟨_, _, _, _, _, _, _, rfl, _⟩ := h; rfl) | (obtain ⟨_, _, _, _, _, _, _, _, rfl, _⟩ := h; rfl) | (obtain ⟨_, _, _, _, _, _, _, _, _, rfl, _⟩ := h; rfl) | (obtain ⟨_, _, _, _, _, _, _, _, _, _, rfl, _⟩ := h; rfl) | (obtain ⟨_, _, _, _, _, _, _, _, _, _, _, rfl, _⟩ := h; rfl) | (obtain ⟨_, _, _, _, _, _, _, _, _, _, _, _, rfl, _⟩ := h; rfl) | (obtain ⟨_, _, _, _, _, _, _, _, _, _, _, _, _, rfl, _⟩ := h; rfl)) (t_law_divisor K Ac) (fun cdv A outer s H E hr => red_law_divisor T f cdv A outer s H E hr) (fun ds M kk h => z_law_divisor T h)) hm
    (F.bindsN fun _ _ _ _ _ _ us hl => match us, hl with | [_, _], _ => rfl)
theorem ok_law_level {Ac : Cs} (T : Txt Ac K mg) {f : Addr} {fd : FuncData} (F : FnP K "_law_level" s_law_level f fd) (hm : mg "_law_level" = some (.ref f)) : FnZ P w K mg base "_law_level" 1 S_law_level :=
  fnz_of F (fn_z F sc_law_level S_law_level (fun ds M kk h => by unfold S_law_level at h; first | (obtain ⟨_, rfl, _⟩ := h; rfl) | (obtain ⟨_, _, rfl, _⟩ := h; rfl) | (obtain ⟨_, _, _, rfl, _⟩ := h; rfl) | (obtain ⟨_, _, _, _, rfl, _⟩ := h; rfl) | (obtain ⟨_, _, _, _, _, rfl, _⟩ := h; rfl) | (obtain ⟨_, _, _, _, _, _, rfl, _⟩ := h; rfl) | (obtain ⟨_, _, _, _, _, _, _, rfl, _⟩ := h; rfl) | (obtain ⟨_, _, _, _, _, _, _, _, rfl, _⟩ := h; rfl) | (obtain ⟨_, _, _, _, _, _, _, _, _, rfl, _⟩ := h; rfl) | (obtain ⟨_, _, _, _, _, _, _, _, _, _, rfl, _⟩ := h; rfl) | (obtain ⟨_, _, _, _, _, _, _, _, _, _, _, rfl, _⟩ := h; rfl) | (obtain ⟨_, _, _, _, _, _, _, _, _, _, _, _, rfl, _⟩ := h; rfl) | (obtain ⟨_, _, _, _, _, _, _, _, _, _, _, _, _, rfl, _⟩ := h; rfl)) (t_law_level K Ac) (fun cdv A outer s H E hr => red_law_level T f cdv A outer s H E hr) (fun ds M kk h => z_law_level T h)) hm
    (F.bindsN fun _ _ _ _ _ _ us hl => match us, hl with | [_], _ => rfl)
theorem ok_law_number_read {Ac : Cs} (T : Txt Ac K mg) {f : Addr} {fd : FuncData} (F : FnP K "_law_number_read" s_law_number_read f fd) (hm : mg "_law_number_read" = some (.ref f)) : FnZ P w K mg base "_law_number_read" 1 S_law_number_read :=
  fnz_of F (fn_z F sc_law_number_read S_law_number_read (fun ds M kk h => by unfold S_law_number_read at h; first | (obtain ⟨_, rfl, _⟩ := h; rfl) | (obtain ⟨_, _, rfl, _⟩ := h; rfl) | (obtain ⟨_, _, _, rfl, _⟩ := h; rfl) | (obtain ⟨_, _, _, _, rfl, _⟩ := h; rfl) | (obtain ⟨_, _, _, _, _, rfl, _⟩ := h; rfl) | (obtain ⟨_, _, _, _, _, _, rfl, _⟩ := h; rfl) | (obtain ⟨_, _, _, _, _, _, _, rfl, _⟩ := h; rfl) | (obtain ⟨_, _, _, _, _, _, _, _, rfl, _⟩ := h; rfl) | (obtain ⟨_, _, _, _, _, _, _, _, _, rfl, _⟩ := h; rfl) | (obtain ⟨_, _, _, _, _, _, _, _, _, _, rfl, _⟩ := h; rfl) | (obtain ⟨_, _, _, _, _, _, _, _, _, _, _, rfl, _⟩ := h; rfl) | (obtain ⟨_, _, _, _, _, _, _, _, _, _, _, _, rfl, _⟩ := h; rfl) | (obtain ⟨_, _, _, _, _, _, _, _, _, _, _, _, _, rfl, _⟩ := h; rfl)) (t_law_number_read K Ac) (fun cdv A outer s H E hr => red_law_number_read T f cdv A outer s H E hr) (fun ds M kk h => z_law_number_read T h)) hm
    (F.bindsN fun _ _ _ _ _ _ us hl => match us, hl with | [_], _ => rfl)
theorem ok_plus {Ac : Cs} (T : Txt Ac K mg) (G_fraction : FnZ P w K mg base "fraction" 1 S_fraction) {f : Addr} {fd : FuncData} (F : FnP K "plus" s_plus f fd) (hm : mg "plus" = some (.ref f)) : FnZ P w K mg base "plus" 2 S_plus :=
  fnz_of F (fn_z F sc_plus S_plus (fun ds M kk h => by unfold S_plus at h; first | (obtain ⟨_, rfl, _⟩ := h; rfl) | (obtain ⟨_, _, rfl, _⟩ := h; rfl) | (obtain ⟨_, _, _, rfl, _⟩ := h; rfl) | (obtain ⟨_, _, _, _, rfl, _⟩ := h; rfl) | (obtain ⟨_, _, _, _, _, rfl, _⟩ := h; rfl) | (obtain ⟨_, _, _, _, _, _, rfl, _⟩ := h; rfl) | (obtain ⟨_, _, _, _, _, _, _, rfl, _⟩ := h; rfl) | (obtain ⟨_, _, _, _, _, _, _, _, rfl, _⟩ := h; rfl) | (obtain ⟨_, _, _, _, _, _, _, _, _, rfl, _⟩ := h; rfl) | (obtain ⟨_, _, _, _, _, _, _, _, _, _, rfl, _⟩ := h; rfl) | (obtain ⟨_, _, _, _, _, _, _, _, _, _, _, rfl, _⟩ := h; rfl) | (obtain ⟨_, _, _, _, _, _, _, _, _, _, _, _, rfl, _⟩ := h; rfl) | (obtain ⟨_, _, _, _, _, _, _, _, _, _, _, _, _, rfl, _⟩ := h; rfl)) (t_plus K Ac S_fraction) (fun cdv A outer s H E hr => red_plus T S_fraction G_fraction f cdv A outer s H E hr) (fun ds M kk h => z_plus T h)) hm
    (F.bindsN fun _ _ _ _ _ _ us hl => match us, hl with | [_, _], _ => rfl)
theorem ok_larger {Ac : Cs} (T : Txt Ac K mg) (G_below : FnZ P w K mg base "below" 1 S_below) {f : Addr} {fd : FuncData} (F : FnP K "larger" s_larger f fd) (hm : mg "larger" = some (.ref f)) : FnZR P w K mg base "larger" 2 (SStar 1 S_larger) :=
  fnzr_of F (fn_zstar0 (ps := ["first"]) (pv := "others") F sc_larger S_larger (t_larger K Ac S_below) (fun kV doc pm an cdv ct us rest hl => match us, rest, hl with | [_], [], _ => by kernel_rfl | [_], _ :: _, _ => by kernel_rfl) (fun cdv A outer s H E hr => red_larger T S_below G_below f cdv A outer s H E hr) (fun ds M kk h => z_larger T h)) hm
theorem ok_smaller {Ac : Cs} (T : Txt Ac K mg) (G_below : FnZ P w K mg base "below" 1 S_below) {f : Addr} {fd : FuncData} (F : FnP K "smaller" s_smaller f fd) (hm : mg "smaller" = some (.ref f)) : FnZR P w K mg base "smaller" 2 (SStar 1 S_smaller) :=
  fnzr_of F (fn_zstar0 (ps := ["first"]) (pv := "others") F sc_smaller S_smaller (t_smaller K Ac S_below) (fun kV doc pm an cdv ct us rest hl => match us, rest, hl with | [_], [], _ => by kernel_rfl | [_], _ :: _, _ => by kernel_rfl) (fun cdv A outer s H E hr => red_smaller T S_below G_below f cdv A outer s H E hr) (fun ds M kk h => z_smaller T h)) hm
theorem ok_law_lowest {Ac : Cs} (T : Txt Ac K mg) (G_law_divisor : FnZ P w K mg base "_law_divisor" 1 S_law_divisor) {f : Addr} {fd : FuncData} (F : FnP K "_law_lowest" s_law_lowest f fd) (hm : mg "_law_lowest" = some (.ref f)) : FnZ P w K mg base "_law_lowest" 2 S_law_lowest :=
  fnz_of F (fn_z F sc_law_lowest S_law_lowest (fun ds M kk h => by unfold S_law_lowest at h; first | (obtain ⟨_, rfl, _⟩ := h; rfl) | (obtain ⟨_, _, rfl, _⟩ := h; rfl) | (obtain ⟨_, _, _, rfl, _⟩ := h; rfl) | (obtain ⟨_, _, _, _, rfl, _⟩ := h; rfl) | (obtain ⟨_, _, _, _, _, rfl, _⟩ := h; rfl) | (obtain ⟨_, _, _, _, _, _, rfl, _⟩ := h; rfl) | (obtain ⟨_, _, _, _, _, _, _, rfl, _⟩ := h; rfl) | (obtain ⟨_, _, _, _, _, _, _, _, rfl, _⟩ := h; rfl) | (obtain ⟨_, _, _, _, _, _, _, _, _, rfl, _⟩ := h; rfl) | (obtain ⟨_, _, _, _, _, _, _, _, _, _, rfl, _⟩ := h; rfl) | (obtain ⟨_, _, _, _, _, _, _, _, _, _, _, rfl, _⟩ := h; rfl) | (obtain ⟨_, _, _, _, _, _, _, _, _, _, _, _, rfl, _⟩ := h; rfl) | (obtain ⟨_, _, _, _, _, _, _, _, _, _, _, _, _, rfl, _⟩ := h; rfl)) (t_law_lowest K Ac S_law_divisor) (fun cdv A outer s H E hr => red_law_lowest T S_law_divisor G_law_divisor f cdv A outer s H E hr) (fun ds M kk h => z_law_lowest T h)) hm
    (F.bindsN fun _ _ _ _ _ _ us hl => match us, hl with | [_, _], _ => rfl)
theorem ok_law_integer {Ac : Cs} (T : Txt Ac K mg) (G_law_take : FnZ P w K mg base "_law_take" 1 S_law_take) {f : Addr} {fd : FuncData} (F : FnP K "_law_integer" s_law_integer f fd) (hm : mg "_law_integer" = some (.ref f)) : FnZ P w K mg base "_law_integer" 2 S_law_integer :=
  fnz_of F (fn_z F sc_law_integer S_law_integer (fun ds M kk h => by unfold S_law_integer at h; first | (obtain ⟨_, rfl, _⟩ := h; rfl) | (obtain ⟨_, _, rfl, _⟩ := h; rfl) | (obtain ⟨_, _, _, rfl, _⟩ := h; rfl) | (obtain ⟨_, _, _, _, rfl, _⟩ := h; rfl) | (obtain ⟨_, _, _, _, _, rfl, _⟩ := h; rfl) | (obtain ⟨_, _, _, _, _, _, rfl, _⟩ := h; rfl) | (obtain ⟨_, _, _, _, _, _, _, rfl, _⟩ := h; rfl) | (obtain ⟨_, _, _, _, _, _, _, _, rfl, _⟩ := h; rfl) | (obtain ⟨_, _, _, _, _, _, _, _, _, rfl, _⟩ := h; rfl) | (obtain ⟨_, _, _, _, _, _, _, _, _, _, rfl, _⟩ := h; rfl) | (obtain ⟨_, _, _, _, _, _, _, _, _, _, _, rfl, _⟩ := h; rfl) | (obtain ⟨_, _, _, _, _, _, _, _, _, _, _, _, rfl, _⟩ := h; rfl) | (obtain ⟨_, _, _, _, _, _, _, _, _, _, _, _, _, rfl, _⟩ := h; rfl)) (t_law_integer K Ac S_law_take) (fun cdv A outer s H E hr => red_law_integer T S_law_take G_law_take f cdv A outer s H E hr) (fun ds M kk h => z_law_integer T h)) hm
    (F.bindsN fun _ _ _ _ _ _ us hl => match us, hl with | [_], _ => rfl)
theorem ok_law_is_pair {Ac : Cs} (T : Txt Ac K mg) (G_law_is_integer : FnZ P w K mg base "_law_is_integer" 1 S_law_is_integer) {f : Addr} {fd : FuncData} (F : FnP K "_law_is_pair" s_law_is_pair f fd) (hm : mg "_law_is_pair" = some (.ref f)) : FnZ P w K mg base "_law_is_pair" 2 S_law_is_pair :=
  fnz_of F (fn_z F sc_law_is_pair S_law_is_pair (fun ds M kk h => by unfold S_law_is_pair at h; first | (obtain ⟨_, rfl, _⟩ := h; rfl) | (obtain ⟨_, _, rfl, _⟩ := h; rfl) | (obtain ⟨_, _, _, rfl, _⟩ := h; rfl) | (obtain ⟨_, _, _, _, rfl, _⟩ := h; rfl) | (obtain ⟨_, _, _, _, _, rfl, _⟩ := h; rfl) | (obtain ⟨_, _, _, _, _, _, rfl, _⟩ := h; rfl) | (obtain ⟨_, _, _, _, _, _, _, rfl, _⟩ := h; rfl) | (obtain ⟨_, _, _, _, _, _, _, _, rfl, _⟩ := h; rfl) | (obtain ⟨_, _, _, _, _, _, _, _, _, rfl, _⟩ := h; rfl) | (obtain ⟨_, _, _, _, _, _, _, _, _, _, rfl, _⟩ := h; rfl) | (obtain ⟨_, _, _, _, _, _, _, _, _, _, _, rfl, _⟩ := h; rfl) | (obtain ⟨_, _, _, _, _, _, _, _, _, _, _, _, rfl, _⟩ := h; rfl) | (obtain ⟨_, _, _, _, _, _, _, _, _, _, _, _, _, rfl, _⟩ := h; rfl)) (t_law_is_pair K Ac S_law_is_integer) (fun cdv A outer s H E hr => red_law_is_pair T S_law_is_integer G_law_is_integer f cdv A outer s H E hr) (fun ds M kk h => z_law_is_pair T h)) hm
    (F.bindsN fun _ _ _ _ _ _ us hl => match us, hl with | [_], _ => rfl)
theorem ok_law_is_below {Ac : Cs} (T : Txt Ac K mg) (G_law_level : FnZ P w K mg base "_law_level" 1 S_law_level) {f : Addr} {fd : FuncData} (F : FnP K "_law_is_below" s_law_is_below f fd) (hm : mg "_law_is_below" = some (.ref f)) : FnZ P w K mg base "_law_is_below" 2 S_law_is_below :=
  fnz_of F (fn_z F sc_law_is_below S_law_is_below (fun ds M kk h => by unfold S_law_is_below at h; first | (obtain ⟨_, rfl, _⟩ := h; rfl) | (obtain ⟨_, _, rfl, _⟩ := h; rfl) | (obtain ⟨_, _, _, rfl, _⟩ := h; rfl) | (obtain ⟨_, _, _, _, rfl, _⟩ := h; rfl) | (obtain ⟨_, _, _, _, _, rfl, _⟩ := h; rfl) | (obtain ⟨_, _, _, _, _, _, rfl, _⟩ := h; rfl) | (obtain ⟨_, _, _, _, _, _, _, rfl, _⟩ := h; rfl) | (obtain ⟨_, _, _, _, _, _, _, _, rfl, _⟩ := h; rfl) | (obtain ⟨_, _, _, _, _, _, _, _, _, rfl, _⟩ := h; rfl) | (obtain ⟨_, _, _, _, _, _, _, _, _, _, rfl, _⟩ := h; rfl) | (obtain ⟨_, _, _, _, _, _, _, _, _, _, _, rfl, _⟩ := h; rfl) | (obtain ⟨_, _, _, _, _, _, _, _, _, _, _, _, rfl, _⟩ := h; rfl) | (obtain ⟨_, _, _, _, _, _, _, _, _, _, _, _, _, rfl, _⟩ := h; rfl)) (t_law_is_below K Ac S_law_level) (fun cdv A outer s H E hr => red_law_is_below T S_law_level G_law_level f cdv A outer s H E hr) (fun ds M kk h => z_law_is_below T h)) hm
    (F.bindsN fun _ _ _ _ _ _ us hl => match us, hl with | [_, _], _ => rfl)
theorem ok_law_bound_read {Ac : Cs} (T : Txt Ac K mg) (G_law_number_read : FnZ P w K mg base "_law_number_read" 1 S_law_number_read) {f : Addr} {fd : FuncData} (F : FnP K "_law_bound_read" s_law_bound_read f fd) (hm : mg "_law_bound_read" = some (.ref f)) : FnZ P w K mg base "_law_bound_read" 2 S_law_bound_read :=
  fnz_of F (fn_z F sc_law_bound_read S_law_bound_read (fun ds M kk h => by unfold S_law_bound_read at h; first | (obtain ⟨_, rfl, _⟩ := h; rfl) | (obtain ⟨_, _, rfl, _⟩ := h; rfl) | (obtain ⟨_, _, _, rfl, _⟩ := h; rfl) | (obtain ⟨_, _, _, _, rfl, _⟩ := h; rfl) | (obtain ⟨_, _, _, _, _, rfl, _⟩ := h; rfl) | (obtain ⟨_, _, _, _, _, _, rfl, _⟩ := h; rfl) | (obtain ⟨_, _, _, _, _, _, _, rfl, _⟩ := h; rfl) | (obtain ⟨_, _, _, _, _, _, _, _, rfl, _⟩ := h; rfl) | (obtain ⟨_, _, _, _, _, _, _, _, _, rfl, _⟩ := h; rfl) | (obtain ⟨_, _, _, _, _, _, _, _, _, _, rfl, _⟩ := h; rfl) | (obtain ⟨_, _, _, _, _, _, _, _, _, _, _, rfl, _⟩ := h; rfl) | (obtain ⟨_, _, _, _, _, _, _, _, _, _, _, _, rfl, _⟩ := h; rfl) | (obtain ⟨_, _, _, _, _, _, _, _, _, _, _, _, _, rfl, _⟩ := h; rfl)) (t_law_bound_read K Ac S_law_number_read) (fun cdv A outer s H E hr => red_law_bound_read T S_law_number_read G_law_number_read f cdv A outer s H E hr) (fun ds M kk h => z_law_bound_read T h)) hm
    (F.bindsN fun _ _ _ _ _ _ us hl => match us, hl with | [_], _ => rfl)
theorem ok_total {Ac : Cs} (T : Txt Ac K mg) (G_plus : FnZ P w K mg base "plus" 2 S_plus) {f : Addr} {fd : FuncData} (F : FnP K "total" s_total f fd) (hm : mg "total" = some (.ref f)) : FnZR P w K mg base "total" 3 (SStar 0 S_total) :=
  fnzr_of F (fn_zstar0 (ps := []) (pv := "terms") F sc_total S_total (t_total K Ac S_plus) (fun kV doc pm an cdv ct us rest hl => match us, rest, hl with | [], [], _ => by kernel_rfl | [], _ :: _, _ => by kernel_rfl) (fun cdv A outer s H E hr => red_total T S_plus G_plus f cdv A outer s H E hr) (fun ds M kk h => z_total T h)) hm
theorem ok_law_fraction {Ac : Cs} (T : Txt Ac K mg) (G_law_integer : FnZ P w K mg base "_law_integer" 2 S_law_integer) (G_law_lowest : FnZ P w K mg base "_law_lowest" 2 S_law_lowest) {f : Addr} {fd : FuncData} (F : FnP K "_law_fraction" s_law_fraction f fd) (hm : mg "_law_fraction" = some (.ref f)) : FnZ P w K mg base "_law_fraction" 3 S_law_fraction :=
  fnz_of F (fn_z F sc_law_fraction S_law_fraction (fun ds M kk h => by unfold S_law_fraction at h; first | (obtain ⟨_, rfl, _⟩ := h; rfl) | (obtain ⟨_, _, rfl, _⟩ := h; rfl) | (obtain ⟨_, _, _, rfl, _⟩ := h; rfl) | (obtain ⟨_, _, _, _, rfl, _⟩ := h; rfl) | (obtain ⟨_, _, _, _, _, rfl, _⟩ := h; rfl) | (obtain ⟨_, _, _, _, _, _, rfl, _⟩ := h; rfl) | (obtain ⟨_, _, _, _, _, _, _, rfl, _⟩ := h; rfl) | (obtain ⟨_, _, _, _, _, _, _, _, rfl, _⟩ := h; rfl) | (obtain ⟨_, _, _, _, _, _, _, _, _, rfl, _⟩ := h; rfl) | (obtain ⟨_, _, _, _, _, _, _, _, _, _, rfl, _⟩ := h; rfl) | (obtain ⟨_, _, _, _, _, _, _, _, _, _, _, rfl, _⟩ := h; rfl) | (obtain ⟨_, _, _, _, _, _, _, _, _, _, _, _, rfl, _⟩ := h; rfl) | (obtain ⟨_, _, _, _, _, _, _, _, _, _, _, _, _, rfl, _⟩ := h; rfl)) (t_law_fraction K Ac S_law_integer S_law_lowest) (fun cdv A outer s H E hr => red_law_fraction T S_law_integer S_law_lowest G_law_integer G_law_lowest f cdv A outer s H E hr) (fun ds M kk h => z_law_fraction T h)) hm
    (F.bindsN fun _ _ _ _ _ _ us hl => match us, hl with | [_], _ => rfl)
theorem ok_law_same {Ac : Cs} (T : Txt Ac K mg) (G_law_is_pair : FnZ P w K mg base "_law_is_pair" 2 S_law_is_pair) {f : Addr} {fd : FuncData} (F : FnP K "_law_same" s_law_same f fd) (hm : mg "_law_same" = some (.ref f)) : FnZ P w K mg base "_law_same" 3 S_law_same :=
  fnz_of F (fn_z F sc_law_same S_law_same (fun ds M kk h => by unfold S_law_same at h; first | (obtain ⟨_, rfl, _⟩ := h; rfl) | (obtain ⟨_, _, rfl, _⟩ := h; rfl) | (obtain ⟨_, _, _, rfl, _⟩ := h; rfl) | (obtain ⟨_, _, _, _, rfl, _⟩ := h; rfl) | (obtain ⟨_, _, _, _, _, rfl, _⟩ := h; rfl) | (obtain ⟨_, _, _, _, _, _, rfl, _⟩ := h; rfl) | (obtain ⟨_, _, _, _, _, _, _, rfl, _⟩ := h; rfl) | (obtain ⟨_, _, _, _, _, _, _, _, rfl, _⟩ := h; rfl) | (obtain ⟨_, _, _, _, _, _, _, _, _, rfl, _⟩ := h; rfl) | (obtain ⟨_, _, _, _, _, _, _, _, _, _, rfl, _⟩ := h; rfl) | (obtain ⟨_, _, _, _, _, _, _, _, _, _, _, rfl, _⟩ := h; rfl) | (obtain ⟨_, _, _, _, _, _, _, _, _, _, _, _, rfl, _⟩ := h; rfl) | (obtain ⟨_, _, _, _, _, _, _, _, _, _, _, _, _, rfl, _⟩ := h; rfl)) (t_law_same K Ac S_law_is_pair) (fun cdv A outer s H E hr => red_law_same T S_law_is_pair G_law_is_pair f cdv A outer s H E hr) (fun ds M kk h => z_law_same T h)) hm
    (F.bindsN fun _ _ _ _ _ _ us hl => match us, hl with | [_, _], _ => rfl)
theorem ok_law_order_right {Ac : Cs} (T : Txt Ac K mg) (G_below : FnZ P w K mg base "below" 1 S_below) (G_law_is_below : FnZ P w K mg base "_law_is_below" 2 S_law_is_below) {f : Addr} {fd : FuncData} (F : FnP K "_law_order_right" s_law_order_right f fd) (hm : mg "_law_order_right" = some (.ref f)) : FnZ P w K mg base "_law_order_right" 3 S_law_order_right :=
  fnz_of F (fn_z F sc_law_order_right S_law_order_right (fun ds M kk h => by unfold S_law_order_right at h; first | (obtain ⟨_, rfl, _⟩ := h; rfl) | (obtain ⟨_, _, rfl, _⟩ := h; rfl) | (obtain ⟨_, _, _, rfl, _⟩ := h; rfl) | (obtain ⟨_, _, _, _, rfl, _⟩ := h; rfl) | (obtain ⟨_, _, _, _, _, rfl, _⟩ := h; rfl) | (obtain ⟨_, _, _, _, _, _, rfl, _⟩ := h; rfl) | (obtain ⟨_, _, _, _, _, _, _, rfl, _⟩ := h; rfl) | (obtain ⟨_, _, _, _, _, _, _, _, rfl, _⟩ := h; rfl) | (obtain ⟨_, _, _, _, _, _, _, _, _, rfl, _⟩ := h; rfl) | (obtain ⟨_, _, _, _, _, _, _, _, _, _, rfl, _⟩ := h; rfl) | (obtain ⟨_, _, _, _, _, _, _, _, _, _, _, rfl, _⟩ := h; rfl) | (obtain ⟨_, _, _, _, _, _, _, _, _, _, _, _, rfl, _⟩ := h; rfl) | (obtain ⟨_, _, _, _, _, _, _, _, _, _, _, _, _, rfl, _⟩ := h; rfl)) (t_law_order_right K Ac S_below S_law_is_below) (fun cdv A outer s H E hr => red_law_order_right T S_below S_law_is_below G_below G_law_is_below f cdv A outer s H E hr) (fun ds M kk h => z_law_order_right T h)) hm
    (F.bindsN fun _ _ _ _ _ _ us hl => match us, hl with | [_], _ => rfl)
theorem ok_law_larger {Ac : Cs} (T : Txt Ac K mg) (G_larger : FnZR P w K mg base "larger" 2 (SStar 1 S_larger)) {f : Addr} {fd : FuncData} (F : FnP K "_law_larger" s_law_larger f fd) (hm : mg "_law_larger" = some (.ref f)) : FnZ P w K mg base "_law_larger" 3 S_law_larger :=
  fnz_of F (fn_z F sc_law_larger S_law_larger (fun ds M kk h => by unfold S_law_larger at h; first | (obtain ⟨_, rfl, _⟩ := h; rfl) | (obtain ⟨_, _, rfl, _⟩ := h; rfl) | (obtain ⟨_, _, _, rfl, _⟩ := h; rfl) | (obtain ⟨_, _, _, _, rfl, _⟩ := h; rfl) | (obtain ⟨_, _, _, _, _, rfl, _⟩ := h; rfl) | (obtain ⟨_, _, _, _, _, _, rfl, _⟩ := h; rfl) | (obtain ⟨_, _, _, _, _, _, _, rfl, _⟩ := h; rfl) | (obtain ⟨_, _, _, _, _, _, _, _, rfl, _⟩ := h; rfl) | (obtain ⟨_, _, _, _, _, _, _, _, _, rfl, _⟩ := h; rfl) | (obtain ⟨_, _, _, _, _, _, _, _, _, _, rfl, _⟩ := h; rfl) | (obtain ⟨_, _, _, _, _, _, _, _, _, _, _, rfl, _⟩ := h; rfl) | (obtain ⟨_, _, _, _, _, _, _, _, _, _, _, _, rfl, _⟩ := h; rfl) | (obtain ⟨_, _, _, _, _, _, _, _, _, _, _, _, _, rfl, _⟩ := h; rfl)) (t_law_larger K Ac (SStar 1 S_larger)) (fun cdv A outer s H E hr => red_law_larger T (SStar 1 S_larger) G_larger f cdv A outer s H E hr) (fun ds M kk h => z_law_larger T h)) hm
    (F.bindsN fun _ _ _ _ _ _ us hl => match us, hl with | [_], _ => rfl)
theorem ok_law_smaller {Ac : Cs} (T : Txt Ac K mg) (G_smaller : FnZR P w K mg base "smaller" 2 (SStar 1 S_smaller)) {f : Addr} {fd : FuncData} (F : FnP K "_law_smaller" s_law_smaller f fd) (hm : mg "_law_smaller" = some (.ref f)) : FnZ P w K mg base "_law_smaller" 3 S_law_smaller :=
  fnz_of F (fn_z F sc_law_smaller S_law_smaller (fun ds M kk h => by unfold S_law_smaller at h; first | (obtain ⟨_, rfl, _⟩ := h; rfl) | (obtain ⟨_, _, rfl, _⟩ := h; rfl) | (obtain ⟨_, _, _, rfl, _⟩ := h; rfl) | (obtain ⟨_, _, _, _, rfl, _⟩ := h; rfl) | (obtain ⟨_, _, _, _, _, rfl, _⟩ := h; rfl) | (obtain ⟨_, _, _, _, _, _, rfl, _⟩ := h; rfl) | (obtain ⟨_, _, _, _, _, _, _, rfl, _⟩ := h; rfl) | (obtain ⟨_, _, _, _, _, _, _, _, rfl, _⟩ := h; rfl) | (obtain ⟨_, _, _, _, _, _, _, _, _, rfl, _⟩ := h; rfl) | (obtain ⟨_, _, _, _, _, _, _, _, _, _, rfl, _⟩ := h; rfl) | (obtain ⟨_, _, _, _, _, _, _, _, _, _, _, rfl, _⟩ := h; rfl) | (obtain ⟨_, _, _, _, _, _, _, _, _, _, _, _, rfl, _⟩ := h; rfl) | (obtain ⟨_, _, _, _, _, _, _, _, _, _, _, _, _, rfl, _⟩ := h; rfl)) (t_law_smaller K Ac (SStar 1 S_smaller)) (fun cdv A outer s H E hr => red_law_smaller T (SStar 1 S_smaller) G_smaller f cdv A outer s H E hr) (fun ds M kk h => z_law_smaller T h)) hm
    (F.bindsN fun _ _ _ _ _ _ us hl => match us, hl with | [_], _ => rfl)
theorem ok_law_greatest {Ac : Cs} (T : Txt Ac K mg) (G_law_is_below : FnZ P w K mg base "_law_is_below" 2 S_law_is_below) {f : Addr} {fd : FuncData} (F : FnP K "_law_greatest" s_law_greatest f fd) (hm : mg "_law_greatest" = some (.ref f)) : FnZ P w K mg base "_law_greatest" 3 S_law_greatest :=
  fnz_of F (fn_z F sc_law_greatest S_law_greatest (fun ds M kk h => by unfold S_law_greatest at h; first | (obtain ⟨_, rfl, _⟩ := h; rfl) | (obtain ⟨_, _, rfl, _⟩ := h; rfl) | (obtain ⟨_, _, _, rfl, _⟩ := h; rfl) | (obtain ⟨_, _, _, _, rfl, _⟩ := h; rfl) | (obtain ⟨_, _, _, _, _, rfl, _⟩ := h; rfl) | (obtain ⟨_, _, _, _, _, _, rfl, _⟩ := h; rfl) | (obtain ⟨_, _, _, _, _, _, _, rfl, _⟩ := h; rfl) | (obtain ⟨_, _, _, _, _, _, _, _, rfl, _⟩ := h; rfl) | (obtain ⟨_, _, _, _, _, _, _, _, _, rfl, _⟩ := h; rfl) | (obtain ⟨_, _, _, _, _, _, _, _, _, _, rfl, _⟩ := h; rfl) | (obtain ⟨_, _, _, _, _, _, _, _, _, _, _, rfl, _⟩ := h; rfl) | (obtain ⟨_, _, _, _, _, _, _, _, _, _, _, _, rfl, _⟩ := h; rfl) | (obtain ⟨_, _, _, _, _, _, _, _, _, _, _, _, _, rfl, _⟩ := h; rfl)) (t_law_greatest K Ac S_law_is_below) (fun cdv A outer s H E hr => red_law_greatest T S_law_is_below G_law_is_below f cdv A outer s H E hr) (fun ds M kk h => z_law_greatest T h)) hm
    (F.bindsN fun _ _ _ _ _ _ us hl => match us, hl with | [_], _ => rfl)
theorem ok_law_least {Ac : Cs} (T : Txt Ac K mg) (G_law_is_below : FnZ P w K mg base "_law_is_below" 2 S_law_is_below) {f : Addr} {fd : FuncData} (F : FnP K "_law_least" s_law_least f fd) (hm : mg "_law_least" = some (.ref f)) : FnZ P w K mg base "_law_least" 3 S_law_least :=
  fnz_of F (fn_z F sc_law_least S_law_least (fun ds M kk h => by unfold S_law_least at h; first | (obtain ⟨_, rfl, _⟩ := h; rfl) | (obtain ⟨_, _, rfl, _⟩ := h; rfl) | (obtain ⟨_, _, _, rfl, _⟩ := h; rfl) | (obtain ⟨_, _, _, _, rfl, _⟩ := h; rfl) | (obtain ⟨_, _, _, _, _, rfl, _⟩ := h; rfl) | (obtain ⟨_, _, _, _, _, _, rfl, _⟩ := h; rfl) | (obtain ⟨_, _, _, _, _, _, _, rfl, _⟩ := h; rfl) | (obtain ⟨_, _, _, _, _, _, _, _, rfl, _⟩ := h; rfl) | (obtain ⟨_, _, _, _, _, _, _, _, _, rfl, _⟩ := h; rfl) | (obtain ⟨_, _, _, _, _, _, _, _, _, _, rfl, _⟩ := h; rfl) | (obtain ⟨_, _, _, _, _, _, _, _, _, _, _, rfl, _⟩ := h; rfl) | (obtain ⟨_, _, _, _, _, _, _, _, _, _, _, _, rfl, _⟩ := h; rfl) | (obtain ⟨_, _, _, _, _, _, _, _, _, _, _, _, _, rfl, _⟩ := h; rfl)) (t_law_least K Ac S_law_is_below) (fun cdv A outer s H E hr => red_law_least T S_law_is_below G_law_is_below f cdv A outer s H E hr) (fun ds M kk h => z_law_least T h)) hm
    (F.bindsN fun _ _ _ _ _ _ us hl => match us, hl with | [_], _ => rfl)
theorem ok_law_sum {Ac : Cs} (T : Txt Ac K mg) (G_law_lowest : FnZ P w K mg base "_law_lowest" 2 S_law_lowest) {f : Addr} {fd : FuncData} (F : FnP K "_law_sum" s_law_sum f fd) (hm : mg "_law_sum" = some (.ref f)) : FnZ P w K mg base "_law_sum" 3 S_law_sum :=
  fnz_of F (fn_z F sc_law_sum S_law_sum (fun ds M kk h => by unfold S_law_sum at h; first | (obtain ⟨_, rfl, _⟩ := h; rfl) | (obtain ⟨_, _, rfl, _⟩ := h; rfl) | (obtain ⟨_, _, _, rfl, _⟩ := h; rfl) | (obtain ⟨_, _, _, _, rfl, _⟩ := h; rfl) | (obtain ⟨_, _, _, _, _, rfl, _⟩ := h; rfl) | (obtain ⟨_, _, _, _, _, _, rfl, _⟩ := h; rfl) | (obtain ⟨_, _, _, _, _, _, _, rfl, _⟩ := h; rfl) | (obtain ⟨_, _, _, _, _, _, _, _, rfl, _⟩ := h; rfl) | (obtain ⟨_, _, _, _, _, _, _, _, _, rfl, _⟩ := h; rfl) | (obtain ⟨_, _, _, _, _, _, _, _, _, _, rfl, _⟩ := h; rfl) | (obtain ⟨_, _, _, _, _, _, _, _, _, _, _, rfl, _⟩ := h; rfl) | (obtain ⟨_, _, _, _, _, _, _, _, _, _, _, _, rfl, _⟩ := h; rfl) | (obtain ⟨_, _, _, _, _, _, _, _, _, _, _, _, _, rfl, _⟩ := h; rfl)) (t_law_sum K Ac S_law_lowest) (fun cdv A outer s H E hr => red_law_sum T S_law_lowest G_law_lowest f cdv A outer s H E hr) (fun ds M kk h => z_law_sum T h)) hm
    (F.bindsN fun _ _ _ _ _ _ us hl => match us, hl with | [_], _ => rfl)
theorem ok_law_bound {Ac : Cs} (T : Txt Ac K mg) (G_law_take : FnZ P w K mg base "_law_take" 1 S_law_take) (G_law_fraction : FnZ P w K mg base "_law_fraction" 3 S_law_fraction) (G_law_lowest : FnZ P w K mg base "_law_lowest" 2 S_law_lowest) {f : Addr} {fd : FuncData} (F : FnP K "_law_bound" s_law_bound f fd) (hm : mg "_law_bound" = some (.ref f)) : FnZ P w K mg base "_law_bound" 4 S_law_bound :=
  fnz_of F (fn_z F sc_law_bound S_law_bound (fun ds M kk h => by unfold S_law_bound at h; first | (obtain ⟨_, rfl, _⟩ := h; rfl) | (obtain ⟨_, _, rfl, _⟩ := h; rfl) | (obtain ⟨_, _, _, rfl, _⟩ := h; rfl) | (obtain ⟨_, _, _, _, rfl, _⟩ := h; rfl) | (obtain ⟨_, _, _, _, _, rfl, _⟩ := h; rfl) | (obtain ⟨_, _, _, _, _, _, rfl, _⟩ := h; rfl) | (obtain ⟨_, _, _, _, _, _, _, rfl, _⟩ := h; rfl) | (obtain ⟨_, _, _, _, _, _, _, _, rfl, _⟩ := h; rfl) | (obtain ⟨_, _, _, _, _, _, _, _, _, rfl, _⟩ := h; rfl) | (obtain ⟨_, _, _, _, _, _, _, _, _, _, rfl, _⟩ := h; rfl) | (obtain ⟨_, _, _, _, _, _, _, _, _, _, _, rfl, _⟩ := h; rfl) | (obtain ⟨_, _, _, _, _, _, _, _, _, _, _, _, rfl, _⟩ := h; rfl) | (obtain ⟨_, _, _, _, _, _, _, _, _, _, _, _, _, rfl, _⟩ := h; rfl)) (t_law_bound K Ac S_law_take S_law_fraction S_law_lowest) (fun cdv A outer s H E hr => red_law_bound T S_law_take S_law_fraction S_law_lowest G_law_take G_law_fraction G_law_lowest f cdv A outer s H E hr) (fun ds M kk h => z_law_bound T h)) hm
    (F.bindsN fun _ _ _ _ _ _ us hl => match us, hl with | [_, _], _ => rfl)
theorem ok_law_total {Ac : Cs} (T : Txt Ac K mg) (G_total : FnZR P w K mg base "total" 3 (SStar 0 S_total)) {f : Addr} {fd : FuncData} (F : FnP K "_law_total" s_law_total f fd) (hm : mg "_law_total" = some (.ref f)) : FnZ P w K mg base "_law_total" 4 S_law_total :=
  fnz_of F (fn_z F sc_law_total S_law_total (fun ds M kk h => by unfold S_law_total at h; first | (obtain ⟨_, rfl, _⟩ := h; rfl) | (obtain ⟨_, _, rfl, _⟩ := h; rfl) | (obtain ⟨_, _, _, rfl, _⟩ := h; rfl) | (obtain ⟨_, _, _, _, rfl, _⟩ := h; rfl) | (obtain ⟨_, _, _, _, _, rfl, _⟩ := h; rfl) | (obtain ⟨_, _, _, _, _, _, rfl, _⟩ := h; rfl) | (obtain ⟨_, _, _, _, _, _, _, rfl, _⟩ := h; rfl) | (obtain ⟨_, _, _, _, _, _, _, _, rfl, _⟩ := h; rfl) | (obtain ⟨_, _, _, _, _, _, _, _, _, rfl, _⟩ := h; rfl) | (obtain ⟨_, _, _, _, _, _, _, _, _, _, rfl, _⟩ := h; rfl) | (obtain ⟨_, _, _, _, _, _, _, _, _, _, _, rfl, _⟩ := h; rfl) | (obtain ⟨_, _, _, _, _, _, _, _, _, _, _, _, rfl, _⟩ := h; rfl) | (obtain ⟨_, _, _, _, _, _, _, _, _, _, _, _, _, rfl, _⟩ := h; rfl)) (t_law_total K Ac (SStar 0 S_total)) (fun cdv A outer s H E hr => red_law_total T (SStar 0 S_total) G_total f cdv A outer s H E hr) (fun ds M kk h => z_law_total T h)) hm
    (F.bindsN fun _ _ _ _ _ _ us hl => match us, hl with | [_], _ => rfl)
theorem ok_law_groups_right {Ac : Cs} (T : Txt Ac K mg) (G_law_take : FnZ P w K mg base "_law_take" 1 S_law_take) (G_law_larger : FnZ P w K mg base "_law_larger" 3 S_law_larger) (G_law_greatest : FnZ P w K mg base "_law_greatest" 3 S_law_greatest) (G_law_same : FnZ P w K mg base "_law_same" 3 S_law_same) (G_law_smaller : FnZ P w K mg base "_law_smaller" 3 S_law_smaller) (G_law_least : FnZ P w K mg base "_law_least" 3 S_law_least) {f : Addr} {fd : FuncData} (F : FnP K "_law_groups_right" s_law_groups_right f fd) (hm : mg "_law_groups_right" = some (.ref f)) : FnZ P w K mg base "_law_groups_right" 4 S_law_groups_right :=
  fnz_of F (fn_z F sc_law_groups_right S_law_groups_right (fun ds M kk h => by unfold S_law_groups_right at h; first | (obtain ⟨_, rfl, _⟩ := h; rfl) | (obtain ⟨_, _, rfl, _⟩ := h; rfl) | (obtain ⟨_, _, _, rfl, _⟩ := h; rfl) | (obtain ⟨_, _, _, _, rfl, _⟩ := h; rfl) | (obtain ⟨_, _, _, _, _, rfl, _⟩ := h; rfl) | (obtain ⟨_, _, _, _, _, _, rfl, _⟩ := h; rfl) | (obtain ⟨_, _, _, _, _, _, _, rfl, _⟩ := h; rfl) | (obtain ⟨_, _, _, _, _, _, _, _, rfl, _⟩ := h; rfl) | (obtain ⟨_, _, _, _, _, _, _, _, _, rfl, _⟩ := h; rfl) | (obtain ⟨_, _, _, _, _, _, _, _, _, _, rfl, _⟩ := h; rfl) | (obtain ⟨_, _, _, _, _, _, _, _, _, _, _, rfl, _⟩ := h; rfl) | (obtain ⟨_, _, _, _, _, _, _, _, _, _, _, _, rfl, _⟩ := h; rfl) | (obtain ⟨_, _, _, _, _, _, _, _, _, _, _, _, _, rfl, _⟩ := h; rfl)) (t_law_groups_right K Ac S_law_take S_law_larger S_law_greatest S_law_same S_law_smaller S_law_least) (fun cdv A outer s H E hr => red_law_groups_right T S_law_take S_law_larger S_law_greatest S_law_same S_law_smaller S_law_least G_law_take G_law_larger G_law_greatest G_law_same G_law_smaller G_law_least f cdv A outer s H E hr) (fun ds M kk h => z_law_groups_right T h)) hm
    (F.bindsN fun _ _ _ _ _ _ us hl => match us, hl with | [_, _], _ => rfl)
theorem ok_law_whole_right {Ac : Cs} (T : Txt Ac K mg) (G_whole : FnZ P w K mg base "whole" 1 S_whole) (G_law_same : FnZ P w K mg base "_law_same" 3 S_law_same) (G_law_is_pair : FnZ P w K mg base "_law_is_pair" 2 S_law_is_pair) {f : Addr} {fd : FuncData} (F : FnP K "_law_whole_right" s_law_whole_right f fd) (hm : mg "_law_whole_right" = some (.ref f)) : FnZ P w K mg base "_law_whole_right" 4 S_law_whole_right :=
  fnz_of F (fn_z F sc_law_whole_right S_law_whole_right (fun ds M kk h => by unfold S_law_whole_right at h; first | (obtain ⟨_, rfl, _⟩ := h; rfl) | (obtain ⟨_, _, rfl, _⟩ := h; rfl) | (obtain ⟨_, _, _, rfl, _⟩ := h; rfl) | (obtain ⟨_, _, _, _, rfl, _⟩ := h; rfl) | (obtain ⟨_, _, _, _, _, rfl, _⟩ := h; rfl) | (obtain ⟨_, _, _, _, _, _, rfl, _⟩ := h; rfl) | (obtain ⟨_, _, _, _, _, _, _, rfl, _⟩ := h; rfl) | (obtain ⟨_, _, _, _, _, _, _, _, rfl, _⟩ := h; rfl) | (obtain ⟨_, _, _, _, _, _, _, _, _, rfl, _⟩ := h; rfl) | (obtain ⟨_, _, _, _, _, _, _, _, _, _, rfl, _⟩ := h; rfl) | (obtain ⟨_, _, _, _, _, _, _, _, _, _, _, rfl, _⟩ := h; rfl) | (obtain ⟨_, _, _, _, _, _, _, _, _, _, _, _, rfl, _⟩ := h; rfl) | (obtain ⟨_, _, _, _, _, _, _, _, _, _, _, _, _, rfl, _⟩ := h; rfl)) (t_law_whole_right K Ac S_whole S_law_same S_law_is_pair) (fun cdv A outer s H E hr => red_law_whole_right T S_whole S_law_same S_law_is_pair G_whole G_law_same G_law_is_pair f cdv A outer s H E hr) (fun ds M kk h => z_law_whole_right T h)) hm
    (F.bindsN fun _ _ _ _ _ _ us hl => match us, hl with | [_], _ => rfl)
theorem ok_law_totals_right {Ac : Cs} (T : Txt Ac K mg) (G_law_take : FnZ P w K mg base "_law_take" 1 S_law_take) (G_law_total : FnZ P w K mg base "_law_total" 4 S_law_total) (G_law_sum : FnZ P w K mg base "_law_sum" 3 S_law_sum) (G_law_same : FnZ P w K mg base "_law_same" 3 S_law_same) {f : Addr} {fd : FuncData} (F : FnP K "_law_totals_right" s_law_totals_right f fd) (hm : mg "_law_totals_right" = some (.ref f)) : FnZ P w K mg base "_law_totals_right" 5 S_law_totals_right :=
  fnz_of F (fn_z F sc_law_totals_right S_law_totals_right (fun ds M kk h => by unfold S_law_totals_right at h; first | (obtain ⟨_, rfl, _⟩ := h; rfl) | (obtain ⟨_, _, rfl, _⟩ := h; rfl) | (obtain ⟨_, _, _, rfl, _⟩ := h; rfl) | (obtain ⟨_, _, _, _, rfl, _⟩ := h; rfl) | (obtain ⟨_, _, _, _, _, rfl, _⟩ := h; rfl) | (obtain ⟨_, _, _, _, _, _, rfl, _⟩ := h; rfl) | (obtain ⟨_, _, _, _, _, _, _, rfl, _⟩ := h; rfl) | (obtain ⟨_, _, _, _, _, _, _, _, rfl, _⟩ := h; rfl) | (obtain ⟨_, _, _, _, _, _, _, _, _, rfl, _⟩ := h; rfl) | (obtain ⟨_, _, _, _, _, _, _, _, _, _, rfl, _⟩ := h; rfl) | (obtain ⟨_, _, _, _, _, _, _, _, _, _, _, rfl, _⟩ := h; rfl) | (obtain ⟨_, _, _, _, _, _, _, _, _, _, _, _, rfl, _⟩ := h; rfl) | (obtain ⟨_, _, _, _, _, _, _, _, _, _, _, _, _, rfl, _⟩ := h; rfl)) (t_law_totals_right K Ac S_law_take S_law_total S_law_sum S_law_same) (fun cdv A outer s H E hr => red_law_totals_right T S_law_take S_law_total S_law_sum S_law_same G_law_take G_law_total G_law_sum G_law_same f cdv A outer s H E hr) (fun ds M kk h => z_law_totals_right T h)) hm
    (F.bindsN fun _ _ _ _ _ _ us hl => match us, hl with | [_, _], _ => rfl)
theorem slaw_ok {ds : List D} {M : Mem} {kk : D → Mem → Prop} (h : SLaw ds M kk) : S_law ds M kk := by
  obtain ⟨ns, rfl, rfl, hl, hk⟩ := h
  exact ⟨_, _, rfl, law_ok ns hl, hk _⟩
theorem ok_law {Ac : Cs} (T : Txt Ac K mg) (G_law_same : FnZ P w K mg base "_law_same" 3 S_law_same) (G_law_box : FnZ P w K mg base "_law_box" 1 S_law_box) (G_law_bound : FnZ P w K mg base "_law_bound" 4 S_law_bound) (G_law_order_right : FnZ P w K mg base "_law_order_right" 3 S_law_order_right) (G_law_whole_right : FnZ P w K mg base "_law_whole_right" 4 S_law_whole_right) (G_shown : FnZ P w K mg base "shown" 1 S_shown) (G_law_bound_read : FnZ P w K mg base "_law_bound_read" 2 S_law_bound_read) (G_law_groups_right : FnZ P w K mg base "_law_groups_right" 4 S_law_groups_right) (G_law_totals_right : FnZ P w K mg base "_law_totals_right" 5 S_law_totals_right) {f : Addr} {fd : FuncData} (F : FnP K "law" s_law f fd) : FnOk P w K mg base CX0 6 f fd ["_law_script"] (toSp K SLaw) :=
  fn_z F sc_law SLaw (fun ds M kk h => by unfold SLaw at h; obtain ⟨_, rfl, _⟩ := h; rfl) (t_law K Ac S_law_same S_law_box S_law_bound S_law_order_right S_law_whole_right S_shown S_law_bound_read S_law_groups_right S_law_totals_right) (fun cdv A outer s H E hr => red_law T S_law_same S_law_box S_law_bound S_law_order_right S_law_whole_right S_shown S_law_bound_read S_law_groups_right S_law_totals_right G_law_same G_law_box G_law_bound G_law_order_right G_law_whole_right G_shown G_law_bound_read G_law_groups_right G_law_totals_right f cdv A outer s H E hr) (fun ds M kk h => z_law T (slaw_ok h))
end
def d_fraction : He.DefD := ⟨("fraction", none), "fraction", "fraction", defArgs s_fraction, defBody s_fraction, defScope s_fraction, [.int 1], []⟩
def d_plus : He.DefD := ⟨("plus", none), "plus", "plus", defArgs s_plus, defBody s_plus, defScope s_plus, [], []⟩
def d_total : He.DefD := ⟨("total", none), "total", "total", defArgs s_total, defBody s_total, defScope s_total, [], []⟩
def d_below : He.DefD := ⟨("below", none), "below", "below", defArgs s_below, defBody s_below, defScope s_below, [], []⟩
def d_larger : He.DefD := ⟨("larger", none), "larger", "larger", defArgs s_larger, defBody s_larger, defScope s_larger, [], []⟩
def d_smaller : He.DefD := ⟨("smaller", none), "smaller", "smaller", defArgs s_smaller, defBody s_smaller, defScope s_smaller, [], []⟩
def d_whole : He.DefD := ⟨("whole", none), "whole", "whole", defArgs s_whole, defBody s_whole, defScope s_whole, [], []⟩
def d_shown : He.DefD := ⟨("shown", none), "shown", "shown", defArgs s_shown, defBody s_shown, defScope s_shown, [], []⟩
def d_law_is_integer : He.DefD := ⟨("_law_is_integer", none), "_law_is_integer", "_law_is_integer", defArgs s_law_is_integer, defBody s_law_is_integer, defScope s_law_is_integer, [], []⟩
def d_law_box : He.DefD := ⟨("_law_box", none), "_law_box", "_law_box", defArgs s_law_box, defBody s_law_box, defScope s_law_box, [], []⟩
def d_law_take : He.DefD := ⟨("_law_take", none), "_law_take", "_law_take", defArgs s_law_take, defBody s_law_take, defScope s_law_take, [], []⟩
def d_law_divisor : He.DefD := ⟨("_law_divisor", none), "_law_divisor", "_law_divisor", defArgs s_law_divisor, defBody s_law_divisor, defScope s_law_divisor, [], []⟩
def d_law_lowest : He.DefD := ⟨("_law_lowest", none), "_law_lowest", "_law_lowest", defArgs s_law_lowest, defBody s_law_lowest, defScope s_law_lowest, [], []⟩
def d_law_integer : He.DefD := ⟨("_law_integer", none), "_law_integer", "_law_integer", defArgs s_law_integer, defBody s_law_integer, defScope s_law_integer, [], []⟩
def d_law_fraction : He.DefD := ⟨("_law_fraction", none), "_law_fraction", "_law_fraction", defArgs s_law_fraction, defBody s_law_fraction, defScope s_law_fraction, [], []⟩
def d_law_is_pair : He.DefD := ⟨("_law_is_pair", none), "_law_is_pair", "_law_is_pair", defArgs s_law_is_pair, defBody s_law_is_pair, defScope s_law_is_pair, [], []⟩
def d_law_same : He.DefD := ⟨("_law_same", none), "_law_same", "_law_same", defArgs s_law_same, defBody s_law_same, defScope s_law_same, [], []⟩
def d_law_bound : He.DefD := ⟨("_law_bound", none), "_law_bound", "_law_bound", defArgs s_law_bound, defBody s_law_bound, defScope s_law_bound, [], []⟩
def d_law_level : He.DefD := ⟨("_law_level", none), "_law_level", "_law_level", defArgs s_law_level, defBody s_law_level, defScope s_law_level, [], []⟩
def d_law_is_below : He.DefD := ⟨("_law_is_below", none), "_law_is_below", "_law_is_below", defArgs s_law_is_below, defBody s_law_is_below, defScope s_law_is_below, [], []⟩
def d_law_order_right : He.DefD := ⟨("_law_order_right", none), "_law_order_right", "_law_order_right", defArgs s_law_order_right, defBody s_law_order_right, defScope s_law_order_right, [], []⟩
def d_law_larger : He.DefD := ⟨("_law_larger", none), "_law_larger", "_law_larger", defArgs s_law_larger, defBody s_law_larger, defScope s_law_larger, [], []⟩
def d_law_smaller : He.DefD := ⟨("_law_smaller", none), "_law_smaller", "_law_smaller", defArgs s_law_smaller, defBody s_law_smaller, defScope s_law_smaller, [], []⟩
def d_law_total : He.DefD := ⟨("_law_total", none), "_law_total", "_law_total", defArgs s_law_total, defBody s_law_total, defScope s_law_total, [], []⟩
def d_law_greatest : He.DefD := ⟨("_law_greatest", none), "_law_greatest", "_law_greatest", defArgs s_law_greatest, defBody s_law_greatest, defScope s_law_greatest, [], []⟩
def d_law_least : He.DefD := ⟨("_law_least", none), "_law_least", "_law_least", defArgs s_law_least, defBody s_law_least, defScope s_law_least, [], []⟩
def d_law_sum : He.DefD := ⟨("_law_sum", none), "_law_sum", "_law_sum", defArgs s_law_sum, defBody s_law_sum, defScope s_law_sum, [], []⟩
def d_law_groups_right : He.DefD := ⟨("_law_groups_right", none), "_law_groups_right", "_law_groups_right", defArgs s_law_groups_right, defBody s_law_groups_right, defScope s_law_groups_right, [], []⟩
def d_law_totals_right : He.DefD := ⟨("_law_totals_right", none), "_law_totals_right", "_law_totals_right", defArgs s_law_totals_right, defBody s_law_totals_right, defScope s_law_totals_right, [], []⟩
def d_law_whole_right : He.DefD := ⟨("_law_whole_right", none), "_law_whole_right", "_law_whole_right", defArgs s_law_whole_right, defBody s_law_whole_right, defScope s_law_whole_right, [], []⟩
def d_law_number_read : He.DefD := ⟨("_law_number_read", none), "_law_number_read", "_law_number_read", defArgs s_law_number_read, defBody s_law_number_read, defScope s_law_number_read, [], []⟩
def d_law_bound_read : He.DefD := ⟨("_law_bound_read", none), "_law_bound_read", "_law_bound_read", defArgs s_law_bound_read, defBody s_law_bound_read, defScope s_law_bound_read, [], []⟩
def d_law : He.DefD := ⟨("law", none), "law", "law", defArgs s_law, defBody s_law, defScope s_law, [], []⟩
def fn_ : List He.DefD := [d_fraction, d_plus, d_total, d_below, d_larger, d_smaller, d_whole, d_shown, d_law_is_integer, d_law_box, d_law_take, d_law_divisor, d_law_lowest, d_law_integer, d_law_fraction, d_law_is_pair, d_law_same, d_law_bound, d_law_level, d_law_is_below, d_law_order_right, d_law_larger, d_law_smaller, d_law_total, d_law_greatest, d_law_least, d_law_sum, d_law_groups_right, d_law_totals_right, d_law_whole_right, d_law_number_read, d_law_bound_read, d_law]
def fa_ : List He.Fa := [.glo "fraction", .glo "plus", .glo "total", .glo "below", .glo "larger", .glo "smaller", .glo "whole", .glo "shown", .glo "_law_is_integer", .glo "_law_box", .glo "_law_take", .glo "_law_divisor", .glo "_law_lowest", .glo "_law_integer", .glo "_law_fraction", .glo "_law_is_pair", .glo "_law_same", .glo "_law_bound", .glo "_law_level", .glo "_law_is_below", .glo "_law_order_right", .glo "_law_larger", .glo "_law_smaller", .glo "_law_total", .glo "_law_greatest", .glo "_law_least", .glo "_law_sum", .glo "_law_groups_right", .glo "_law_totals_right", .glo "_law_whole_right", .glo "_law_number_read", .glo "_law_bound_read", .glo "law", .free "abs", .free "bool", .free "int", .free "isinstance", .free "len", .free "max", .free "min", .free "range", .free "str", .free "sum", .free "tuple"]
def bs_ : List (Str × String) := [("gcd", "math.gcd")]
def cs_ : List (Str × D) := [("ENDLESS", (D.tup [(D.int 1), (D.int 0)])), ("NOTHING", (D.tup [(D.int (-1)), (D.int 0)])), ("ZERO", (D.tup [(D.int 0), (D.int 1)]))]
abbrev R_ : PySem.W.OpenRow := PySem.W.OpenLaw.row PySem.Challenge.rw_leaprungs_k01_bounds_in_order
def names_ : List PySem.Str := (["LeapError", "ZeroDivisor", "ZERO", "ENDLESS", "NOTHING", "fraction", "plus", "total", "below", "larger", "smaller", "whole", "shown", "_law_is_integer", "_law_box", "_law_take"] : List PySem.Str) ++ (["_law_divisor", "_law_lowest", "_law_integer", "_law_fraction", "_law_is_pair", "_law_same", "_law_bound", "_law_level", "_law_is_below", "_law_order_right", "_law_larger", "_law_smaller", "_law_total", "_law_greatest", "_law_least", "_law_sum"] : List PySem.Str) ++ (["_law_groups_right", "_law_totals_right", "_law_whole_right", "_law_number_read", "_law_bound_read"] : List PySem.Str)
abbrev hk_ : PySem.W.Hook := hookX 4 fa_ fn_ bs_ cs_
def ob_ (s : PySem.W.SharedT) : He.AlD × Bool := obsXG 4 fa_ fn_ bs_ cs_ (HandSHeadRun.getT s)
theorem ob_eq_ (s : PySem.W.SharedT) : ob_ s = hk_.obs s.abs := obsXG_eq (HandSHeadRun.getT_eq s)
theorem run_ (w : World) : HandSHeadRun.RunEqI R_ (PySem.W.view R_.prog [0, 41]) hk_ ob_ 4000 names_ w := by
  unfold HandSHeadRun.RunEqI
  kernel_rfl
theorem facts_ {P : Program} {w : World} {K : PySem.W.Frag} {h : Heap} {mg : Str → Option Value} {f : Addr} (X : K.In h) (G : h.Ns mainGlobals mg) (hfa : mg ("law" : Str) = some (.ref f)) (c : He.SaysD fa_ fn_ K) (cb : (bfOk bs_ K && csOk cs_ K) = true) :
    ∃ fd : FuncData, (∀ (s : Shared) (v : Value), BindsTo s fd ⟨[v], []⟩ [("_law_script", v)]) ∧ ∀ base : Heap, K.In base → base.Ns mainGlobals mg → FnOk P w K mg base CX0 6 f fd ["_law_script"] (toSp K SLaw) := by
  obtain ⟨fd_fraction, F_fraction⟩ := c.def_ 0 (d := d_fraction) rfl
  have g_fraction := He.glo_ok X G (c.fact 0 (f := .glo "fraction") rfl)
  obtain ⟨fd_plus, F_plus⟩ := c.def_ 1 (d := d_plus) rfl
  have g_plus := He.glo_ok X G (c.fact 1 (f := .glo "plus") rfl)
  obtain ⟨fd_total, F_total⟩ := c.def_ 2 (d := d_total) rfl
  have g_total := He.glo_ok X G (c.fact 2 (f := .glo "total") rfl)
  obtain ⟨fd_below, F_below⟩ := c.def_ 3 (d := d_below) rfl
  have g_below := He.glo_ok X G (c.fact 3 (f := .glo "below") rfl)
  obtain ⟨fd_larger, F_larger⟩ := c.def_ 4 (d := d_larger) rfl
  have g_larger := He.glo_ok X G (c.fact 4 (f := .glo "larger") rfl)
  obtain ⟨fd_smaller, F_smaller⟩ := c.def_ 5 (d := d_smaller) rfl
  have g_smaller := He.glo_ok X G (c.fact 5 (f := .glo "smaller") rfl)
  obtain ⟨fd_whole, F_whole⟩ := c.def_ 6 (d := d_whole) rfl
  have g_whole := He.glo_ok X G (c.fact 6 (f := .glo "whole") rfl)
  obtain ⟨fd_shown, F_shown⟩ := c.def_ 7 (d := d_shown) rfl
  have g_shown := He.glo_ok X G (c.fact 7 (f := .glo "shown") rfl)
  obtain ⟨fd_law_is_integer, F_law_is_integer⟩ := c.def_ 8 (d := d_law_is_integer) rfl
  have g_law_is_integer := He.glo_ok X G (c.fact 8 (f := .glo "_law_is_integer") rfl)
  obtain ⟨fd_law_box, F_law_box⟩ := c.def_ 9 (d := d_law_box) rfl
  have g_law_box := He.glo_ok X G (c.fact 9 (f := .glo "_law_box") rfl)
  obtain ⟨fd_law_take, F_law_take⟩ := c.def_ 10 (d := d_law_take) rfl
  have g_law_take := He.glo_ok X G (c.fact 10 (f := .glo "_law_take") rfl)
  obtain ⟨fd_law_divisor, F_law_divisor⟩ := c.def_ 11 (d := d_law_divisor) rfl
  have g_law_divisor := He.glo_ok X G (c.fact 11 (f := .glo "_law_divisor") rfl)
  obtain ⟨fd_law_lowest, F_law_lowest⟩ := c.def_ 12 (d := d_law_lowest) rfl
  have g_law_lowest := He.glo_ok X G (c.fact 12 (f := .glo "_law_lowest") rfl)
  obtain ⟨fd_law_integer, F_law_integer⟩ := c.def_ 13 (d := d_law_integer) rfl
  have g_law_integer := He.glo_ok X G (c.fact 13 (f := .glo "_law_integer") rfl)
  obtain ⟨fd_law_fraction, F_law_fraction⟩ := c.def_ 14 (d := d_law_fraction) rfl
  have g_law_fraction := He.glo_ok X G (c.fact 14 (f := .glo "_law_fraction") rfl)
  obtain ⟨fd_law_is_pair, F_law_is_pair⟩ := c.def_ 15 (d := d_law_is_pair) rfl
  have g_law_is_pair := He.glo_ok X G (c.fact 15 (f := .glo "_law_is_pair") rfl)
  obtain ⟨fd_law_same, F_law_same⟩ := c.def_ 16 (d := d_law_same) rfl
  have g_law_same := He.glo_ok X G (c.fact 16 (f := .glo "_law_same") rfl)
  obtain ⟨fd_law_bound, F_law_bound⟩ := c.def_ 17 (d := d_law_bound) rfl
  have g_law_bound := He.glo_ok X G (c.fact 17 (f := .glo "_law_bound") rfl)
  obtain ⟨fd_law_level, F_law_level⟩ := c.def_ 18 (d := d_law_level) rfl
  have g_law_level := He.glo_ok X G (c.fact 18 (f := .glo "_law_level") rfl)
  obtain ⟨fd_law_is_below, F_law_is_below⟩ := c.def_ 19 (d := d_law_is_below) rfl
  have g_law_is_below := He.glo_ok X G (c.fact 19 (f := .glo "_law_is_below") rfl)
  obtain ⟨fd_law_order_right, F_law_order_right⟩ := c.def_ 20 (d := d_law_order_right) rfl
  have g_law_order_right := He.glo_ok X G (c.fact 20 (f := .glo "_law_order_right") rfl)
  obtain ⟨fd_law_larger, F_law_larger⟩ := c.def_ 21 (d := d_law_larger) rfl
  have g_law_larger := He.glo_ok X G (c.fact 21 (f := .glo "_law_larger") rfl)
  obtain ⟨fd_law_smaller, F_law_smaller⟩ := c.def_ 22 (d := d_law_smaller) rfl
  have g_law_smaller := He.glo_ok X G (c.fact 22 (f := .glo "_law_smaller") rfl)
  obtain ⟨fd_law_total, F_law_total⟩ := c.def_ 23 (d := d_law_total) rfl
  have g_law_total := He.glo_ok X G (c.fact 23 (f := .glo "_law_total") rfl)
  obtain ⟨fd_law_greatest, F_law_greatest⟩ := c.def_ 24 (d := d_law_greatest) rfl
  have g_law_greatest := He.glo_ok X G (c.fact 24 (f := .glo "_law_greatest") rfl)
  obtain ⟨fd_law_least, F_law_least⟩ := c.def_ 25 (d := d_law_least) rfl
  have g_law_least := He.glo_ok X G (c.fact 25 (f := .glo "_law_least") rfl)
  obtain ⟨fd_law_sum, F_law_sum⟩ := c.def_ 26 (d := d_law_sum) rfl
  have g_law_sum := He.glo_ok X G (c.fact 26 (f := .glo "_law_sum") rfl)
  obtain ⟨fd_law_groups_right, F_law_groups_right⟩ := c.def_ 27 (d := d_law_groups_right) rfl
  have g_law_groups_right := He.glo_ok X G (c.fact 27 (f := .glo "_law_groups_right") rfl)
  obtain ⟨fd_law_totals_right, F_law_totals_right⟩ := c.def_ 28 (d := d_law_totals_right) rfl
  have g_law_totals_right := He.glo_ok X G (c.fact 28 (f := .glo "_law_totals_right") rfl)
  obtain ⟨fd_law_whole_right, F_law_whole_right⟩ := c.def_ 29 (d := d_law_whole_right) rfl
  have g_law_whole_right := He.glo_ok X G (c.fact 29 (f := .glo "_law_whole_right") rfl)
  obtain ⟨fd_law_number_read, F_law_number_read⟩ := c.def_ 30 (d := d_law_number_read) rfl
  have g_law_number_read := He.glo_ok X G (c.fact 30 (f := .glo "_law_number_read") rfl)
  obtain ⟨fd_law_bound_read, F_law_bound_read⟩ := c.def_ 31 (d := d_law_bound_read) rfl
  have g_law_bound_read := He.glo_ok X G (c.fact 31 (f := .glo "_law_bound_read") rfl)
  obtain ⟨fd_law, F_law⟩ := c.def_ 32 (d := d_law) rfl
  have g_law := He.glo_ok X G (c.fact 32 (f := .glo "law") rfl)
  obtain ⟨cb, cc⟩ := (Bool.and_eq_true _ _).mp cb
  obtain ⟨v_ENDLESS, k_ENDLESS⟩ := cs_ok X G cc 0 (b := ("ENDLESS", (D.tup [(D.int 1), (D.int 0)]))) rfl
  obtain ⟨v_NOTHING, k_NOTHING⟩ := cs_ok X G cc 1 (b := ("NOTHING", (D.tup [(D.int (-1)), (D.int 0)]))) rfl
  obtain ⟨v_ZERO, k_ZERO⟩ := cs_ok X G cc 2 (b := ("ZERO", (D.tup [(D.int 0), (D.int 1)]))) rfl
  have T : Txt ⟨v_ENDLESS, v_NOTHING, v_ZERO⟩ K mg := ⟨He.free_ok X G (c.fact 33 (f := .free "abs") rfl), He.free_ok X G (c.fact 34 (f := .free "bool") rfl), He.free_ok X G (c.fact 35 (f := .free "int") rfl), He.free_ok X G (c.fact 36 (f := .free "isinstance") rfl), He.free_ok X G (c.fact 37 (f := .free "len") rfl), He.free_ok X G (c.fact 38 (f := .free "max") rfl), He.free_ok X G (c.fact 39 (f := .free "min") rfl), He.free_ok X G (c.fact 40 (f := .free "range") rfl), He.free_ok X G (c.fact 41 (f := .free "str") rfl), He.free_ok X G (c.fact 42 (f := .free "sum") rfl), He.free_ok X G (c.fact 43 (f := .free "tuple") rfl), bf_ok X G cb 0 (b := ("gcd", "math.gcd")) rfl, k_ENDLESS, k_NOTHING, k_ZERO⟩
  have e := hfa.symm.trans g_law
  cases e
  have b := FunD.bindsA (ps := ["_law_script"]) F_law fun _ _ _ _ _ _ us hl => match us, hl with | [_], _ => rfl
  refine ⟨fd_law, fun s v => b s [v] rfl, fun base _ _ => ?_⟩
  have G_fraction := ok_fraction (P := P) (w := w) (base := base) T F_fraction g_fraction
  have G_below := ok_below (P := P) (w := w) (base := base) T F_below g_below
  have G_whole := ok_whole (P := P) (w := w) (base := base) T F_whole g_whole
  have G_shown := ok_shown (P := P) (w := w) (base := base) T F_shown g_shown
  have G_law_is_integer := ok_law_is_integer (P := P) (w := w) (base := base) T F_law_is_integer g_law_is_integer
  have G_law_box := ok_law_box (P := P) (w := w) (base := base) T F_law_box g_law_box
  have G_law_take := ok_law_take (P := P) (w := w) (base := base) T F_law_take g_law_take
  have G_law_divisor := ok_law_divisor (P := P) (w := w) (base := base) T F_law_divisor g_law_divisor
  have G_law_level := ok_law_level (P := P) (w := w) (base := base) T F_law_level g_law_level
  have G_law_number_read := ok_law_number_read (P := P) (w := w) (base := base) T F_law_number_read g_law_number_read
  have G_plus := ok_plus (P := P) (w := w) (base := base) T G_fraction F_plus g_plus
  have G_larger := ok_larger (P := P) (w := w) (base := base) T G_below F_larger g_larger
  have G_smaller := ok_smaller (P := P) (w := w) (base := base) T G_below F_smaller g_smaller
  have G_law_lowest := ok_law_lowest (P := P) (w := w) (base := base) T G_law_divisor F_law_lowest g_law_lowest
  have G_law_integer := ok_law_integer (P := P) (w := w) (base := base) T G_law_take F_law_integer g_law_integer
  have G_law_is_pair := ok_law_is_pair (P := P) (w := w) (base := base) T G_law_is_integer F_law_is_pair g_law_is_pair
  have G_law_is_below := ok_law_is_below (P := P) (w := w) (base := base) T G_law_level F_law_is_below g_law_is_below
  have G_law_bound_read := ok_law_bound_read (P := P) (w := w) (base := base) T G_law_number_read F_law_bound_read g_law_bound_read
  have G_total := ok_total (P := P) (w := w) (base := base) T G_plus F_total g_total
  have G_law_fraction := ok_law_fraction (P := P) (w := w) (base := base) T G_law_integer G_law_lowest F_law_fraction g_law_fraction
  have G_law_same := ok_law_same (P := P) (w := w) (base := base) T G_law_is_pair F_law_same g_law_same
  have G_law_order_right := ok_law_order_right (P := P) (w := w) (base := base) T G_below G_law_is_below F_law_order_right g_law_order_right
  have G_law_larger := ok_law_larger (P := P) (w := w) (base := base) T G_larger F_law_larger g_law_larger
  have G_law_smaller := ok_law_smaller (P := P) (w := w) (base := base) T G_smaller F_law_smaller g_law_smaller
  have G_law_greatest := ok_law_greatest (P := P) (w := w) (base := base) T G_law_is_below F_law_greatest g_law_greatest
  have G_law_least := ok_law_least (P := P) (w := w) (base := base) T G_law_is_below F_law_least g_law_least
  have G_law_sum := ok_law_sum (P := P) (w := w) (base := base) T G_law_lowest F_law_sum g_law_sum
  have G_law_bound := ok_law_bound (P := P) (w := w) (base := base) T G_law_take G_law_fraction G_law_lowest F_law_bound g_law_bound
  have G_law_total := ok_law_total (P := P) (w := w) (base := base) T G_total F_law_total g_law_total
  have G_law_groups_right := ok_law_groups_right (P := P) (w := w) (base := base) T G_law_take G_law_larger G_law_greatest G_law_same G_law_smaller G_law_least F_law_groups_right g_law_groups_right
  have G_law_whole_right := ok_law_whole_right (P := P) (w := w) (base := base) T G_whole G_law_same G_law_is_pair F_law_whole_right g_law_whole_right
  have G_law_totals_right := ok_law_totals_right (P := P) (w := w) (base := base) T G_law_take G_law_total G_law_sum G_law_same F_law_totals_right g_law_totals_right
  exact ok_law T G_law_same G_law_box G_law_bound G_law_order_right G_law_whole_right G_shown G_law_bound_read G_law_groups_right G_law_totals_right F_law
end Qk01
open PySem PySem.W PySem.Calls PyProof.Rows
theorem PySem.Challenge.cw_leaprungs_k01_bounds_in_order_holds : PySem.Challenge.rw_leaprungs_k01_bounds_in_order.Holds := by
  w_on; o_law
  refine HandSHeadRun.head_imp (r := OpenLaw.row PySem.Challenge.rw_leaprungs_k01_bounds_in_order) (q := view (OpenLaw.row PySem.Challenge.rw_leaprungs_k01_bounds_in_order).prog [0, 41]) (H := Qk01.hk_) (ob := Qk01.ob_) (M := 4000) (loose := Qk01.names_) (d := HandSHeadRun.topDef (OpenLaw.row PySem.Challenge.rw_leaprungs_k01_bounds_in_order).prog 41) (kwd := []) Qk01.ob_eq_
    Qk01.run_ (by kernel_rfl) (by kernel_rfl) (by kernel_rfl) (by rfl) (by first | assumption | decide +kernel) (by decide +kernel) ⟨rfl, rfl, rfl, rfl, rfl, by decide +kernel⟩ ?hw ?hc
  case hw => w_witness2
  case hc =>
    refine L2.walk_ofE (l := PySem.Challenge.rw_leaprungs_k01_bounds_in_order) (n := 63) (k := 6) (x := "_law_script") (CX := L2.CX0) rfl (by decide) (by kernel_rfl) ⟨rfl, by decide, by decide⟩ ?F (fun _ _ _ _ z => z)
    intro w mg fa h Y G hmg0
    obtain ⟨K, KX, c, cb⟩ := Y
    have hmg : mg ("law" : PySem.Str) = some (.ref fa) := by
      have e : (HandSHeadRun.topDef (OpenLaw.row PySem.Challenge.rw_leaprungs_k01_bounds_in_order).prog 41).name = ("law" : PySem.Str) := by kernel_rfl
      rw [← e]
      exact hmg0
    obtain ⟨fd, hb, hF⟩ := Qk01.facts_ (P := (PySem.Challenge.rw_leaprungs_k01_bounds_in_order).prog) (w := w) KX G hmg c cb
    exact ⟨K, fd, Z.toSp K Z.SLaw, KX, hb, fun H a ns hl _ hS => Z.law_sp hl hS, hF⟩
