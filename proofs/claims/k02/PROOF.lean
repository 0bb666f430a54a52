import PyProof.Rows.All
import Wide.All
import OpenK.AllK
import Wide.FinOn
import KE.KStateDown
import HandS.ForMost
import HandS.Wide
import HandS.Gcd
import HandS.IsInst
import HandS.Defaults
import HandS.TupAny
import HandS.Zip
import KE.GoesEnum
import HandS.HeadEnd
import HandS.Conv
import HandS.More
import PyProof.ZipIter
import PyProof.CollectWalk
import KE.GoesMore
import KE.GoesZip
import KE.KDictZip
import KE.KStar
import KE.KDictList
import HandS.Star
import HandS.SortRule
import HandS.SortInts
import HandS.SortOrd
import HandS.Head0
import HandS.Head1
import HandS.Head2
import HandS.Head3
import HandS.HeadHook1
import HandS.HeadHook2
import PySem.Challenge.RW_leaprungs_k02_combination_of_rows
set_option Elab.async false
set_option linter.all false
set_option maxRecDepth 100000
set_option maxHeartbeats 4000000
/-! ZBase: a logic of plain data over the hand layer. A slot holds a datum (D), not an address; what was made and does not change any more is frozen in a hidden part of the heap (F),
what may still change stands in a list by its address (Mem). -/
namespace Z
open PySem PySem.Spec PyProof.Rows L2
abbrev Fg := PySem.W.Frag
/-! ### plain data -/
inductive D where
  | non | bl (b : Bool) | int (i : Int) | str (x : Str) | ty (n : String)
  /-- a tuple; a list that does not change any more; a list that is read alone (the script) -/
  | tup (ds : List D) | lst (ds : List D) | scr (ds : List D)
  /-- an instance that does not change any more -/
  | obj (C : Addr) (fs : List (Str × D))
  /-- what stands at a: a thing of Mem, a class, a def -/
  | at (a : Addr)
/-- the datum d lies at v -/
inductive Rp (K : Fg) (F : Hp) : V → D → Prop
  | non : Rp K F .non .non
  | bl (b : Bool) : Rp K F (.bl b) (.bl b)
  | int (i : Int) : Rp K F (.int i) (.int i)
  | str (x : Str) : Rp K F (.str x) (.str x)
  | ty (n : String) : Rp K F (.ty n) (.ty n)
  | tup {a : Addr} {vs : List V} {ds : List D} : SqT K F a vs → vs.length = ds.length → (∀ (i : Nat) (v : V) (d : D), vs[i]? = some v → ds[i]? = some d → Rp K F v d) → Rp K F (.ref a) (.tup ds)
  | lst {a : Addr} {vs : List V} {ds : List D} : F a = some (.lst vs) → vs.length = ds.length → (∀ (i : Nat) (v : V) (d : D), vs[i]? = some v → ds[i]? = some d → Rp K F v d) → Rp K F (.ref a) (.lst ds)
  | scr {a : Addr} {vs : List V} {ds : List D} : SqL K F a vs → vs.length = ds.length → (∀ (i : Nat) (v : V) (d : D), vs[i]? = some v → ds[i]? = some d → Rp K F v d) → Rp K F (.ref a) (.scr ds)
  | obj {a C dx : Addr} {vs : List (Str × V)} {fs : List (Str × D)} : F a = some (.ins C dx vs) → vs.length = fs.length → (∀ (i : Nat) (q : Str × V) (p : Str × D), vs[i]? = some q → fs[i]? = some p → q.1 = p.1) →
      (∀ (i : Nat) (q : Str × V) (p : Str × D), vs[i]? = some q → fs[i]? = some p → Rp K F q.2 p.2) → Rp K F (.ref a) (.obj C fs)
  | at (a : Addr) : Rp K F (.ref a) (.at a)
/-- a row of data -/
structure Rps (K : Fg) (F : Hp) (vs : List V) (ds : List D) : Prop where
  len : vs.length = ds.length
  at_ : ∀ (i : Nat) (v : V) (d : D), vs[i]? = some v → ds[i]? = some d → Rp K F v d
/-- a row of named data -/
structure Rpf (K : Fg) (F : Hp) (vs : List (Str × V)) (ds : List (Str × D)) : Prop where
  len : vs.length = ds.length
  nm : ∀ (i : Nat) (q : Str × V) (p : Str × D), vs[i]? = some q → ds[i]? = some p → q.1 = p.1
  at_ : ∀ (i : Nat) (q : Str × V) (p : Str × D), vs[i]? = some q → ds[i]? = some p → Rp K F q.2 p.2
def Ex (F F' : Hp) : Prop := ∀ a o, F a = some o → F' a = some o
theorem Ex.refl (F : Hp) : Ex F F := fun _ _ h => h
theorem Ex.trans {F F1 F2 : Hp} (a : Ex F F1) (b : Ex F1 F2) : Ex F F2 := fun x o h => b x o (a x o h)
section
variable {K : Fg} {F F' : Hp} {v : V} {d : D} {vs : List V} {ds : List D}
theorem ex_rd {a : Addr} {u : HO} (e : Ex F F') (h : Rd F a u) : Rd F' a u := by
  rcases h with h | ⟨o, h⟩
  · exact .inl (e a _ h)
  · exact .inr ⟨o, e a _ h⟩
theorem ex_l {a : Addr} {xs : List V} (e : Ex F F') (h : SqL K F a xs) : SqL K F' a xs := by
  rcases h with h | h
  · exact .inl (ex_rd e h)
  · exact .inr h
theorem ex_t {a : Addr} {xs : List V} (e : Ex F F') (h : SqT K F a xs) : SqT K F' a xs := by
  rcases h with h | h
  · exact .inl (ex_rd e h)
  · exact .inr h
theorem Rp.mono (e : Ex F F') (h : Rp K F v d) : Rp K F' v d := by
  induction h with
  | non => exact .non
  | bl b => exact .bl b
  | int i => exact .int i
  | str x => exact .str x
  | ty n => exact .ty n
  | tup hs hl _ ih => exact .tup (ex_t e hs) hl ih
  | lst hs hl _ ih => exact .lst (e _ _ hs) hl ih
  | scr hs hl _ ih => exact .scr (ex_l e hs) hl ih
  | obj hs hl hn _ ih => exact .obj (e _ _ hs) hl hn ih
  | «at» a => exact .at a
theorem Rps.mono (e : Ex F F') (h : Rps K F vs ds) : Rps K F' vs ds := ⟨h.len, fun i v d a b => (h.at_ i v d a b).mono e⟩
theorem Rpf.mono {vs : List (Str × V)} {ds : List (Str × D)} (e : Ex F F') (h : Rpf K F vs ds) : Rpf K F' vs ds := ⟨h.len, h.nm, fun i v d a b => (h.at_ i v d a b).mono e⟩
theorem Rps.nil : Rps K F [] [] := ⟨rfl, fun i v d h _ => by simp at h⟩
theorem Rps.cons (h : Rp K F v d) (t : Rps K F vs ds) : Rps K F (v :: vs) (d :: ds) := ⟨by rw [List.length_cons, List.length_cons, t.len], fun i x y a b => by
  cases i with
  | zero =>
    rw [List.getElem?_cons_zero] at a b
    cases a
    cases b
    exact h
  | succ i =>
    rw [List.getElem?_cons_succ] at a b
    exact t.at_ i x y a b⟩
theorem Rps.append {vs' : List V} {ds' : List D} (a : Rps K F vs ds) (b : Rps K F vs' ds') : Rps K F (vs ++ vs') (ds ++ ds') := ⟨by rw [List.length_append, List.length_append, a.len, b.len], fun i x y p q => by
  by_cases h : i < vs.length
  · rw [List.getElem?_append_left h] at p
    rw [List.getElem?_append_left (by rw [← a.len]; exact h)] at q
    exact a.at_ i x y p q
  · have h' : vs.length ≤ i := Nat.le_of_not_lt h
    rw [List.getElem?_append_right h'] at p
    rw [List.getElem?_append_right (by rw [← a.len]; exact h'), ← a.len] at q
    exact b.at_ _ x y p q⟩
theorem Rps.one (h : Rp K F v d) : Rps K F [v] [d] := .cons h .nil
theorem Rps.get (h : Rps K F vs ds) {i : Nat} {d : D} (e : ds[i]? = some d) : ∃ v, vs[i]? = some v ∧ Rp K F v d := by
  have hi : i < vs.length := by rw [h.len]; exact (List.getElem?_eq_some_iff.mp e).1
  exact ⟨vs[i], List.getElem?_eq_getElem hi, h.at_ i _ d (List.getElem?_eq_getElem hi) e⟩
theorem Rps.getV (h : Rps K F vs ds) {i : Nat} {v : V} (e : vs[i]? = some v) : ∃ d, ds[i]? = some d ∧ Rp K F v d := by
  have hi : i < ds.length := by rw [← h.len]; exact (List.getElem?_eq_some_iff.mp e).1
  exact ⟨ds[i], List.getElem?_eq_getElem hi, h.at_ i v _ e (List.getElem?_eq_getElem hi)⟩
theorem Rps.uncons (h : Rps K F vs (d :: ds)) : ∃ v vs', vs = v :: vs' ∧ Rp K F v d ∧ Rps K F vs' ds := by
  cases vs with
  | nil => exact absurd h.len (by simp)
  | cons v vs' =>
    refine ⟨v, vs', rfl, h.at_ 0 v d rfl rfl, ⟨by simpa using h.len, fun i x y a b => h.at_ (i + 1) x y (by simpa using a) (by simpa using b)⟩⟩
theorem Rps.unnil (h : Rps K F vs []) : vs = [] := List.eq_nil_of_length_eq_zero h.len
theorem Rps.take (h : Rps K F vs ds) (n : Nat) : Rps K F (vs.take n) (ds.take n) := ⟨by rw [List.length_take, List.length_take, h.len], fun i x y a b => by
  by_cases hi : i < n
  · rw [List.getElem?_take_of_lt hi] at a b
    exact h.at_ i x y a b
  · rw [List.getElem?_eq_none (by rw [List.length_take]; omega)] at a
    cases a⟩
theorem Rps.drop (h : Rps K F vs ds) (n : Nat) : Rps K F (vs.drop n) (ds.drop n) := ⟨by rw [List.length_drop, List.length_drop, h.len], fun i x y a b => by
  rw [List.getElem?_drop] at a b
  exact h.at_ _ x y a b⟩
theorem Rps.set (h : Rps K F vs ds) (i : Nat) (hv : Rp K F v d) : Rps K F (vs.set i v) (ds.set i d) := ⟨by rw [List.length_set, List.length_set, h.len], fun j x y a b => by
  by_cases hj : i = j
  · subst hj
    by_cases hl : i < vs.length
    · rw [List.getElem?_set_self hl] at a
      rw [List.getElem?_set_self (by rw [← h.len]; exact hl)] at b
      cases a
      cases b
      exact hv
    · rw [List.getElem?_eq_none (by rw [List.length_set]; omega)] at a
      cases a
  · rw [List.getElem?_set_ne hj] at a b
    exact h.at_ j x y a b⟩
theorem Rps.reverse (h : Rps K F vs ds) : Rps K F vs.reverse ds.reverse := ⟨by rw [List.length_reverse, List.length_reverse, h.len], fun i x y a b => by
  by_cases hi : i < vs.length
  · rw [List.getElem?_reverse hi] at a
    rw [List.getElem?_reverse (by rw [← h.len]; exact hi), ← h.len] at b
    exact h.at_ _ x y a b
  · rw [List.getElem?_eq_none (by rw [List.length_reverse]; omega)] at a
    cases a⟩
theorem Rps.dropLast (h : Rps K F vs ds) : Rps K F vs.dropLast ds.dropLast := by
  rw [List.dropLast_eq_take, List.dropLast_eq_take, h.len]
  exact h.take _
theorem Rps.eraseIdx (h : Rps K F vs ds) (n : Nat) : Rps K F (vs.eraseIdx n) (ds.eraseIdx n) := by
  rw [List.eraseIdx_eq_take_drop_succ, List.eraseIdx_eq_take_drop_succ]
  exact (h.take n).append (h.drop (n + 1))
theorem Rps.of_map {α : Type} {xs : List α} {f : α → V} {g : α → D} (h : ∀ x ∈ xs, Rp K F (f x) (g x)) : Rps K F (xs.map f) (xs.map g) := ⟨by rw [List.length_map, List.length_map], fun i v d a b => by
  rw [List.getElem?_map] at a b
  cases e : xs[i]? with
  | none =>
    rw [e] at a
    cases a
  | some x =>
    rw [e] at a b
    cases a
    cases b
    exact h x (List.mem_of_getElem? e)⟩
/-! inversions -/
theorem Rp.of_int {i : Int} (h : Rp K F v (.int i)) : v = .int i := by cases h; rfl
theorem Rp.of_bl {b : Bool} (h : Rp K F v (.bl b)) : v = .bl b := by cases h; rfl
theorem Rp.of_str {x : Str} (h : Rp K F v (.str x)) : v = .str x := by cases h; rfl
theorem Rp.of_ty {x : String} (h : Rp K F v (.ty x)) : v = .ty x := by cases h; rfl
theorem Rp.of_non (h : Rp K F v .non) : v = .non := by cases h; rfl
theorem Rp.of_at {a : Addr} (h : Rp K F v (.at a)) : v = .ref a := by cases h; rfl
theorem Rp.of_tup (h : Rp K F v (.tup ds)) : ∃ a vs, v = .ref a ∧ SqT K F a vs ∧ Rps K F vs ds := by
  cases h with
  | tup hs hl ha => exact ⟨_, _, rfl, hs, hl, ha⟩
theorem Rp.of_lst (h : Rp K F v (.lst ds)) : ∃ a vs, v = .ref a ∧ F a = some (.lst vs) ∧ Rps K F vs ds := by
  cases h with
  | lst hs hl ha => exact ⟨_, _, rfl, hs, hl, ha⟩
theorem Rp.of_scr (h : Rp K F v (.scr ds)) : ∃ a vs, v = .ref a ∧ SqL K F a vs ∧ Rps K F vs ds := by
  cases h with
  | scr hs hl ha => exact ⟨_, _, rfl, hs, hl, ha⟩
theorem Rp.of_obj {C : Addr} {fs : List (Str × D)} (h : Rp K F v (.obj C fs)) : ∃ a dx vs, v = .ref a ∧ F a = some (.ins C dx vs) ∧ Rpf K F vs fs := by
  cases h with
  | obj hs hl hn ha => exact ⟨_, _, _, rfl, hs, hl, hn, ha⟩
theorem Rp.mk_tup {a : Addr} (h : SqT K F a vs) (r : Rps K F vs ds) : Rp K F (.ref a) (.tup ds) := .tup h r.len r.at_
theorem Rp.mk_lst {a : Addr} (h : F a = some (.lst vs)) (r : Rps K F vs ds) : Rp K F (.ref a) (.lst ds) := .lst h r.len r.at_
theorem Rp.mk_scr {a : Addr} (h : SqL K F a vs) (r : Rps K F vs ds) : Rp K F (.ref a) (.scr ds) := .scr h r.len r.at_
end
/-! ### what may change -/
inductive MO where
  | lst (ds : List D) | ins (C : Addr) (fs : List (Str × D)) | dK (kvs : List (Key × D))
abbrev Mem := List (Addr × MO)
def MoOk (K : Fg) (F H : Hp) (a : Addr) : MO → Prop
  | .lst ds => ∃ vs, H a = some (.lst vs) ∧ Rps K F vs ds
  | .ins C fs => ∃ dx vs, H a = some (.ins C dx vs) ∧ Rpf K F vs fs
  | .dK kvs => ∃ ws : List (Key × V), H a = some (.dK ws) ∧ ws.map (·.1) = kvs.map (·.1) ∧ Rps K F (ws.map (·.2)) (kvs.map (·.2))
structure Lay (K : Fg) (F : Hp) (M : Mem) (H : Hp) : Prop where
  fr : ∀ a o, F a = some o → H a = some o
  nd : (M.map (·.1)).Nodup
  ap : ∀ p ∈ M, F p.1 = none
  mu : ∀ p ∈ M, MoOk K F H p.1 p.2
section
variable {K : Fg} {F F' H H' : Hp} {M : Mem} {a p : Addr} {mo mo' : MO} {o : HO}
theorem MoOk.mono (e : Ex F F') (h : H' a = H a) (x : MoOk K F H a mo) : MoOk K F' H' a mo := by
  cases mo with
  | lst ds =>
    obtain ⟨vs, q, r⟩ := x
    exact ⟨vs, h.trans q, r.mono e⟩
  | ins C fs =>
    obtain ⟨dx, vs, q, r⟩ := x
    exact ⟨dx, vs, h.trans q, r.mono e⟩
  | dK kvs =>
    obtain ⟨ws, q, e1, r⟩ := x
    exact ⟨ws, h.trans q, e1, r.mono e⟩
theorem MoOk.there (x : MoOk K F H a mo) : ∃ o, H a = some o := by
  cases mo with
  | lst ds =>
    obtain ⟨vs, q, r⟩ := x
    exact ⟨_, q⟩
  | ins C fs =>
    obtain ⟨dx, vs, q, r⟩ := x
    exact ⟨_, q⟩
  | dK kvs =>
    obtain ⟨ws, q, _⟩ := x
    exact ⟨_, q⟩
theorem Lay.free (L : Lay K F M H) (h : H p = none) : F p = none := by
  cases e : F p with
  | none => rfl
  | some o =>
    rw [L.fr p o e] at h
    cases h
theorem Lay.notin (L : Lay K F M H) (h : H p = none) : p ∉ M.map (·.1) := fun hm => by
  obtain ⟨q, hq, rfl⟩ := List.mem_map.mp hm
  obtain ⟨o, e⟩ := (L.mu q hq).there
  rw [e] at h
  cases h
theorem ex_upd (h : F p = none) : Ex F (upd F p o) := fun a u e => by
  rw [upd_ne (ne_of_none e h)]
  exact e
/-- the heap has grown, all else stands -/
theorem Lay.grow (L : Lay K F M H) (h : ∀ a o, H a = some o → H' a = some o) : Lay K F M H' where
  fr := fun a o e => h a o (L.fr a o e)
  nd := L.nd
  ap := L.ap
  mu := fun q hq => by
    obtain ⟨o, e⟩ := (L.mu q hq).there
    exact (L.mu q hq).mono (Ex.refl F) (by rw [e, h _ _ e])
/-- a new thing that will not change -/
theorem Lay.new (L : Lay K F M H) (h : H p = none) : Lay K (upd F p o) M (upd H p o) where
  fr := fun a u e => by
    by_cases ha : a = p
    · subst ha
      rw [upd_same] at e ⊢
      exact e
    · rw [upd_ne ha] at e ⊢
      exact L.fr a u e
  nd := L.nd
  ap := fun q hq => by
    obtain ⟨u, e⟩ := (L.mu q hq).there
    rw [upd_ne (ne_of_none e h)]
    exact L.ap q hq
  mu := fun q hq => by
    obtain ⟨u, e⟩ := (L.mu q hq).there
    exact (L.mu q hq).mono (ex_upd (L.free h)) (upd_ne (ne_of_none e h))
/-- a new thing that may change -/
theorem Lay.newM (L : Lay K F M H) (h : H p = none) (m : MoOk K F (upd H p o) p mo) : Lay K F ((p, mo) :: M) (upd H p o) where
  fr := fun a u e => by
    rw [upd_ne (fun z => by rw [z, L.free h] at e; cases e)]
    exact L.fr a u e
  nd := List.nodup_cons.mpr ⟨L.notin h, L.nd⟩
  ap := fun q hq => by
    rcases List.mem_cons.mp hq with rfl | hq
    · exact L.free h
    · exact L.ap q hq
  mu := fun q hq => by
    rcases List.mem_cons.mp hq with rfl | hq
    · exact m
    · obtain ⟨u, e⟩ := (L.mu q hq).there
      exact (L.mu q hq).mono (Ex.refl F) (upd_ne (ne_of_none e h))
theorem nodup_at {M : Mem} (hN : (M.map (·.1)).Nodup) {i j : Nat} {p q : Addr × MO} (a : M[i]? = some p) (b : M[j]? = some q) (e : p.1 = q.1) : i = j := by
  refine nd_ix hN (x := p.1) (by rw [List.getElem?_map, a]; rfl) ?_
  rw [List.getElem?_map, b, e]
  rfl
/-- a thing changes -/
theorem Lay.set (L : Lay K F M H) {i : Nat} (hi : M[i]? = some (p, mo)) (m : MoOk K F (upd H p o) p mo') : Lay K F (M.set i (p, mo')) (upd H p o) where
  fr := fun a u e => by
    rw [upd_ne (fun z => by rw [z, L.ap _ (List.mem_of_getElem? hi)] at e; cases e)]
    exact L.fr a u e
  nd := by
    have e : (M.set i (p, mo')).map (·.1) = M.map (·.1) := by
      rw [List.map_set]
      apply List.ext_getElem?
      intro j
      by_cases hj : i = j
      · subst hj
        have hl : i < (M.map (·.1)).length := by
          rw [List.length_map]
          exact (List.getElem?_eq_some_iff.mp hi).1
        rw [List.getElem?_set_self hl, List.getElem?_map, hi]
        rfl
      · rw [List.getElem?_set_ne hj]
    rw [e]
    exact L.nd
  ap := fun q hq => by
    rcases List.mem_or_eq_of_mem_set hq with hq | rfl
    · exact L.ap q hq
    · exact L.ap (p, mo) (List.mem_of_getElem? hi)
  mu := fun q hq => by
    obtain ⟨j, hj⟩ := List.mem_iff_getElem?.mp hq
    by_cases hij : i = j
    · subst hij
      rw [List.getElem?_set_self (List.getElem?_eq_some_iff.mp hi).1] at hj
      cases hj
      exact m
    · rw [List.getElem?_set_ne hij] at hj
      refine (L.mu q (List.mem_of_getElem? hj)).mono (Ex.refl F) (upd_ne fun z => hij ?_)
      exact nodup_at L.nd hi hj z.symm
/-- a thing is forgotten -/
theorem Lay.drop (L : Lay K F M H) (i : Nat) : Lay K F (M.eraseIdx i) H where
  fr := L.fr
  nd := by
    have h := L.nd.sublist ((List.eraseIdx_sublist M i).map (·.1))
    exact h
  ap := fun q hq => L.ap q (List.mem_of_mem_eraseIdx hq)
  mu := fun q hq => L.mu q (List.mem_of_mem_eraseIdx hq)
/-- a thing changes no more -/
theorem Lay.frz (L : Lay K F M H) {i : Nat} (hi : M[i]? = some (p, mo)) (hp : H p = some o) : Lay K (upd F p o) (M.eraseIdx i) H ∧ Ex F (upd F p o) := by
  have hF := L.ap _ (List.mem_of_getElem? hi)
  have ex : Ex F (upd F p o) := ex_upd hF
  refine ⟨⟨fun a u e => ?_, (L.drop i).nd, fun q hq => ?_, fun q hq => ((L.drop i).mu q hq).mono ex rfl⟩, ex⟩
  · by_cases ha : a = p
    · subst ha
      rw [upd_same] at e
      rw [← e]
      exact hp
    · rw [upd_ne ha] at e
      exact L.fr a u e
  · rw [upd_ne]
    · exact (L.drop i).ap q hq
    · intro z
      obtain ⟨j, hj⟩ := List.mem_iff_getElem?.mp hq
      rw [List.getElem?_eraseIdx] at hj
      split at hj
      · have := nodup_at L.nd hi hj z.symm
        omega
      · have := nodup_at L.nd hi hj z.symm
        omega
theorem Lay.at_ (L : Lay K F M H) {i : Nat} (hi : M[i]? = some (p, mo)) : MoOk K F H p mo := L.mu _ (List.mem_of_getElem? hi)
end
/-! ### slots -/
abbrev Gm := List (Option D)
structure Has (K : Fg) (F : Hp) (σ : L2.St) (Γ : Gm) : Prop where
  len : σ.length = Γ.length
  at_ : ∀ (i : Nat) (d : D), Γ[i]? = some (some d) → ∃ v, σ[i]? = some (some v) ∧ Rp K F v d
theorem Has.mono {K : Fg} {F F' : Hp} {σ : L2.St} {Γ : Gm} (e : Ex F F') (h : Has K F σ Γ) : Has K F' σ Γ := ⟨h.len, fun i d q => by
  obtain ⟨v, a, b⟩ := h.at_ i d q
  exact ⟨v, a, b.mono e⟩⟩
theorem Has.set {K : Fg} {F : Hp} {σ : L2.St} {Γ : Gm} {v : V} {d : D} (h : Has K F σ Γ) (i : Nat) (r : Rp K F v d) : Has K F (σ.set i (some v)) (Γ.set i (some d)) := ⟨by rw [List.length_set, List.length_set, h.len], fun j x q => by
  by_cases hj : i = j
  · subst hj
    by_cases hl : i < Γ.length
    · rw [List.getElem?_set_self hl] at q
      cases q
      exact ⟨v, List.getElem?_set_self (by rw [h.len]; exact hl), r⟩
    · rw [List.getElem?_eq_none (by rw [List.length_set]; omega)] at q
      cases q
  · rw [List.getElem?_set_ne hj] at q ⊢
    exact h.at_ j x q⟩
/-- a slot's datum told otherwise, or forgotten -/
theorem Has.weak {K : Fg} {F : Hp} {σ : L2.St} {Γ Γ' : Gm} (h : Has K F σ Γ) (hl : Γ'.length = Γ.length) (w : ∀ (i : Nat) (d : D), Γ'[i]? = some (some d) → ∃ d0, Γ[i]? = some (some d0) ∧ ∀ v, Rp K F v d0 → Rp K F v d) : Has K F σ Γ' := ⟨h.len.trans hl.symm, fun i d q => by
  obtain ⟨d0, a, b⟩ := w i d q
  obtain ⟨v, c, e⟩ := h.at_ i d0 a
  exact ⟨v, c, b v e⟩⟩
def zwipe (Γ : Gm) : List Nat → Gm
  | [] => Γ
  | v :: vs => (zwipe Γ vs).set v none
theorem Has.unset {K : Fg} {F : Hp} {σ : L2.St} {Γ : Gm} (h : Has K F σ Γ) (i : Nat) : Has K F (σ.set i none) (Γ.set i none) := ⟨by rw [List.length_set, List.length_set, h.len], fun j x q => by
  by_cases hj : i = j
  · subst hj
    by_cases hl : i < Γ.length
    · rw [List.getElem?_set_self hl] at q
      cases q
    · rw [List.getElem?_eq_none (by rw [List.length_set]; omega)] at q
      cases q
  · rw [List.getElem?_set_ne hj] at q ⊢
    exact h.at_ j x q⟩
theorem Has.wipe {K : Fg} {F : Hp} {σ : L2.St} {Γ : Gm} (h : Has K F σ Γ) : ∀ vs : List Nat, Has K F (L2.wipe σ vs) (zwipe Γ vs)
  | [] => h
  | v :: vs => (h.wipe vs).unset v
/-! ### judgements over readings -/
/-- the text's written part; what is wanted of an exception, in the layer's words and of data -/
structure Cz where
  K : Fg
  W : Value → Option Addr → L2.St → Hp → Prop := fun _ _ _ _ => False
  ke : Value → Option (List (Str × D)) → Gm → Mem → Prop := fun _ _ _ _ => False
/-- an exception's own fields lie at d -/
def XfOk (K : Fg) (F H : Hp) (d : Option Addr) : Option (List (Str × D)) → Prop
  | none => d = none
  | some fs => ∃ dd vs, d = some dd ∧ H dd = some (.xd vs) ∧ Rpf K F vs fs
variable {c : Cz}
def XOk (c : Cz) (R : Mem) (F : Hp) : Prop := ∀ (cls : Value) (d : Option Addr) (F' : Hp) (σ' : L2.St) (H' : Hp) (Γ' : Gm) (M' : Mem) (fs : Option (List (Str × D))), Ex F F' → Has c.K F' σ' Γ' → Lay c.K F' (M' ++ R) H' → XfOk c.K F' H' d fs → c.ke cls fs Γ' M' → c.W cls d σ' H'
def KOk {α β : Type} (rel : Hp → β → α → Prop) (K : Fg) (R : Mem) (F : Hp) (k : α → Mem → Prop) (Q : β → Hp → Prop) : Prop := ∀ (v : β) (F' H' : Hp) (M' : Mem) (d : α), Ex F F' → Lay K F' (M' ++ R) H' → rel F' v d → k d M' → Q v H'
abbrev EOk (K : Fg) := KOk (fun F v d => Rp K F v d) K
abbrev AOk (K : Fg) := KOk (fun F v d => Rps K F v d) K
abbrev TOk (K : Fg) := KOk (fun _ (b : Bool) b' => b = b') K
abbrev GOk (K : Fg) := KOk (fun F σ Γ => Has K F σ Γ) K
theorem KOk.mono {α β : Type} {rel : Hp → β → α → Prop} {K : Fg} {R : Mem} {F F' : Hp} {k : α → Mem → Prop} {Q : β → Hp → Prop} (e : Ex F F') (h : KOk rel K R F k Q) : KOk rel K R F' k Q := fun v F1 H1 M1 d e1 => h v F1 H1 M1 d (e.trans e1)
theorem XOk.mono {R : Mem} {F F' : Hp} (e : Ex F F') (h : XOk c R F) : XOk c R F' := fun cls d F1 σ' H' Γ' M' fs e1 => h cls d F1 σ' H' Γ' M' fs (e.trans e1)
def ZE (c : Cz) (t : TE) (Γ : Gm) (M : Mem) (k : D → Mem → Prop) : Prop :=
  ∀ (R : Mem) (F : Hp) (σ : L2.St) (H : Hp) (Q : VK), Has c.K F σ Γ → Lay c.K F (M ++ R) H → XOk c R F → EOk c.K R F k Q → t σ H Q
def ZA (c : Cz) (t : TA) (Γ : Gm) (M : Mem) (k : List D → Mem → Prop) : Prop :=
  ∀ (R : Mem) (F : Hp) (σ : L2.St) (H : Hp) (Q : List V → Hp → Prop), Has c.K F σ Γ → Lay c.K F (M ++ R) H → XOk c R F → AOk c.K R F k Q → t σ H Q
def ZT (c : Cz) (t : TT) (Γ : Gm) (M : Mem) (k : Bool → Mem → Prop) : Prop :=
  ∀ (R : Mem) (F : Hp) (σ : L2.St) (H : Hp) (Q : Bool → Hp → Prop), Has c.K F σ Γ → Lay c.K F (M ++ R) H → XOk c R F → TOk c.K R F k Q → t σ H Q
/-- a target takes d -/
def ZG (c : Cz) (g : TG) (d : D) (Γ : Gm) (M : Mem) (k : Gm → Mem → Prop) : Prop :=
  ∀ (R : Mem) (F : Hp) (σ : L2.St) (H : Hp) (v : V) (Q : L2.St → Hp → Prop), Has c.K F σ Γ → Lay c.K F (M ++ R) H → XOk c R F → Rp c.K F v d → GOk c.K R F k Q → g v σ H Q
def ZGs (c : Cz) (g : TGs) (ds : List D) (Γ : Gm) (M : Mem) (k : Gm → Mem → Prop) : Prop :=
  ∀ (R : Mem) (F : Hp) (σ : L2.St) (H : Hp) (vs : List V) (Q : L2.St → Hp → Prop), Has c.K F σ Γ → Lay c.K F (M ++ R) H → XOk c R F → Rps c.K F vs ds → GOk c.K R F k Q → g vs σ H Q
structure ZEnds where
  nx : Gm → Mem → Prop
  rt : D → Mem → Prop
  bk : Gm → Mem → Prop := fun _ _ => False
  ct : Gm → Mem → Prop := fun _ _ => False
structure DOk (K : Fg) (R : Mem) (F : Hp) (DD : ZEnds) (D : Ends) : Prop where
  nx : GOk K R F DD.nx D.nx
  rt : EOk K R F DD.rt D.rt
  bk : GOk K R F DD.bk D.bk
  ct : GOk K R F DD.ct D.ct
theorem DOk.mono {K : Fg} {R : Mem} {F F' : Hp} {DD : ZEnds} {D : Ends} (e : Ex F F') (h : DOk K R F DD D) : DOk K R F' DD D := ⟨h.nx.mono e, h.rt.mono e, h.bk.mono e, h.ct.mono e⟩
def ZS (c : Cz) (t : TS) (Γ : Gm) (M : Mem) (DD : ZEnds) : Prop :=
  ∀ (R : Mem) (F : Hp) (σ : L2.St) (H : Hp) (D : Ends), Has c.K F σ Γ → Lay c.K F (M ++ R) H → XOk c R F → DOk c.K R F DD D → t D σ H
/-- an iterator that walks ds -/
def Walks (K : Fg) (F : Hp) (J : It) (ds : List D) : Prop := ∀ (F1 : Hp) (M1 : Mem) (H1 : Hp), Ex F F1 → Lay K F1 M1 H1 →
  (∀ i, i < ds.length → J.go i H1) ∧ (∀ i, ds.length ≤ i → J.stop i H1) ∧ ∀ (i : Nat) (d : D) (x : V) (H2 : Hp), ds[i]? = some d → J.yld i H1 x H2 → ∃ F2, Ex F1 F2 ∧ Lay K F2 M1 H2 ∧ Rp K F2 x d
def ZI (c : Cz) (w : TI) (Γ : Gm) (M : Mem) (k : List D → Mem → Prop) : Prop :=
  ∀ (R : Mem) (F : Hp) (σ : L2.St) (H : Hp) (Q : It → Hp → Prop), Has c.K F σ Γ → Lay c.K F (M ++ R) H → XOk c R F → (∀ (J : It) (F' H' : Hp) (M' : Mem) (ds : List D), Ex F F' → Lay c.K F' (M' ++ R) H' → Walks c.K F' J ds → k ds M' → Q J H') → w σ H Q
/-! ### rules of every kind -/
section
variable {Γ : Gm} {M : Mem} {k : D → Mem → Prop} {ta tb : TE} {DD : ZEnds}
theorem z_var {i : Nat} {d : D} (h : Γ[i]? = some (some d)) (hk : k d M) : ZE c (tVar i) Γ M k := fun R F σ H Q hs L _ q => by
  obtain ⟨v, e, r⟩ := hs.at_ i d h
  exact ⟨v, e, q v F H M d (Ex.refl F) L r hk⟩
theorem z_glb {v : V} {d : D} (h : ∀ F, Rp c.K F v d) (hk : k d M) : ZE c (tC v) Γ M k := fun R F σ H Q hs L _ q => q v F H M d (Ex.refl F) L (h F) hk
theorem z_int {i : Int} (hk : k (.int i) M) : ZE c (tC (.int i)) Γ M k := z_glb (fun _ => .int i) hk
theorem z_bl {i : Bool} (hk : k (.bl i) M) : ZE c (tC (.bl i)) Γ M k := z_glb (fun _ => .bl i) hk
theorem z_non (hk : k .non M) : ZE c (tC .non) Γ M k := z_glb (fun _ => .non) hk
theorem z_str {x : Str} (hk : k (.str x) M) : ZE c (tC (.str x)) Γ M k := z_glb (fun _ => .str x) hk
theorem z_ty {x : String} (hk : k (.ty x) M) : ZE c (tC (.ty x)) Γ M k := z_glb (fun _ => .ty x) hk
theorem z_at {a : Addr} (hk : k (.at a) M) : ZE c (tC (.ref a)) Γ M k := z_glb (fun _ => .at a) hk
/-- weaken the end -/
theorem ZE.imp {k' : D → Mem → Prop} (h : ZE c ta Γ M k) (i : ∀ d M', k d M' → k' d M') : ZE c ta Γ M k' := fun R F σ H Q hs L X q => h R F σ H Q hs L X fun v F' H' M' d e L' r kk => q v F' H' M' d e L' r (i d M' kk)
theorem ZA.imp {ta : TA} {k k' : List D → Mem → Prop} (h : ZA c ta Γ M k) (i : ∀ d M', k d M' → k' d M') : ZA c ta Γ M k' := fun R F σ H Q hs L X q => h R F σ H Q hs L X fun v F' H' M' d e L' r kk => q v F' H' M' d e L' r (i d M' kk)
theorem ZT.imp {ta : TT} {k k' : Bool → Mem → Prop} (h : ZT c ta Γ M k) (i : ∀ d M', k d M' → k' d M') : ZT c ta Γ M k' := fun R F σ H Q hs L X q => h R F σ H Q hs L X fun v F' H' M' d e L' r kk => q v F' H' M' d e L' r (i d M' kk)
/-- two operands, then an operation on values -/
def ZR (c : Cz) (r : R2) (x y : D) (M : Mem) (k : D → Mem → Prop) : Prop := ∀ (R : Mem) (F H : Hp) (v w : V) (Q : VK), Lay c.K F (M ++ R) H → Rp c.K F v x → Rp c.K F w y → EOk c.K R F k Q → r v w H Q
theorem z_op {r : R2} (h : ZE c ta Γ M fun x M1 => ZE c tb Γ M1 fun y M2 => ZR c r x y M2 k) : ZE c (tOp r ta tb) Γ M k := fun R F σ H Q hs L X q =>
  h R F σ H _ hs L X fun v F1 H1 M1 x e1 L1 r1 h1 => h1 R F1 σ H1 _ (hs.mono e1) L1 (X.mono e1) fun w F2 H2 M2 y e2 L2 r2 h2 => h2 R F2 H2 v w Q L2 (r1.mono e2) r2 (q.mono (e1.trans e2))
def ZU (c : Cz) (r : V → Hp → VK → Prop) (x : D) (M : Mem) (k : D → Mem → Prop) : Prop := ∀ (R : Mem) (F H : Hp) (v : V) (Q : VK), Lay c.K F (M ++ R) H → Rp c.K F v x → EOk c.K R F k Q → r v H Q
theorem z_un {r : V → Hp → VK → Prop} (h : ZE c ta Γ M fun x M1 => ZU c r x M1 k) : ZE c (tUn r ta) Γ M k := fun R F σ H Q hs L X q =>
  h R F σ H _ hs L X fun v F1 H1 M1 x e1 L1 r1 h1 => h1 R F1 H1 v Q L1 r1 (q.mono e1)
/-- arguments -/
theorem za_nil {k : List D → Mem → Prop} (hk : k [] M) : ZA c tNil Γ M k := fun R F σ H Q hs L _ q => q [] F H M [] (Ex.refl F) L .nil hk
theorem za_cons {tr : TA} {k : List D → Mem → Prop} (h : ZE c ta Γ M fun x M1 => ZA c tr Γ M1 fun xs M2 => k (x :: xs) M2) : ZA c (tCons ta tr) Γ M k := fun R F σ H Q hs L X q =>
  h R F σ H _ hs L X fun v F1 H1 M1 x e1 L1 r1 h1 => h1 R F1 σ H1 _ (hs.mono e1) L1 (X.mono e1) fun ws F2 H2 M2 xs e2 L2 r2 h2 => q (v :: ws) F2 H2 M2 (x :: xs) (e1.trans e2) L2 (.cons (r1.mono e2) r2) h2
/-- a call on values (a built-in) -/
def ZC (c : Cz) (r : List V → Hp → VK → Prop) (ds : List D) (M : Mem) (k : D → Mem → Prop) : Prop := ∀ (R : Mem) (F H : Hp) (vs : List V) (Q : VK), Lay c.K F (M ++ R) H → Rps c.K F vs ds → EOk c.K R F k Q → r vs H Q
theorem z_cb {r : List V → Hp → VK → Prop} {ta : TA} (h : ZA c ta Γ M fun ds M1 => ZC c r ds M1 k) : ZE c (tCB r ta) Γ M k := fun R F σ H Q hs L X q =>
  h R F σ H _ hs L X fun vs F1 H1 M1 ds e1 L1 r1 h1 => h1 R F1 H1 vs Q L1 r1 (q.mono e1)
/-- displays -/
theorem z_tup {ta : TA} (h : ZA c ta Γ M fun ds M1 => ds.length ≤ sizeLine ∧ k (.tup ds) M1) : ZE c (tTup ta) Γ M k := fun R F σ H Q hs L X q =>
  h R F σ H _ hs L X fun vs F1 H1 M1 ds e1 L1 r1 ⟨hl, hk⟩ => ⟨by rw [r1.len]; exact hl, fun p hp => q (.ref p) (upd F1 p (.tup vs)) _ M1 (.tup ds) (e1.trans (ex_upd (L1.free hp))) (L1.new hp) (.mk_tup (SqT.of upd_same) (r1.mono (ex_upd (L1.free hp)))) hk⟩
theorem z_lst {ta : TA} (h : ZA c ta Γ M fun ds M1 => ds.length ≤ sizeLine ∧ k (.lst ds) M1) : ZE c (tLst ta) Γ M k := fun R F σ H Q hs L X q =>
  h R F σ H _ hs L X fun vs F1 H1 M1 ds e1 L1 r1 ⟨hl, hk⟩ => ⟨by rw [r1.len]; exact hl, fun p hp => q (.ref p) (upd F1 p (.lst vs)) _ M1 (.lst ds) (e1.trans (ex_upd (L1.free hp))) (L1.new hp) (.mk_lst upd_same (r1.mono (ex_upd (L1.free hp)))) hk⟩
/-- a list that may change -/
def mk (t : TE) : TE := t
theorem z_lstM {ta : TA} (h : ZA c ta Γ M fun ds M1 => ds.length ≤ sizeLine ∧ ∀ p, k (.at p) ((p, .lst ds) :: M1)) : ZE c (mk (tLst ta)) Γ M k := fun R F σ H Q hs L X q =>
  h R F σ H _ hs L X fun vs F1 H1 M1 ds e1 L1 r1 ⟨hl, hk⟩ => ⟨by rw [r1.len]; exact hl, fun p hp => q (.ref p) F1 _ ((p, .lst ds) :: M1) (.at p) e1 (L1.newM hp ⟨vs, upd_same, r1⟩) (.at p) (hk p)⟩
/-- a list that may change made of a frozen one is not to be had; a changing one is frozen where it is handed on -/
def FrzK (k : D → Mem → Prop) (d : D) (M : Mem) : Prop := match d, M with
  | .at a, (b, .lst ds) :: M1 => a = b ∧ k (.lst ds) M1
  | _, _ => False
def fz (t : TE) : TE := t
theorem z_fz (h : ZE c ta Γ M (FrzK k)) : ZE c (fz ta) Γ M k := fun R F σ H Q hs L X q =>
  h R F σ H Q hs L X fun v F1 H1 M1 d e1 L1 r1 h1 => by
    cases d with
    | «at» a =>
      cases M1 with
      | nil => exact h1.elim
      | cons q1 M2 =>
        obtain ⟨b, mo⟩ := q1
        cases mo with
        | lst ds =>
          obtain ⟨rfl, h1⟩ := h1
          obtain ⟨vs, hv, rv⟩ := L1.at_ (i := 0) rfl
          obtain ⟨L2, e2⟩ := L1.frz (i := 0) rfl hv
          rw [r1.of_at]
          exact q _ _ H1 M2 (.lst ds) (e1.trans e2) L2 (.mk_lst upd_same (rv.mono e2)) h1
        | ins C fs => exact h1.elim
        | dK kvs => exact h1.elim
    | _ => exact h1.elim
/-- tests -/
theorem zt_test {k : Bool → Mem → Prop} (h : ZE c ta Γ M fun d M1 => ∃ b, d = .bl b ∧ k b M1) : ZT c (tTest ta) Γ M k := fun R F σ H Q hs L X q =>
  h R F σ H _ hs L X fun v F1 H1 M1 d e1 L1 r1 ⟨b, e, h1⟩ => by
    subst e
    exact ⟨b, r1.of_bl, q b F1 H1 M1 b e1 L1 rfl h1⟩
theorem zt_B {k : Bool → Mem → Prop} (h : ZE c ta Γ M fun d M1 => ∃ b, d = .bl b ∧ k b M1) : ZT c (tB ta) Γ M k := zt_test h
theorem zt_and {t u : TT} {k : Bool → Mem → Prop} (h : ZT c t Γ M fun b M1 => (b = true → ZT c u Γ M1 k) ∧ (b = false → k false M1)) : ZT c (tAnd t u) Γ M k := fun R F σ H Q hs L X q =>
  h R F σ H _ hs L X fun b F1 H1 M1 b' e1 L1 r1 ⟨h1, h2⟩ => by
    subst r1
    cases b with
    | true => exact h1 rfl R F1 σ H1 Q (hs.mono e1) L1 (X.mono e1) (q.mono e1)
    | false => exact q false F1 H1 M1 false e1 L1 rfl (h2 rfl)
theorem zt_or {t u : TT} {k : Bool → Mem → Prop} (h : ZT c t Γ M fun b M1 => (b = true → k true M1) ∧ (b = false → ZT c u Γ M1 k)) : ZT c (tOr t u) Γ M k := fun R F σ H Q hs L X q =>
  h R F σ H _ hs L X fun b F1 H1 M1 b' e1 L1 r1 ⟨h1, h2⟩ => by
    subst r1
    cases b with
    | false => exact h2 rfl R F1 σ H1 Q (hs.mono e1) L1 (X.mono e1) (q.mono e1)
    | true => exact q true F1 H1 M1 true e1 L1 rfl (h1 rfl)
theorem zt_not {t : TT} {k : Bool → Mem → Prop} (h : ZT c t Γ M fun b M1 => k (!b) M1) : ZT c (tNot t) Γ M k := fun R F σ H Q hs L X q =>
  h R F σ H _ hs L X fun b F1 H1 M1 b' e1 L1 r1 h1 => q (!b) F1 H1 M1 (!b') e1 L1 (by rw [r1]) h1
theorem z_andV (h : ZE c ta Γ M fun d M1 => ∃ b, d = .bl b ∧ (b = true → ZE c tb Γ M1 k) ∧ (b = false → k (.bl false) M1)) : ZE c (tAndV ta tb) Γ M k := fun R F σ H Q hs L X q =>
  h R F σ H _ hs L X fun v F1 H1 M1 d e1 L1 r1 ⟨b, e, h1, h2⟩ => by
    subst e
    refine ⟨b, r1.of_bl, ?_⟩
    cases b with
    | true => exact h1 rfl R F1 σ H1 Q (hs.mono e1) L1 (X.mono e1) (q.mono e1)
    | false => exact q (.bl false) F1 H1 M1 (.bl false) e1 L1 (.bl _) (h2 rfl)
theorem z_orV (h : ZE c ta Γ M fun d M1 => ∃ b, d = .bl b ∧ (b = true → k (.bl true) M1) ∧ (b = false → ZE c tb Γ M1 k)) : ZE c (tOrV ta tb) Γ M k := fun R F σ H Q hs L X q =>
  h R F σ H _ hs L X fun v F1 H1 M1 d e1 L1 r1 ⟨b, e, h1, h2⟩ => by
    subst e
    refine ⟨b, r1.of_bl, ?_⟩
    cases b with
    | false => exact h2 rfl R F1 σ H1 Q (hs.mono e1) L1 (X.mono e1) (q.mono e1)
    | true => exact q (.bl true) F1 H1 M1 (.bl true) e1 L1 (.bl _) (h1 rfl)
theorem z_notV (h : ZE c ta Γ M fun d M1 => ∃ b, d = .bl b ∧ k (.bl (!b)) M1) : ZE c (tNotV ta) Γ M k := fun R F σ H Q hs L X q =>
  h R F σ H _ hs L X fun v F1 H1 M1 d e1 L1 r1 ⟨b, e, h1⟩ => by
    subst e
    exact ⟨b, r1.of_bl, q (.bl (!b)) F1 H1 M1 (.bl (!b)) e1 L1 (.bl _) h1⟩
theorem z_if {t : TT} (h : ZT c t Γ M fun b M1 => (b = true → ZE c ta Γ M1 k) ∧ (b = false → ZE c tb Γ M1 k)) : ZE c (tIf t ta tb) Γ M k := fun R F σ H Q hs L X q =>
  h R F σ H _ hs L X fun b F1 H1 M1 b' e1 L1 r1 ⟨h1, h2⟩ => by
    subst r1
    cases b with
    | true => exact h1 rfl R F1 σ H1 Q (hs.mono e1) L1 (X.mono e1) (q.mono e1)
    | false => exact h2 rfl R F1 σ H1 Q (hs.mono e1) L1 (X.mono e1) (q.mono e1)
/-- targets -/
theorem zg_name {i : Nat} {d : D} {k : Gm → Mem → Prop} (hk : k (Γ.set i (some d)) M) : ZG c (gName i) d Γ M k := fun R F σ H v Q hs L _ r q => q (σ.set i (some v)) F H M (Γ.set i (some d)) (Ex.refl F) L (hs.set i r) hk
theorem zgs_nil {k : Gm → Mem → Prop} (hk : k Γ M) : ZGs c gNil [] Γ M k := fun R F σ H vs Q hs L _ r q => ⟨r.unnil, q σ F H M Γ (Ex.refl F) L hs hk⟩
theorem zgs_cons {g : TG} {gs : TGs} {d : D} {ds : List D} {k : Gm → Mem → Prop} (h : ZG c g d Γ M fun Γ1 M1 => ZGs c gs ds Γ1 M1 k) : ZGs c (gCons g gs) (d :: ds) Γ M k := fun R F σ H vs Q hs L X r q => by
  obtain ⟨v, vs', rfl, r1, r2⟩ := r.uncons
  exact ⟨v, vs', rfl, h R F σ H v _ hs L X r1 fun σ' F1 H1 M1 Γ1 e1 L1 hs1 h1 => h1 R F1 σ' H1 vs' Q hs1 L1 (X.mono e1) (r2.mono e1) (q.mono e1)⟩
theorem zg_tup {gs : TGs} {n : Nat} {ds : List D} {k : Gm → Mem → Prop} (hn : ds.length = n) (h : ZGs c gs ds Γ M k) : ZG c (gTup c.K n gs) (.tup ds) Γ M k := fun R F σ H v Q hs L X r q => by
  obtain ⟨a, vs, rfl, s, rs⟩ := r.of_tup
  exact ⟨a, vs, rfl, ex_t L.fr s, by rw [rs.len]; exact hn, h R F σ H vs Q hs L X rs q⟩
/-- statements -/
theorem zs_nil (h : DD.nx Γ M) : ZS c tNext Γ M DD := fun R F σ H D hs L _ q => q.nx σ F H M Γ (Ex.refl F) L hs h
theorem zs_seq {t u : TS} (h : ZS c t Γ M { DD with nx := fun Γ' M' => ZS c u Γ' M' DD }) : ZS c (tSeq t u) Γ M DD := fun R F σ H D hs L X q =>
  h R F σ H { D with nx := u D } hs L X ⟨fun σ' F1 H1 M1 Γ1 e1 L1 hs1 h1 => h1 R F1 σ' H1 D hs1 L1 (X.mono e1) (q.mono e1), q.rt, q.bk, q.ct⟩
theorem zs_asg {g : TG} (h : ZE c ta Γ M fun d M1 => ZG c g d Γ M1 DD.nx) : ZS c (tAsg ta g) Γ M DD := fun R F σ H D hs L X q =>
  h R F σ H _ hs L X fun v F1 H1 M1 d e1 L1 r1 h1 => h1 R F1 σ H1 v _ (hs.mono e1) L1 (X.mono e1) r1 (q.nx.mono e1)
theorem zs_drop (h : ZE c ta Γ M fun _ M1 => DD.nx Γ M1) : ZS c (tDrop ta) Γ M DD := fun R F σ H D hs L X q =>
  h R F σ H _ hs L X fun v F1 H1 M1 d e1 L1 r1 h1 => q.nx σ F1 H1 M1 Γ e1 L1 (hs.mono e1) h1
theorem zs_ret (h : ZE c ta Γ M DD.rt) : ZS c (tRet ta) Γ M DD := fun R F σ H D hs L X q => h R F σ H _ hs L X q.rt
theorem zs_retN (h : DD.rt .non M) : ZS c tRetN Γ M DD := fun R F σ H D hs L X q => q.rt .non F H M .non (Ex.refl F) L .non h
theorem zs_break (h : DD.bk Γ M) : ZS c tBreak Γ M DD := fun R F σ H D hs L _ q => q.bk σ F H M Γ (Ex.refl F) L hs h
theorem zs_cont (h : DD.ct Γ M) : ZS c tCont Γ M DD := fun R F σ H D hs L _ q => q.ct σ F H M Γ (Ex.refl F) L hs h
theorem zs_if {t : TT} {u w : TS} (h : ZT c t Γ M fun b M1 => (b = true → ZS c u Γ M1 DD) ∧ (b = false → ZS c w Γ M1 DD)) : ZS c (tIfS t u w) Γ M DD := fun R F σ H D hs L X q =>
  h R F σ H _ hs L X fun b F1 H1 M1 b' e1 L1 r1 ⟨h1, h2⟩ => by
    subst r1
    cases b with
    | true => exact h1 rfl R F1 σ H1 D (hs.mono e1) L1 (X.mono e1) (q.mono e1)
    | false => exact h2 rfl R F1 σ H1 D (hs.mono e1) L1 (X.mono e1) (q.mono e1)
theorem ZS.imp {t : TS} {DD' : ZEnds} (h : ZS c t Γ M DD) (n : ∀ Γ' M', DD.nx Γ' M' → DD'.nx Γ' M') (r : ∀ d M', DD.rt d M' → DD'.rt d M') (b : ∀ Γ' M', DD.bk Γ' M' → DD'.bk Γ' M') (ct : ∀ Γ' M', DD.ct Γ' M' → DD'.ct Γ' M') : ZS c t Γ M DD' := fun R F σ H D hs L X q =>
  h R F σ H D hs L X ⟨fun v F' H' M' d e L' rr kk => q.nx v F' H' M' d e L' rr (n _ _ kk), fun v F' H' M' d e L' rr kk => q.rt v F' H' M' d e L' rr (r _ _ kk), fun v F' H' M' d e L' rr kk => q.bk v F' H' M' d e L' rr (b _ _ kk), fun v F' H' M' d e L' rr kk => q.ct v F' H' M' d e L' rr (ct _ _ kk)⟩
/-- a changing list of Mem changes no more: the slot j told as a frozen list -/
theorem zs_frz {t : TS} {i j : Nat} {a : Addr} {ds : List D} (hi : M[i]? = some (a, .lst ds)) (hj : Γ[j]? = some (some (.at a))) (h : ZS c t (Γ.set j (some (.lst ds))) (M.eraseIdx i) DD) : ZS c t Γ M DD := fun R F σ H D hs L X q => by
  have hl : i < M.length := (List.getElem?_eq_some_iff.mp hi).1
  have hi' : (M ++ R)[i]? = some (a, .lst ds) := by rw [List.getElem?_append_left hl]; exact hi
  obtain ⟨vs, hv, rv⟩ := L.at_ hi'
  obtain ⟨L2, e2⟩ := L.frz hi' hv
  rw [List.eraseIdx_append_of_lt_length hl] at L2
  refine h R _ σ H D ((hs.mono e2).weak (by rw [List.length_set]) fun n d hd => ?_) L2 (X.mono e2) (q.mono e2)
  by_cases hn : j = n
  · subst hn
    rw [List.getElem?_set_self (List.getElem?_eq_some_iff.mp hj).1] at hd
    cases hd
    refine ⟨_, hj, fun v hv => ?_⟩
    rw [hv.of_at]
    exact .mk_lst upd_same (rv.mono e2)
  · rw [List.getElem?_set_ne hn] at hd
    exact ⟨d, hd, fun _ h => h⟩
/-- a thing of Mem is forgotten -/
theorem zs_forget {t : TS} {i : Nat} (h : ZS c t Γ (M.eraseIdx i) DD) : ZS c t Γ M DD := fun R F σ H D hs L X q => by
  by_cases hl : i < M.length
  · have L2 := L.drop i
    rw [List.eraseIdx_append_of_lt_length hl] at L2
    exact h R F σ H D hs L2 X q
  · rw [List.eraseIdx_of_length_le (Nat.le_of_not_lt hl)] at h
    exact h R F σ H D hs L X q
/-- while: by a word and a measure -/
theorem zs_while {t : TT} {u : TS} (W : Nat → Gm → Mem → Prop) (m0 : Nat) (h0 : W m0 Γ M)
    (hs : ∀ m Γ1 M1, W m Γ1 M1 → ZT c t Γ1 M1 fun b M2 => (b = true → ZS c u Γ1 M2 { DD with nx := fun Γ' M' => ∃ m', m' < m ∧ W m' Γ' M', ct := fun Γ' M' => ∃ m', m' < m ∧ W m' Γ' M', bk := DD.nx }) ∧ (b = false → DD.nx Γ1 M2)) : ZS c (tWhile t u) Γ M DD := fun R F σ H D hσ L X q => by
  refine ⟨fun m σ' H' => ∃ F' Γ' M', Ex F F' ∧ Has c.K F' σ' Γ' ∧ Lay c.K F' (M' ++ R) H' ∧ W m Γ' M', ⟨m0, F, Γ, M, Ex.refl F, hσ, L, h0⟩, fun m σ' H' ⟨F1, Γ1, M1, e1, hs1, L1, w1⟩ => ?_⟩
  refine hs m Γ1 M1 w1 R F1 σ' H' _ hs1 L1 (X.mono e1) fun b F2 H2 M2 b' e2 L2 r2 ⟨h1, h2⟩ => ?_
  subst r2
  cases b with
  | true =>
    refine ⟨fun σ3 H3 => ∃ m', m' < m ∧ ∃ F' Γ' M', Ex F F' ∧ Has c.K F' σ3 Γ' ∧ Lay c.K F' (M' ++ R) H3 ∧ W m' Γ' M', fun σ3 H3 h => h, ?_⟩
    refine h1 rfl R F2 σ' H2 _ (hs1.mono e2) L2 (X.mono (e1.trans e2)) ⟨fun σ3 F3 H3 M3 Γ3 e3 L3 hs3 ⟨m', hm, w'⟩ => ⟨m', hm, F3, Γ3, M3, (e1.trans e2).trans e3, hs3, L3, w'⟩, q.rt.mono (e1.trans e2), q.nx.mono (e1.trans e2), fun σ3 F3 H3 M3 Γ3 e3 L3 hs3 ⟨m', hm, w'⟩ => ⟨m', hm, F3, Γ3, M3, (e1.trans e2).trans e3, hs3, L3, w'⟩⟩
  | false => exact q.nx σ' F2 H2 M2 Γ1 (e1.trans e2) L2 (hs1.mono e2) (h2 rfl)
/-- for: by a word of the turn -/
def ForK (c : Cz) (g : TG) (tb : TS) (Γ : Gm) (DD : ZEnds) (ds : List D) (M : Mem) : Prop := ∃ I : Nat → Gm → Mem → Prop, I 0 Γ M ∧
  (∀ i d Γ1 M1, ds[i]? = some d → I i Γ1 M1 → ZG c g d Γ1 M1 fun Γ2 M2 => ZS c tb Γ2 M2 { DD with nx := I (i + 1), ct := I (i + 1), bk := DD.nx }) ∧ ∀ Γ1 M1, I ds.length Γ1 M1 → DD.nx Γ1 M1
theorem zs_for {wi : TI} {g : TG} {tb : TS} (h : ZI c wi Γ M (ForK c g tb Γ DD)) : ZS c (tFor wi g tb) Γ M DD := fun R F σ H D hσ L X q => by
  refine h R F σ H _ hσ L X fun J F1 H1 M1 ds e1 L1 wk ⟨I, h0, hs, hd⟩ => ?_
  refine ⟨fun i m σ' H' => m = ds.length - i ∧ i ≤ ds.length ∧ ∃ F' Γ' M', Ex F1 F' ∧ Has c.K F' σ' Γ' ∧ Lay c.K F' (M' ++ R) H' ∧ I i Γ' M', ⟨ds.length, by simp, Nat.zero_le _, F1, Γ, M1, Ex.refl _, hσ.mono e1, L1, h0⟩, ?_⟩
  rintro i m σ' H' ⟨rfl, hi, F2, Γ2, M2, e2, hs2, L2, w2⟩
  obtain ⟨g1, g2, g3⟩ := wk F2 _ H' e2 L2
  by_cases hlt : i < ds.length
  · refine .inr ⟨g1 i hlt, fun σ3 H3 => ∃ F' Γ' M', Ex F1 F' ∧ Has c.K F' σ3 Γ' ∧ Lay c.K F' (M' ++ R) H3 ∧ I (i + 1) Γ' M', fun σ3 H3 z => ⟨ds.length - (i + 1), by omega, rfl, hlt, z⟩, fun x H3 y => ?_⟩
    obtain ⟨F3, e3, L3, r3⟩ := g3 i _ x H3 (List.getElem?_eq_getElem hlt) y
    have e13 : Ex F F3 := (e1.trans e2).trans e3
    refine hs i _ Γ2 M2 (List.getElem?_eq_getElem hlt) w2 R F3 σ' H3 x _ (hs2.mono e3) L3 (X.mono e13) r3 fun σ4 F4 H4 M4 Γ4 e4 L4 hs4 h4 => ?_
    exact h4 R F4 σ4 H4 _ hs4 L4 (X.mono (e13.trans e4)) ⟨fun σ5 F5 H5 M5 Γ5 e5 L5 hs5 w5 => ⟨F5, Γ5, M5, ((e2.trans e3).trans e4).trans e5, hs5, L5, w5⟩, q.rt.mono (e13.trans e4), q.nx.mono (e13.trans e4), fun σ5 F5 H5 M5 Γ5 e5 L5 hs5 w5 => ⟨F5, Γ5, M5, ((e2.trans e3).trans e4).trans e5, hs5, L5, w5⟩⟩
  · have e : i = ds.length := by omega
    subst e
    exact .inl ⟨g2 _ (Nat.le_refl _), q.nx σ' F2 H' M2 Γ2 (e1.trans e2) L2 hs2 (hd _ _ w2)⟩
/-- comprehensions -/
def Own (g : TG) (vs : List Nat) : Prop := ∀ (x : V) (σ : L2.St) (H : Hp) (Q : L2.St → Hp → Prop), g x σ H Q → g x σ H fun σ2 H2 => L2.wipe σ2 vs = L2.wipe σ vs ∧ Q σ2 H2
def Owns (g : TGs) (vs : List Nat) : Prop := ∀ (x : List V) (σ : L2.St) (H : Hp) (Q : L2.St → Hp → Prop), g x σ H Q → g x σ H fun σ2 H2 => L2.wipe σ2 vs = L2.wipe σ vs ∧ Q σ2 H2
theorem wipe_set_mem {σ : L2.St} {j : Nat} {x : Option V} : ∀ {vs : List Nat}, j ∈ vs → L2.wipe (σ.set j x) vs = L2.wipe σ vs
  | [], h => by simp at h
  | v :: vs, h => by
    unfold L2.wipe
    by_cases hv : j = v
    · subst hv
      have e : ∀ (ws : List Nat) (τ : L2.St), (L2.wipe (τ.set j x) ws).set j none = (L2.wipe τ ws).set j none := by
        intro ws
        induction ws with
        | nil =>
          intro τ
          exact List.set_set ..
        | cons w ws ih =>
          intro τ
          unfold L2.wipe
          by_cases hw : w = j
          · subst hw
            rw [ih τ]
          · rw [List.set_comm _ _ hw, ih τ, List.set_comm _ _ hw]
      exact e vs σ
    · rw [wipe_set_mem (vs := vs) ((List.mem_cons.mp h).resolve_left hv)]
theorem own_name {j : Nat} {vs : List Nat} (h : j ∈ vs) : Own (gName j) vs := fun x σ H Q q => ⟨wipe_set_mem h, q⟩
theorem owns_nil {vs : List Nat} : Owns gNil vs := fun x σ H Q ⟨e, q⟩ => ⟨e, rfl, q⟩
theorem owns_cons {g : TG} {gs : TGs} {vs : List Nat} (mono : ∀ (x : V) (σ : L2.St) (H : Hp) (Q Q' : L2.St → Hp → Prop), (∀ a b, Q a b → Q' a b) → g x σ H Q → g x σ H Q') (monos : ∀ (x : List V) (σ : L2.St) (H : Hp) (Q Q' : L2.St → Hp → Prop), (∀ a b, Q a b → Q' a b) → gs x σ H Q → gs x σ H Q') (h : Own g vs) (hs : Owns gs vs) : Owns (gCons g gs) vs := fun x σ H Q ⟨v, r, e, q⟩ => by
  refine ⟨v, r, e, mono _ _ _ _ _ (fun σ1 H1 ⟨e1, q1⟩ => ?_) (h v σ H _ q)⟩
  exact monos _ _ _ _ _ (fun σ2 H2 ⟨e2, q2⟩ => ⟨e2.trans e1, q2⟩) (hs r σ1 H1 Q q1)
theorem mono_name {j : Nat} (x : V) (σ : L2.St) (H : Hp) (Q Q' : L2.St → Hp → Prop) (i : ∀ a b, Q a b → Q' a b) (h : gName j x σ H Q) : gName j x σ H Q' := i _ _ h
theorem mono_nil (x : List V) (σ : L2.St) (H : Hp) (Q Q' : L2.St → Hp → Prop) (i : ∀ a b, Q a b → Q' a b) (h : gNil x σ H Q) : gNil x σ H Q' := ⟨h.1, i _ _ h.2⟩
theorem mono_cons {g : TG} {gs : TGs} (mono : ∀ (x : V) (σ : L2.St) (H : Hp) (Q Q' : L2.St → Hp → Prop), (∀ a b, Q a b → Q' a b) → g x σ H Q → g x σ H Q') (monos : ∀ (x : List V) (σ : L2.St) (H : Hp) (Q Q' : L2.St → Hp → Prop), (∀ a b, Q a b → Q' a b) → gs x σ H Q → gs x σ H Q')
    (x : List V) (σ : L2.St) (H : Hp) (Q Q' : L2.St → Hp → Prop) (i : ∀ a b, Q a b → Q' a b) (h : gCons g gs x σ H Q) : gCons g gs x σ H Q' := by
  obtain ⟨v, r, e, q⟩ := h
  exact ⟨v, r, e, mono _ _ _ _ _ (fun σ1 H1 q1 => monos _ _ _ _ _ i q1) q⟩
theorem mono_tup {K : Fg} {n : Nat} {gs : TGs} (monos : ∀ (x : List V) (σ : L2.St) (H : Hp) (Q Q' : L2.St → Hp → Prop), (∀ a b, Q a b → Q' a b) → gs x σ H Q → gs x σ H Q') (x : V) (σ : L2.St) (H : Hp) (Q Q' : L2.St → Hp → Prop) (i : ∀ a b, Q a b → Q' a b) (h : gTup K n gs x σ H Q) : gTup K n gs x σ H Q' := by
  obtain ⟨a, xs, e, s, hl, q⟩ := h
  exact ⟨a, xs, e, s, hl, monos _ _ _ _ _ i q⟩
theorem own_tup {K : Fg} {n : Nat} {gs : TGs} {vs : List Nat} (hs : Owns gs vs) : Own (gTup K n gs) vs := fun x σ H Q ⟨a, xs, e, s, hl, q⟩ => ⟨a, xs, e, s, hl, hs xs σ H Q q⟩
def LcK (c : Cz) (g : TG) (tt : TT) (te : TE) (vs : List Nat) (Γ : Gm) (k : List D → Mem → Prop) (ds : List D) (M : Mem) : Prop := ds.length ≤ sizeLine ∧ ∃ I : Nat → List D → Mem → Prop, I 0 [] M ∧
  (∀ i d acc M1, ds[i]? = some d → acc.length ≤ i → I i acc M1 → ZG c g d (zwipe Γ vs) M1 fun Γ2 M2 => ZT c tt Γ2 M2 fun b M3 => (b = true → ZE c te Γ2 M3 fun y M4 => I (i + 1) (acc ++ [y]) M4) ∧ (b = false → I (i + 1) acc M3)) ∧ ∀ acc M1, I ds.length acc M1 → k acc M1
/-- what a block's exceptions may be: none -/
abbrev Cz.blk (c : Cz) : Cz := ⟨c.K, fun _ _ _ _ => False, fun _ _ _ _ => False⟩
theorem xok_blk {R : Mem} {F : Hp} : XOk c.blk R F := fun _ _ _ _ _ _ _ _ _ _ _ _ h => h
theorem wipe_wipe {σ : L2.St} {vs : List Nat} : L2.wipe (L2.wipe σ vs) vs = L2.wipe σ vs := by
  have : ∀ (us : List Nat) (τ : L2.St), (∀ u ∈ us, ∀ z, τ[u]? = some z → z = none) → L2.wipe τ us = τ := by
    intro us
    induction us with
    | nil => intro τ _; rfl
    | cons u us ih =>
      intro τ ht
      unfold L2.wipe
      rw [ih τ fun v hv => ht v (List.mem_cons_of_mem _ hv)]
      apply List.ext_getElem?
      intro n
      by_cases hn : u = n
      · subst hn
        by_cases hl : u < τ.length
        · rw [List.getElem?_set_self hl]
          have := ht u List.mem_cons_self τ[u] (List.getElem?_eq_getElem hl)
          rw [List.getElem?_eq_getElem hl, this]
        · rw [List.getElem?_eq_none (by rw [List.length_set]; omega), List.getElem?_eq_none (by omega)]
      · rw [List.getElem?_set_ne hn]
  refine this vs _ fun u hu z hz => ?_
  cases z with
  | none => rfl
  | some y => exact absurd hu (L2.wipe_some hz).2
theorem lc_gen {wi : TI} {g : TG} {tt : TT} {te : TE} {vs : List Nat} {k : List D → Mem → Prop} {R : Mem} {F : Hp} {σ : L2.St} {H : Hp} {Q : VK} (ho : Own g vs) (h : ZI c wi Γ M (LcK c.blk g tt te vs Γ k)) (hσ : Has c.K F σ Γ) (L : Lay c.K F (M ++ R) H) (X : XOk c R F)
    (q : ∀ p ws F' H' M' ds, Ex F F' → Lay c.K F' (M' ++ (p, .lst ds) :: R) H' → H' p = some (.lst ws) → Rps c.K F' ws ds → k ds M' → Q (.ref p) H') : tLc wi g tt te vs σ H Q := by
  refine h R F σ H _ hσ L X fun J F1 H1 M1 ds e1 L1 wk ⟨hz, I, h0, hs, hd⟩ => ?_
  intro p hp
  refine ⟨fun i m H' => m = ds.length - i ∧ i ≤ ds.length ∧ ∃ F' M' acc, acc.length ≤ i ∧ Ex F1 F' ∧ Lay c.K F' (M' ++ (p, .lst acc) :: R) H' ∧ I i acc M', ⟨ds.length, by simp, Nat.zero_le _, F1, M1, [], Nat.le_refl _, Ex.refl _, ?_, h0⟩, ?_⟩
  · have L2 := L1.newM hp (o := .lst []) (mo := .lst []) ⟨[], upd_same, .nil⟩
    refine ⟨L2.fr, ?_, fun r hr => L2.ap r ?_, fun r hr => L2.mu r ?_⟩
    · have e : List.Perm (M1 ++ (p, MO.lst []) :: R) ((p, MO.lst []) :: (M1 ++ R)) := List.perm_middle
      exact ((e.map (·.1)).nodup_iff).mpr L2.nd
    · rcases List.mem_append.mp hr with hr | hr
      · exact List.mem_cons_of_mem _ (List.mem_append_left _ hr)
      · rcases List.mem_cons.mp hr with rfl | hr
        · exact List.mem_cons_self
        · exact List.mem_cons_of_mem _ (List.mem_append_right _ hr)
    · rcases List.mem_append.mp hr with hr | hr
      · exact List.mem_cons_of_mem _ (List.mem_append_left _ hr)
      · rcases List.mem_cons.mp hr with rfl | hr
        · exact List.mem_cons_self
        · exact List.mem_cons_of_mem _ (List.mem_append_right _ hr)
  · rintro i m H' ⟨rfl, hi, F2, M2, acc, hacc, e2, Lb, w2⟩
    obtain ⟨g1, g2, g3⟩ := wk F2 _ H' e2 Lb
    by_cases hlt : i < ds.length
    · refine .inr ⟨g1 i hlt, fun H3 => ∃ F' M' acc, acc.length ≤ i + 1 ∧ Ex F1 F' ∧ Lay c.K F' (M' ++ (p, .lst acc) :: R) H3 ∧ I (i + 1) acc M', fun H3 z => ⟨ds.length - (i + 1), by omega, rfl, hlt, z⟩, fun x H3 y => ?_⟩
      obtain ⟨F3, e3, L3, r3⟩ := g3 i _ x H3 (List.getElem?_eq_getElem hlt) y
      have e13 : Ex F F3 := (e1.trans e2).trans e3
      have z : g x (L2.wipe σ vs) H3 (fun σ2 H2 => tt σ2 H2 fun b H3 => if b = true then te σ2 H3 fun y H4 => ∃ acc, H4 p = some (.lst acc) ∧ acc.length < sizeLine ∧ ∃ F' M' acc', acc'.length ≤ i + 1 ∧ Ex F1 F' ∧ Lay c.K F' (M' ++ (p, .lst acc') :: R) (upd H4 p (.lst (acc ++ [y]))) ∧ I (i + 1) acc' M' else ∃ F' M' acc, acc.length ≤ i + 1 ∧ Ex F1 F' ∧ Lay c.K F' (M' ++ (p, .lst acc) :: R) H3 ∧ I (i + 1) acc M') := by
        refine hs i _ acc M2 (List.getElem?_eq_getElem hlt) hacc w2 ((p, .lst acc) :: R) F3 (L2.wipe σ vs) H3 x _ ((hσ.mono e13).wipe vs) L3 xok_blk r3 fun σ4 F4 H4 M4 Γ4 e4 L4 hs4 h4 => ?_
        refine h4 ((p, .lst acc) :: R) F4 σ4 H4 _ hs4 L4 xok_blk fun b F5 H5 M5 b' e5 L5 r5 ⟨h5, h6⟩ => ?_
        subst r5
        cases b with
        | true =>
          refine h5 rfl ((p, .lst acc) :: R) F5 σ4 H5 _ (hs4.mono e5) L5 xok_blk fun y F6 H6 M6 d6 e6 L6 r6 w6 => ?_
          have hat : (M6 ++ (p, MO.lst acc) :: R)[M6.length]? = some (p, .lst acc) := by
            rw [List.getElem?_append_right (Nat.le_refl _), Nat.sub_self]
            rfl
          obtain ⟨ws, hw, rw_⟩ := L6.at_ hat
          refine ⟨ws, hw, by rw [rw_.len]; omega, F6, M6, acc ++ [d6], by rw [List.length_append]; exact Nat.succ_le_succ hacc, (((e2.trans e3).trans e4).trans e5).trans e6, ?_, w6⟩
          have L7 := L6.set (o := .lst (ws ++ [y])) (mo' := .lst (acc ++ [d6])) hat ⟨_, upd_same, rw_.append (.one r6)⟩
          rw [List.set_append_right _ _ (Nat.le_refl _), Nat.sub_self] at L7
          exact L7
        | false => exact ⟨F5, M5, acc, Nat.le_succ_of_le hacc, ((e2.trans e3).trans e4).trans e5, L5, h6 rfl⟩
      have z2 := ho x _ H3 _ z
      rw [wipe_wipe] at z2
      exact z2
    · have e : i = ds.length := by omega
      subst e
      have hat : (M2 ++ (p, MO.lst acc) :: R)[M2.length]? = some (p, .lst acc) := by
        rw [List.getElem?_append_right (Nat.le_refl _), Nat.sub_self]
        rfl
      obtain ⟨ws, hw, rw_⟩ := Lb.at_ hat
      exact .inl ⟨g2 _ (Nat.le_refl _), q p ws F2 H' M2 acc (e1.trans e2) Lb hw rw_ (hd _ _ w2)⟩
end
end Z
set_option Elab.async false
set_option linter.all false
set_option maxRecDepth 100000
set_option maxHeartbeats 4000000
/-! ZRules: rules for operators, calls, sequences over ZBase. p_..: a rule of the hand layer with a reading of one name; z.., zr_.., zc_..: what such a reading asks of data. -/
namespace Z
open PySem PySem.Spec PyProof.Rows L2
variable {c : Cz}
/-! ### sequences -/
inductive Sf : D → List D → Prop
  | tup {ds} : Sf (.tup ds) ds
  | lst {ds} : Sf (.lst ds) ds
  | scr {ds} : Sf (.scr ds) ds
inductive Sq (M : Mem) : D → List D → Prop
  | tup {ds} : Sq M (.tup ds) ds
  | lst {ds} : Sq M (.lst ds) ds
  | scr {ds} : Sq M (.scr ds) ds
  | «at» {a : Addr} {ds} (i : Nat) (h : M[i]? = some (a, .lst ds)) : Sq M (.at a) ds
section
variable {K : Fg} {F H : Hp} {M R : Mem} {v : V} {d : D} {ds : List D}
theorem Lay.memAt {i : Nat} {a : Addr} {mo : MO} (L : Lay K F (M ++ R) H) (h : M[i]? = some (a, mo)) : MoOk K F H a mo := L.at_ (i := i) (by rw [List.getElem?_append_left (List.getElem?_eq_some_iff.mp h).1]; exact h)
theorem Lay.memSet {i : Nat} {a : Addr} {mo mo' : MO} {o : HO} (L : Lay K F (M ++ R) H) (h : M[i]? = some (a, mo)) (m : MoOk K F (upd H a o) a mo') : Lay K F (M.set i (a, mo') ++ R) (upd H a o) := by
  have hl : i < M.length := (List.getElem?_eq_some_iff.mp h).1
  have x := L.set (i := i) (by rw [List.getElem?_append_left hl]; exact h) m
  rw [List.set_append_left _ _ hl] at x
  exact x
theorem Sq.read (s : Sq M d ds) (L : Lay K F (M ++ R) H) (r : Rp K F v d) : ∃ a vs, v = .ref a ∧ (SqL K H a vs ∨ SqT K H a vs) ∧ Rps K F vs ds := by
  cases s with
  | tup =>
    obtain ⟨a, vs, e, h, q⟩ := r.of_tup
    exact ⟨a, vs, e, .inr (ex_t L.fr h), q⟩
  | lst =>
    obtain ⟨a, vs, e, h, q⟩ := r.of_lst
    exact ⟨a, vs, e, .inl (SqL.of (L.fr _ _ h)), q⟩
  | scr =>
    obtain ⟨a, vs, e, h, q⟩ := r.of_scr
    exact ⟨a, vs, e, .inl (ex_l L.fr h), q⟩
  | «at» i h =>
    obtain ⟨vs, e, q⟩ := L.memAt h
    exact ⟨_, vs, r.of_at, .inl (SqL.of e), q⟩
theorem Rps.atI {vs : List V} {i : Int} {e : D} (r : Rps K F vs ds) (h : L2.atI ds i = some e) : ∃ x, L2.atI vs i = some x ∧ Rp K F x e := by
  unfold L2.atI at h ⊢
  rw [r.len]
  cases q : L2.ixN ds.length i with
  | none =>
    rw [q] at h
    cases h
  | some j =>
    rw [q] at h
    exact r.get (show ds[j]? = some e from h)
end
/-- a list, however it stands -/
inductive Sl (M : Mem) : D → List D → Prop
  | lst {ds} : Sl M (.lst ds) ds
  | scr {ds} : Sl M (.scr ds) ds
  | «at» {a : Addr} {ds} (i : Nat) (h : M[i]? = some (a, .lst ds)) : Sl M (.at a) ds
theorem Sl.read {K : Fg} {F H : Hp} {M R : Mem} {v : V} {d : D} {ds : List D} (s : Sl M d ds) (L : Lay K F (M ++ R) H) (r : Rp K F v d) : ∃ a vs, v = .ref a ∧ SqL K H a vs ∧ Rps K F vs ds := by
  cases s with
  | lst =>
    obtain ⟨a, vs, e, h, q⟩ := r.of_lst
    exact ⟨a, vs, e, SqL.of (L.fr _ _ h), q⟩
  | scr =>
    obtain ⟨a, vs, e, h, q⟩ := r.of_scr
    exact ⟨a, vs, e, ex_l L.fr h, q⟩
  | «at» i h =>
    obtain ⟨vs, e, q⟩ := L.memAt h
    exact ⟨_, vs, r.of_at, SqL.of e, q⟩
/-! ### integers -/
def MulOk (i j : Int) : Prop := IntMulOk i j
theorem MulOk.of {i j : Int} (h : i.natAbs.log2 + j.natAbs.log2 < 1000000) : MulOk i j := CMulW.ok h
theorem bits_small {i : Int} (h : i.natAbs < 2 ^ 64) : Builtin.Int.intBits i ≤ 64 := by
  unfold Builtin.Int.intBits
  split
  · omega
  · rename_i h0
    have : i.natAbs.log2 < 64 := (Nat.log2_lt (by intro e; apply h0; simp [Int.natAbs_eq_zero.mp e])).mpr h
    omega
theorem MulOk.left {i j : Int} (h : i.natAbs < 2 ^ 64) : MulOk i j := IntMulOk.of_left (bits_small h)
theorem MulOk.right {i j : Int} (h : j.natAbs < 2 ^ 64) : MulOk i j := IntMulOk.of_right (bits_small h)
def DivOk (i j : Int) : Prop := j ≠ 0 ∧ Builtin.divisionGoesByPylong i j = false
section
variable {X : Cx}
theorem op_mulZ : OpR X (binaryOp .Mult) (rI MulOk fun i j => .int (i * j)) := opI fun _ _ _ _ _ _ _ hc q => mul_int q hc
theorem op_fdivZ : OpR X (binaryOp .FloorDiv) (rI DivOk fun i j => .int (i.fdiv j)) := opI fun _ _ _ _ _ _ _ hc q => floordiv_int hc.1 q (.inl hc.2)
end
def rAddS : R2 := fun x y H Q => ∃ i j, x = .str i ∧ y = .str j ∧ i.length + j.length ≤ sizeLine ∧ Q (.str (i ++ j)) H
def rAddZ (K : Fg) : R2 := fun x y H Q => rI0 (fun i j => .int (i + j)) x y H Q ∨ rCatA K x y H Q ∨ rCat x y H Q ∨ rAddS x y H Q
def rSubZ : R2 := rI0 fun i j => .int (i - j)
def rMulZ : R2 := fun x y H Q => rI MulOk (fun i j => .int (i * j)) x y H Q ∨ rRep x y H Q
def rModZ : R2 := rI (fun _ j => 0 < j) fun i j => .int (i % j)
def rDivZ : R2 := rI DivOk fun i j => .int (i.fdiv j)
def rPowZ : R2 := rI CPow fun i j => .int (i ^ j.toNat)
def rLtZ : R2 := rI0 fun i j => .bl (decide (i < j))
def rLeZ : R2 := rI0 fun i j => .bl (decide (i ≤ j))
def rGtZ : R2 := rI0 fun i j => .bl (decide (j < i))
def rGeZ : R2 := rI0 fun i j => .bl (decide (j ≤ i))
def rEqZ (K : Fg) : R2 := fun x y H Q => rEq x y H Q ∨ rEqD K x y H Q
def rNeZ (K : Fg) : R2 := fun x y H Q => rNe x y H Q ∨ rNeD K x y H Q
def rIsNZ : R2 := fun x y H Q => y = .non ∧ Q (.bl (decide (x = .non))) H
def rNotNZ : R2 := fun x y H Q => y = .non ∧ Q (.bl (!decide (x = .non))) H
def uNegZ : V → Hp → VK → Prop := rU fun i => .int (-i)
section
variable {X : Cx} {a b : Expr} {ta tb : TE} {pos : Pos}
theorem p_add (ha : PE X a ta) (hb : PE X b tb) : PE X (.BinOp a .Add b pos) (tOp (rAddZ X.K) ta tb) := pe_op (op_add.or (op_catA.or (op_cat.or op_add_str))) ha hb
theorem p_sub (ha : PE X a ta) (hb : PE X b tb) : PE X (.BinOp a .Sub b pos) (tOp rSubZ ta tb) := pe_op op_sub ha hb
theorem p_mul (ha : PE X a ta) (hb : PE X b tb) : PE X (.BinOp a .Mult b pos) (tOp rMulZ ta tb) := pe_op (op_mulZ.or op_rep) ha hb
theorem p_mod (ha : PE X a ta) (hb : PE X b tb) : PE X (.BinOp a .Mod b pos) (tOp rModZ ta tb) := pe_op op_mod ha hb
theorem p_fdiv (ha : PE X a ta) (hb : PE X b tb) : PE X (.BinOp a .FloorDiv b pos) (tOp rDivZ ta tb) := pe_op op_fdivZ ha hb
theorem p_pow (ha : PE X a ta) (hb : PE X b tb) : PE X (.BinOp a .Pow b pos) (tOp rPowZ ta tb) := pe_op op_pow ha hb
theorem p_neg (ha : PE X a ta) : PE X (.UnaryOp .USub a pos) (tUn uNegZ ta) := pe_un un_neg ha
theorem p_lt (ha : PE X a ta) (hb : PE X b tb) : PE X (.Compare a [.Lt] [b] pos) (tOp rLtZ ta tb) := pe_cmpR op_lt ha hb (nomark _)
theorem p_le (ha : PE X a ta) (hb : PE X b tb) : PE X (.Compare a [.LtE] [b] pos) (tOp rLeZ ta tb) := pe_cmpR op_le ha hb (nomark _)
theorem p_gt (ha : PE X a ta) (hb : PE X b tb) : PE X (.Compare a [.Gt] [b] pos) (tOp rGtZ ta tb) := pe_cmpR op_gt ha hb (nomark _)
theorem p_ge (ha : PE X a ta) (hb : PE X b tb) : PE X (.Compare a [.GtE] [b] pos) (tOp rGeZ ta tb) := pe_cmpR op_ge ha hb (nomark _)
theorem p_eq (hu : X.A.units + 64 < cLine) (ha : PE X a ta) (hb : PE X b tb) : PE X (.Compare a [.Eq] [b] pos) (tOp (rEqZ X.K) ta tb) := pe_cmpR (op_eq.or (op_eqD hu)) ha hb (nomark _)
theorem p_ne (hu : X.A.units + 64 < cLine) (ha : PE X a ta) (hb : PE X b tb) : PE X (.Compare a [.NotEq] [b] pos) (tOp (rNeZ X.K) ta tb) := pe_cmpR (op_ne.or (op_neD hu)) ha hb (nomark _)
theorem p_isN (ha : PE X a ta) (hb : PE X b tb) : PE X (.Compare a [.Is] [b] pos) (tOp rIsNZ ta tb) := pe_cmpR op_isN ha hb (nomark _)
theorem p_notN (ha : PE X a ta) (hb : PE X b tb) : PE X (.Compare a [.IsNot] [b] pos) (tOp rNotNZ ta tb) := pe_cmpR op_notN ha hb (nomark _)
/-- the same as tests -/
theorem q_lt (ha : PE X a ta) (hb : PE X b tb) : PT X (.Compare a [.Lt] [b] pos) (tTest (tOp rLtZ ta tb)) := pt_cmpR op_lt ha hb (nomark _)
theorem q_le (ha : PE X a ta) (hb : PE X b tb) : PT X (.Compare a [.LtE] [b] pos) (tTest (tOp rLeZ ta tb)) := pt_cmpR op_le ha hb (nomark _)
theorem q_gt (ha : PE X a ta) (hb : PE X b tb) : PT X (.Compare a [.Gt] [b] pos) (tTest (tOp rGtZ ta tb)) := pt_cmpR op_gt ha hb (nomark _)
theorem q_ge (ha : PE X a ta) (hb : PE X b tb) : PT X (.Compare a [.GtE] [b] pos) (tTest (tOp rGeZ ta tb)) := pt_cmpR op_ge ha hb (nomark _)
theorem q_eq (hu : X.A.units + 64 < cLine) (ha : PE X a ta) (hb : PE X b tb) : PT X (.Compare a [.Eq] [b] pos) (tTest (tOp (rEqZ X.K) ta tb)) := pt_cmpR (op_eq.or (op_eqD hu)) ha hb (nomark _)
theorem q_ne (hu : X.A.units + 64 < cLine) (ha : PE X a ta) (hb : PE X b tb) : PT X (.Compare a [.NotEq] [b] pos) (tTest (tOp (rNeZ X.K) ta tb)) := pt_cmpR (op_ne.or (op_neD hu)) ha hb (nomark _)
theorem q_isN (ha : PE X a ta) (hb : PE X b tb) : PT X (.Compare a [.Is] [b] pos) (tTest (tOp rIsNZ ta tb)) := pt_cmpR op_isN ha hb (nomark _)
theorem q_notN (ha : PE X a ta) (hb : PE X b tb) : PT X (.Compare a [.IsNot] [b] pos) (tTest (tOp rNotNZ ta tb)) := pt_cmpR op_notN ha hb (nomark _)
theorem p_mk {e : Expr} {t : TE} (h : PE X e t) : PE X e (mk t) := h
theorem p_fz {e : Expr} {t : TE} (h : PE X e t) : PE X e (fz t) := h
end
section
variable {M : Mem} {k : D → Mem → Prop} {i j : Int}
theorem zr_I0 {g : Int → Int → Int} (h : k (.int (g i j)) M) : ZR c (rI0 fun i j => .int (g i j)) (.int i) (.int j) M k := fun R F H v w Q L r1 r2 q => ⟨i, j, r1.of_int, r2.of_int, q _ F H M _ (Ex.refl F) L (.int _) h⟩
theorem zr_I {C : Int → Int → Prop} {g : Int → Int → Int} (hc : C i j) (h : k (.int (g i j)) M) : ZR c (rI C fun i j => .int (g i j)) (.int i) (.int j) M k := fun R F H v w Q L r1 r2 q => ⟨i, j, r1.of_int, r2.of_int, hc, q _ F H M _ (Ex.refl F) L (.int _) h⟩
theorem zr_B0 {g : Int → Int → Bool} (h : k (.bl (g i j)) M) : ZR c (rI0 fun i j => .bl (g i j)) (.int i) (.int j) M k := fun R F H v w Q L r1 r2 q => ⟨i, j, r1.of_int, r2.of_int, q _ F H M _ (Ex.refl F) L (.bl _) h⟩
theorem zr_addI (h : k (.int (i + j)) M) : ZR c (rAddZ c.K) (.int i) (.int j) M k := fun R F H v w Q L r1 r2 q => .inl (zr_I0 (c := c) (g := fun i j => i + j) h R F H v w Q L r1 r2 q)
theorem zr_sub (h : k (.int (i - j)) M) : ZR c rSubZ (.int i) (.int j) M k := zr_I0 (g := fun i j => i - j) h
theorem zr_mulI (hc : MulOk i j) (h : k (.int (i * j)) M) : ZR c rMulZ (.int i) (.int j) M k := fun R F H v w Q L r1 r2 q => .inl (zr_I (c := c) (C := MulOk) (g := fun i j => i * j) hc h R F H v w Q L r1 r2 q)
theorem zr_mod (hc : 0 < j) (h : k (.int (i % j)) M) : ZR c rModZ (.int i) (.int j) M k := zr_I (C := fun _ j => 0 < j) (g := fun i j => i % j) hc h
theorem zr_div (hc : DivOk i j) (h : k (.int (i.fdiv j)) M) : ZR c rDivZ (.int i) (.int j) M k := zr_I (C := DivOk) (g := fun i j => i.fdiv j) hc h
theorem zr_divP (h0 : 0 < j) (hc : Builtin.divisionGoesByPylong i j = false) (h : k (.int (i / j)) M) : ZR c rDivZ (.int i) (.int j) M k := zr_div ⟨by omega, hc⟩ (by rw [Int.fdiv_eq_ediv_of_nonneg i (by omega)]; exact h)
theorem zr_pow (hc : CPow i j) (h : k (.int (i ^ j.toNat)) M) : ZR c rPowZ (.int i) (.int j) M k := zr_I (C := CPow) (g := fun i j => i ^ j.toNat) hc h
theorem zr_lt (h : k (.bl (decide (i < j))) M) : ZR c rLtZ (.int i) (.int j) M k := zr_B0 (g := fun i j => decide (i < j)) h
theorem zr_le (h : k (.bl (decide (i ≤ j))) M) : ZR c rLeZ (.int i) (.int j) M k := zr_B0 (g := fun i j => decide (i ≤ j)) h
theorem zr_gt (h : k (.bl (decide (j < i))) M) : ZR c rGtZ (.int i) (.int j) M k := zr_B0 (g := fun i j => decide (j < i)) h
theorem zr_ge (h : k (.bl (decide (j ≤ i))) M) : ZR c rGeZ (.int i) (.int j) M k := zr_B0 (g := fun i j => decide (j ≤ i)) h
theorem zu_neg (h : k (.int (-i)) M) : ZU c uNegZ (.int i) M k := fun R F H v Q L r1 q => ⟨i, r1.of_int, q _ F H M _ (Ex.refl F) L (.int _) h⟩
/-- == of scalars -/
theorem zr_eqI (h : k (.bl (decide (i = j))) M) : ZR c (rEqZ c.K) (.int i) (.int j) M k := fun R F H v w Q L r1 r2 q => .inl (by
  rw [r1.of_int, r2.of_int]
  refine ⟨rfl, q _ F H M (.bl (decide (i = j))) (Ex.refl F) L ?_ h⟩
  rw [show decide (V.int i = V.int j) = decide (i = j) by simp]
  exact .bl _)
theorem zr_neI (h : k (.bl (!decide (i = j))) M) : ZR c (rNeZ c.K) (.int i) (.int j) M k := fun R F H v w Q L r1 r2 q => .inl (by
  rw [r1.of_int, r2.of_int]
  refine ⟨rfl, q _ F H M (.bl (!decide (i = j))) (Ex.refl F) L ?_ h⟩
  rw [show decide (V.int i = V.int j) = decide (i = j) by simp]
  exact .bl _)
theorem zr_eqB {i j : Bool} (h : k (.bl (decide (i = j))) M) : ZR c (rEqZ c.K) (.bl i) (.bl j) M k := fun R F H v w Q L r1 r2 q => .inl (by
  rw [r1.of_bl, r2.of_bl]
  refine ⟨rfl, q _ F H M (.bl (decide (i = j))) (Ex.refl F) L ?_ h⟩
  rw [show decide (V.bl i = V.bl j) = decide (i = j) by simp]
  exact .bl _)
theorem zr_neB {i j : Bool} (h : k (.bl (!decide (i = j))) M) : ZR c (rNeZ c.K) (.bl i) (.bl j) M k := fun R F H v w Q L r1 r2 q => .inl (by
  rw [r1.of_bl, r2.of_bl]
  refine ⟨rfl, q _ F H M (.bl (!decide (i = j))) (Ex.refl F) L ?_ h⟩
  rw [show decide (V.bl i = V.bl j) = decide (i = j) by simp]
  exact .bl _)
theorem zr_eqS {i j : Str} (h : k (.bl (decide (i = j))) M) : ZR c (rEqZ c.K) (.str i) (.str j) M k := fun R F H v w Q L r1 r2 q => .inl (by
  rw [r1.of_str, r2.of_str]
  refine ⟨rfl, q _ F H M (.bl (decide (i = j))) (Ex.refl F) L ?_ h⟩
  rw [show decide (V.str i = V.str j) = decide (i = j) by simp]
  exact .bl _)
theorem zr_neS {i j : Str} (h : k (.bl (!decide (i = j))) M) : ZR c (rNeZ c.K) (.str i) (.str j) M k := fun R F H v w Q L r1 r2 q => .inl (by
  rw [r1.of_str, r2.of_str]
  refine ⟨rfl, q _ F H M (.bl (!decide (i = j))) (Ex.refl F) L ?_ h⟩
  rw [show decide (V.str i = V.str j) = decide (i = j) by simp]
  exact .bl _)
def isNon : D → Bool
  | .non => true
  | _ => false
theorem non_iff {K : Fg} {F : Hp} {v : V} {d : D} (r : Rp K F v d) : decide (v = .non) = isNon d := by
  cases r <;> simp [isNon]
theorem zr_isN {d : D} (h : k (.bl (isNon d)) M) : ZR c rIsNZ d .non M k := fun R F H v w Q L r1 r2 q => ⟨r2.of_non, by
  rw [non_iff r1]
  exact q _ F H M _ (Ex.refl F) L (.bl _) h⟩
theorem zr_notN {d : D} (h : k (.bl (!isNon d)) M) : ZR c rNotNZ d .non M k := fun R F H v w Q L r1 r2 q => ⟨r2.of_non, by
  rw [non_iff r1]
  exact q _ F H M _ (Ex.refl F) L (.bl _) h⟩
/-- + of tuples, lists, texts -/
theorem zr_addT {xs ys : List D} (hl : xs.length + ys.length ≤ sizeLine) (h : k (.tup (xs ++ ys)) M) : ZR c (rAddZ c.K) (.tup xs) (.tup ys) M k := fun R F H v w Q L r1 r2 q => .inr (.inl (by
  obtain ⟨a, vs, rfl, s1, p1⟩ := r1.of_tup
  obtain ⟨b, ws, rfl, s2, p2⟩ := r2.of_tup
  refine ⟨a, b, vs, ws, rfl, rfl, ex_t L.fr s1, ex_t L.fr s2, by rw [p1.len, p2.len]; exact hl, fun e => ?_, fun e e2 => ?_, fun e e2 p hp => ?_⟩
  · have e' : xs = [] := List.eq_nil_of_length_eq_zero (by rw [← p1.len, e]; rfl)
    subst e'
    exact q _ F H M (.tup ys) (Ex.refl F) L (.mk_tup s2 p2) h
  · have e' : ys = [] := List.eq_nil_of_length_eq_zero (by rw [← p2.len, e2]; rfl)
    subst e'
    rw [List.append_nil] at h
    exact q _ F H M (.tup xs) (Ex.refl F) L (.mk_tup s1 p1) h
  · exact q _ _ _ M (.tup (xs ++ ys)) (ex_upd (L.free hp)) (L.new hp) (.mk_tup (SqT.of upd_same) ((p1.append p2).mono (ex_upd (L.free hp)))) h))
inductive St (M : Mem) : D → List D → Prop
  | lst {ds} : St M (.lst ds) ds
  | «at» {a : Addr} {ds} (i : Nat) (h : M[i]? = some (a, .lst ds)) : St M (.at a) ds
theorem St.read {K : Fg} {F H : Hp} {M R : Mem} {v : V} {d : D} {ds : List D} (s : St M d ds) (L : Lay K F (M ++ R) H) (r : Rp K F v d) : ∃ a vs, v = .ref a ∧ H a = some (.lst vs) ∧ Rps K F vs ds := by
  cases s with
  | lst =>
    obtain ⟨a, vs, e, h, q⟩ := r.of_lst
    exact ⟨a, vs, e, L.fr _ _ h, q⟩
  | «at» i h =>
    obtain ⟨vs, e, q⟩ := L.memAt h
    exact ⟨_, vs, r.of_at, e, q⟩
theorem zr_addL {x y : D} {xs ys : List D} (s1 : St M x xs) (s2 : St M y ys) (hl : xs.length + ys.length ≤ sizeLine) (h : k (.lst (xs ++ ys)) M) : ZR c (rAddZ c.K) x y M k := fun R F H v w Q L r1 r2 q => .inr (.inr (.inl (by
  obtain ⟨a, vs, rfl, e1, p1⟩ := s1.read L r1
  obtain ⟨b, ws, rfl, e2, p2⟩ := s2.read L r2
  exact ⟨a, b, vs, ws, rfl, rfl, e1, e2, by rw [p1.len, p2.len]; exact hl, fun p hp => q _ _ _ M (.lst (xs ++ ys)) (ex_upd (L.free hp)) (L.new hp) (.mk_lst upd_same ((p1.append p2).mono (ex_upd (L.free hp)))) h⟩)))
theorem zr_addS {x y : Str} (hl : x.length + y.length ≤ sizeLine) (h : k (.str (x ++ y)) M) : ZR c (rAddZ c.K) (.str x) (.str y) M k := fun R F H v w Q L r1 r2 q => .inr (.inr (.inr ⟨x, y, r1.of_str, r2.of_str, hl, q _ F H M _ (Ex.refl F) L (.str _) h⟩))
theorem Rps.rep {K : Fg} {F : Hp} {vs : List V} {ds : List D} (r : Rps K F vs ds) : ∀ n : Nat, Rps K F (List.replicate n vs).flatten (List.replicate n ds).flatten
  | 0 => .nil
  | n + 1 => by
    rw [List.replicate_succ, List.replicate_succ, List.flatten_cons, List.flatten_cons]
    exact r.append (r.rep n)
/-- list * int -/
theorem zr_repL {x : D} {xs : List D} {n : Int} (s1 : St M x xs) (h0 : -(2 ^ 63) ≤ n) (h1 : n < 2 ^ 63) (hl : xs.length * n.toNat ≤ sizeLine) (h : k (.lst (List.replicate n.toNat xs).flatten) M) : ZR c rMulZ x (.int n) M k := fun R F H v w Q L r1 r2 q => .inr (by
  obtain ⟨a, vs, rfl, e1, p1⟩ := s1.read L r1
  exact ⟨a, n, vs, rfl, r2.of_int, e1, h0, h1, by rw [p1.len]; exact hl, fun p hp => q _ _ _ M _ (ex_upd (L.free hp)) (L.new hp) (.mk_lst upd_same ((p1.rep n.toNat).mono (ex_upd (L.free hp)))) h⟩)
end
/-! ### subscripts, slices, membership -/
section
variable {X : Cx} {a b : Expr} {ta tb : TE} {pos p2 : Pos}
def rIxZ (K : Fg) : R2 := rIx K
theorem p_ix (ha : PE X a ta) (hb : PE X b tb) (hs : PlainIx b := by intro _ _; rfl) : PE X (.Subscript a b pos) (tOp (rIxZ X.K) ta tb) := pe_ix ix_seq ha hb hs
def rSlZ (K : Fg) : V → Option Int → Option Int → Hp → VK → Prop := fun x lo hi H Q => rSlL K x lo hi H Q ∨ rSlA K x lo hi H Q ∨ rSlS x lo hi H Q
theorem p_sl {lo hi : Option Expr} {tl th : TO} (he : PE X a ta) (hl : PO X lo tl) (hh : PO X hi th) : PE X (.Subscript a (.Slice lo hi none p2) pos) (tSl (rSlZ X.K) ta tl th) := pe_slice (sl_list.or (sl_tupA.or sl_str)) he hl hh
def rInZ (K : Fg) : R2 := rIn K false
def rNotInZ (K : Fg) : R2 := rIn K true
theorem p_in (ha : PE X a ta) (hb : PE X b tb) (hm : behindInMarks .In b = false := by rfl) : PE X (.Compare a [.In] [b] pos) (tOp (rInZ X.K) ta tb) := pe_cmpR op_in_seq ha hb hm
theorem p_notIn (ha : PE X a ta) (hb : PE X b tb) (hm : behindInMarks .NotIn b = false := by rfl) : PE X (.Compare a [.NotIn] [b] pos) (tOp (rNotInZ X.K) ta tb) := pe_cmpR op_notIn_seq ha hb hm
theorem q_in (ha : PE X a ta) (hb : PE X b tb) (hm : behindInMarks .In b = false := by rfl) : PT X (.Compare a [.In] [b] pos) (tTest (tOp (rInZ X.K) ta tb)) := pt_cmpR op_in_seq ha hb hm
theorem q_notIn (ha : PE X a ta) (hb : PE X b tb) (hm : behindInMarks .NotIn b = false := by rfl) : PT X (.Compare a [.NotIn] [b] pos) (tTest (tOp (rNotInZ X.K) ta tb)) := pt_cmpR op_notIn_seq ha hb hm
end
section
variable {M : Mem} {k : D → Mem → Prop} {Γ : Gm} {d : D} {ds : List D}
theorem zr_ix {i : Int} {e : D} (s : Sq M d ds) (hi : L2.atI ds i = some e) (h : k e M) : ZR c (rIxZ c.K) d (.int i) M k := fun R F H v w Q L r1 r2 q => by
  obtain ⟨a, vs, rfl, p, rr⟩ := s.read L r1
  obtain ⟨x, hx, rx⟩ := rr.atI hi
  have qq := q x F H M e (Ex.refl F) L rx h
  rcases p with p | p
  · exact .inl ⟨a, vs, i, x, rfl, r2.of_int, p, hx, qq⟩
  · exact .inr (.inl ⟨a, vs, i, x, rfl, r2.of_int, p, hx, qq⟩)
theorem zr_ixS {z : Str} {i : Int} {n : Nat} (hz : z.length ≤ sizeLine) (hi : L2.atI z.cps.toList i = some n) (h : k (.str ⟨#[n]⟩) M) : ZR c (rIxZ c.K) (.str z) (.int i) M k := fun R F H v w Q L r1 r2 q =>
  .inr (.inr ⟨z, i, n, r1.of_str, r2.of_int, hz, hi, q _ F H M _ (Ex.refl F) L (.str _) h⟩)
/-- the part of a slice -/
def ZO (c : Cz) (t : TO) (Γ : Gm) (M : Mem) (k : Option Int → Mem → Prop) : Prop :=
  ∀ (R : Mem) (F : Hp) (σ : L2.St) (H : Hp) (Q : Option Int → Hp → Prop), Has c.K F σ Γ → Lay c.K F (M ++ R) H → XOk c R F → KOk (fun _ (o : Option Int) o' => o = o') c.K R F k Q → t σ H Q
theorem zo_none {k : Option Int → Mem → Prop} (h : k none M) : ZO c tNoPart Γ M k := fun R F σ H Q hs L _ q => q none F H M none (Ex.refl F) L rfl h
theorem zo_some {te : TE} {k : Option Int → Mem → Prop} (h : ZE c te Γ M fun d M1 => ∃ i, d = .int i ∧ k (some i) M1) : ZO c (tPart te) Γ M k := fun R F σ H Q hs L X q =>
  h R F σ H _ hs L X fun v F1 H1 M1 d e1 L1 r1 ⟨i, e, h1⟩ => by
    subst e
    exact ⟨i, r1.of_int, q (some i) F1 H1 M1 (some i) e1 L1 rfl h1⟩
def ZSl (c : Cz) (r : V → Option Int → Option Int → Hp → VK → Prop) (d : D) (lo hi : Option Int) (M : Mem) (k : D → Mem → Prop) : Prop := ∀ (R : Mem) (F H : Hp) (v : V) (Q : VK), Lay c.K F (M ++ R) H → Rp c.K F v d → EOk c.K R F k Q → r v lo hi H Q
theorem z_sl {r : V → Option Int → Option Int → Hp → VK → Prop} {te : TE} {tl th : TO} (h : ZE c te Γ M fun d M1 => ZO c tl Γ M1 fun lo M2 => ZO c th Γ M2 fun hi M3 => ZSl c r d lo hi M3 k) : ZE c (tSl r te tl th) Γ M k := fun R F σ H Q hs L X q =>
  h R F σ H _ hs L X fun v F1 H1 M1 d e1 L1 r1 h1 => h1 R F1 σ H1 _ (hs.mono e1) L1 (X.mono e1) fun lo F2 H2 M2 lo' e2 L2 r2 h2 => h2 R F2 σ H2 _ ((hs.mono e1).mono e2) L2 (X.mono (e1.trans e2)) fun hi F3 H3 M3 hi' e3 L3 r3 h3 => by
    subst r2 r3
    exact h3 R F3 H3 v Q L3 (r1.mono (e2.trans e3)) (q.mono ((e1.trans e2).trans e3))
def cutD (xs : List D) (lo hi : Option Int) : List D := (xs.drop (HT.sIx xs.length 0 lo)).take (HT.sIx xs.length xs.length hi - HT.sIx xs.length 0 lo)
theorem Rps.cut {K : Fg} {F : Hp} {vs : List V} {ds : List D} (r : Rps K F vs ds) (lo hi : Option Int) : Rps K F (cutV vs lo hi) (cutD ds lo hi) := by
  unfold cutV cutD
  rw [r.len]
  exact (r.drop _).take _
/-- a slice of a list -/
theorem zl_list {lo hi : Option Int} (s : Sl M d ds) (h : k (.lst (cutD ds lo hi)) M) : ZSl c (rSlZ c.K) d lo hi M k := fun R F H v Q L r1 q => .inl (by
  obtain ⟨a, vs, rfl, p, rr⟩ := s.read L r1
  exact ⟨a, vs, rfl, p, fun p hp => q _ _ _ M _ (ex_upd (L.free hp)) (L.new hp) (.mk_lst upd_same ((rr.cut lo hi).mono (ex_upd (L.free hp)))) h⟩)
theorem zl_tup {lo hi : Option Int} (h : k (.tup (cutD ds lo hi)) M) : ZSl c (rSlZ c.K) (.tup ds) lo hi M k := fun R F H v Q L r1 q => .inr (.inl (by
  obtain ⟨a, vs, rfl, s1, rr⟩ := r1.of_tup
  refine ⟨a, vs, rfl, ex_t L.fr s1, fun ⟨e1, e2⟩ => ?_, fun _ p hp => q _ _ _ M _ (ex_upd (L.free hp)) (L.new hp) (.mk_tup (SqT.of upd_same) ((rr.cut lo hi).mono (ex_upd (L.free hp)))) h⟩
  have e : cutD ds lo hi = ds := by
    unfold cutD
    rw [← rr.len, e1, e2, List.drop_zero, Nat.sub_zero, rr.len, List.take_length]
  rw [e] at h
  exact q _ F H M _ (Ex.refl F) L (.mk_tup s1 rr) h))
theorem zl_str {z : Str} {lo hi : Option Int} (hz : z.length ≤ sizeLine) (h : k (.str (cutS z lo hi)) M) : ZSl c (rSlZ c.K) (.str z) lo hi M k := fun R F H v Q L r1 q => .inr (.inr ⟨z, r1.of_str, hz, q _ F H M _ (Ex.refl F) L (.str _) h⟩)
theorem Rps.ints {K : Fg} {F : Hp} : ∀ {ns : List Int} {vs : List V}, Rps K F vs (ns.map D.int) → vs = ns.map V.int
  | [], vs, r => r.unnil
  | n :: ns, vs, r => by
    obtain ⟨v, vs', rfl, r1, r2⟩ := r.uncons
    rw [r1.of_int, Rps.ints r2]
    rfl
theorem Rps.bls {K : Fg} {F : Hp} : ∀ {ns : List Bool} {vs : List V}, Rps K F vs (ns.map D.bl) → vs = ns.map V.bl
  | [], vs, r => r.unnil
  | n :: ns, vs, r => by
    obtain ⟨v, vs', rfl, r1, r2⟩ := r.uncons
    rw [r1.of_bl, Rps.bls r2]
    rfl
theorem Rps.strs {K : Fg} {F : Hp} : ∀ {ns : List Str} {vs : List V}, Rps K F vs (ns.map D.str) → vs = ns.map V.str
  | [], vs, r => r.unnil
  | n :: ns, vs, r => by
    obtain ⟨v, vs', rfl, r1, r2⟩ := r.uncons
    rw [r1.of_str, Rps.strs r2]
    rfl
theorem inV_ints (i : Int) : ∀ ns : List Int, inV (.int i) (ns.map V.int) = decide (i ∈ ns)
  | [] => rfl
  | n :: ns => by
    show (eqV (.int n) (.int i) || inV (.int i) (ns.map V.int)) = _
    rw [inV_ints i ns]
    have e : eqV (.int n) (.int i) = decide (i = n) := by
      show (n == i) = _
      by_cases h : n = i
      · subst h; simp
      · rw [beq_eq_false_iff_ne.mpr h, decide_eq_false (fun z => h z.symm)]
    rw [e, Bool.eq_iff_iff]
    simp
theorem all_flat_ints (ns : List Int) : (ns.map V.int).all flatV = true := by
  rw [List.all_map, List.all_eq_true]
  intro x _
  rfl
theorem zr_inI {i : Int} {ns : List Int} (s : Sq M d (ns.map D.int)) (h : k (.bl (decide (i ∈ ns))) M) : ZR c (rInZ c.K) (.int i) d M k := fun R F H v w Q L r1 r2 q => by
  obtain ⟨a, vs, rfl, p, rr⟩ := s.read L r2
  rw [rr.ints] at p
  refine ⟨a, _, rfl, p, by rw [r1.of_int]; rfl, all_flat_ints ns, ?_⟩
  rw [r1.of_int]
  show Q (.bl (inV (.int i) (ns.map V.int))) H
  rw [inV_ints]
  exact q _ F H M _ (Ex.refl F) L (.bl _) h
theorem zr_notInI {i : Int} {ns : List Int} (s : Sq M d (ns.map D.int)) (h : k (.bl (!decide (i ∈ ns))) M) : ZR c (rNotInZ c.K) (.int i) d M k := fun R F H v w Q L r1 r2 q => by
  obtain ⟨a, vs, rfl, p, rr⟩ := s.read L r2
  rw [rr.ints] at p
  refine ⟨a, _, rfl, p, by rw [r1.of_int]; rfl, all_flat_ints ns, ?_⟩
  rw [r1.of_int]
  show Q (.bl (!inV (.int i) (ns.map V.int))) H
  rw [inV_ints]
  exact q _ F H M _ (Ex.refl F) L (.bl _) h
end
/-! ### truth -/
/-- the truth of a datum -/
inductive TruD (M : Mem) : D → Bool → Prop
  | non : TruD M .non false
  | bl (b : Bool) : TruD M (.bl b) b
  | int (i : Int) : TruD M (.int i) (i != 0)
  | sq {d : D} {ds : List D} (s : Sq M d ds) : TruD M d (!ds.isEmpty)
theorem TruD.read {K : Fg} {F H : Hp} {M R : Mem} {v : V} {d : D} {b : Bool} (s : TruD M d b) (L : Lay K F (M ++ R) H) (r : Rp K F v d) : TruV K v H b := by
  cases s with
  | non => rw [r.of_non]; rfl
  | bl b => rw [r.of_bl]; rfl
  | int i => rw [r.of_int]; rfl
  | sq s =>
    obtain ⟨a, vs, rfl, p, rr⟩ := s.read L r
    have e : ∀ ds : List D, vs.length = ds.length → (!ds.isEmpty) = !vs.isEmpty := by
      intro ds h
      cases ds <;> cases vs <;> simp at h ⊢
    rw [e _ rr.len]
    rcases p with p | p
    · exact .inl ⟨vs, p, rfl⟩
    · exact .inr (.inl ⟨vs, p, rfl⟩)
def tTruZ (K : Fg) (t : TE) : TT := fun σ H Q => t σ H fun x H1 => ∃ k, TruV K x H1 k ∧ Q k H1
theorem q_truth {X : Cx} {a : Expr} {ta : TE} (ha : PE X a ta) (he : ∀ whole, isTrue a X.env whole = (do let v ← whole; standAt a.pos; holding [v] (truthy v)) := by intro _; rfl) : PT X a (tTruZ X.K ta) := pt_truth ha he
theorem zt_truth {ta : TE} {Γ : Gm} {M : Mem} {k : Bool → Mem → Prop} (h : ZE c ta Γ M fun d M1 => ∃ b, TruD M1 d b ∧ k b M1) : ZT c (tTruZ c.K ta) Γ M k := fun R F σ H Q hs L X q =>
  h R F σ H _ hs L X fun v F1 H1 M1 d e1 L1 r1 ⟨b, e, h1⟩ => ⟨b, e.read L1 r1, q b F1 H1 M1 b e1 L1 rfl h1⟩
/-! ### built-ins -/
def rLenZ (K : Fg) : List V → Hp → VK → Prop := fun xs H Q => ∃ x n, xs = [x] ∧ LenV K x H n ∧ Q (.int n) H
def rAbsZ : List V → Hp → VK → Prop := fun xs H Q => ∃ i, xs = [.int i] ∧ Q (.int (if i < 0 then -i else i)) H
def rMax2Z : List V → Hp → VK → Prop := fun xs H Q => ∃ i j, xs = [.int i, .int j] ∧ Q (.int (if j > i then j else i)) H
def rMin2Z : List V → Hp → VK → Prop := fun xs H Q => ∃ i j, xs = [.int i, .int j] ∧ Q (.int (if j < i then j else i)) H
def rIntZ : List V → Hp → VK → Prop := fun xs H Q => (∃ i, xs = [.int i] ∧ Q (.int i) H) ∨ ∃ k, xs = [.bl k] ∧ Q (.int (if k then 1 else 0)) H
def rListZ (K : Fg) : List V → Hp → VK → Prop := fun xs H Q => ∃ p ys, xs = [.ref p] ∧ (SqL K H p ys ∨ SqT K H p ys) ∧ ∀ l, H l = none → Q (.ref l) (upd H l (.lst ys))
def rTupZ (K : Fg) : List V → Hp → VK → Prop := fun xs H Q => ∃ p ys, xs = [.ref p] ∧ ((SqL K H p ys ∧ ∀ l, H l = none → Q (.ref l) (upd H l (.tup ys))) ∨ (SqT K H p ys ∧ Q (.ref p) H))
def rIsiZ (K : Fg) : List V → Hp → VK → Prop := rIsi K
def rGcdZ : List V → Hp → VK → Prop := rGcd
def rSumZ (K : Fg) : List V → Hp → VK → Prop := rSum K
def rAllZ (K : Fg) : List V → Hp → VK → Prop := rAll K
def rAnyZ (K : Fg) : List V → Hp → VK → Prop := rAny K
section
variable {X : Cx}
theorem cz_len : CallR X (.builtin "len") (rLenZ X.K) := call_len
theorem cz_abs : CallR X (.builtin "abs") rAbsZ := call_abs
theorem cz_max2 (hc : X.calm = true) : CallR X (.builtin "max") rMax2Z := call_max2 hc
theorem cz_min2 (hc : X.calm = true) : CallR X (.builtin "min") rMin2Z := call_min2 hc
theorem cz_int : CallR X (.type "int") rIntZ := call_int1
theorem cz_list : CallR X (.type "list") (rListZ X.K) := call_list_of
theorem cz_tuple : CallR X (.type "tuple") (rTupZ X.K) := call_tuple_of
theorem cz_isi : CallR X (.builtin "isinstance") (rIsiZ X.K) := call_isi
theorem cz_gcd : CallR X (.builtin "math.gcd") rGcdZ := cr_gcd
theorem cz_sum (hc : X.calm = true) : CallR X (.builtin "sum") (rSumZ X.K) := cr_sum hc
theorem cz_all (hc : X.calm = true) : CallR X (.builtin "all") (rAllZ X.K) := cr_all hc
theorem cz_any (hc : X.calm = true) : CallR X (.builtin "any") (rAnyZ X.K) := cr_any hc
end
theorem boot_isinstance : bootBuiltins "isinstance" = some (.builtin "isinstance") := by decide +kernel
theorem boot_abs : bootBuiltins "abs" = some (.builtin "abs") := by decide +kernel
theorem boot_max : bootBuiltins "max" = some (.builtin "max") := by decide +kernel
theorem boot_min : bootBuiltins "min" = some (.builtin "min") := by decide +kernel
theorem boot_sum : bootBuiltins "sum" = some (.builtin "sum") := by decide +kernel
theorem boot_all : bootBuiltins "all" = some (.builtin "all") := by decide +kernel
theorem boot_any : bootBuiltins "any" = some (.builtin "any") := by decide +kernel
theorem boot_int : bootBuiltins "int" = some (.type "int") := by decide +kernel
theorem boot_bool : bootBuiltins "bool" = some (.type "bool") := by decide +kernel
theorem boot_str : bootBuiltins "str" = some (.type "str") := by decide +kernel
theorem boot_list : bootBuiltins "list" = some (.type "list") := by decide +kernel
theorem boot_tuple : bootBuiltins "tuple" = some (.type "tuple") := by decide +kernel
theorem boot_sorted : bootBuiltins "sorted" = some (.builtin "sorted") := by decide +kernel
section
variable {M : Mem} {k : D → Mem → Prop} {d : D} {ds : List D} {i j : Int}
theorem Rps.one1 {K : Fg} {F : Hp} {vs : List V} {d : D} (r : Rps K F vs [d]) : ∃ v, vs = [v] ∧ Rp K F v d := by
  obtain ⟨v, vs', rfl, r1, r2⟩ := r.uncons
  exact ⟨v, by rw [r2.unnil], r1⟩
theorem Rps.two {K : Fg} {F : Hp} {vs : List V} {d e : D} (r : Rps K F vs [d, e]) : ∃ v w, vs = [v, w] ∧ Rp K F v d ∧ Rp K F w e := by
  obtain ⟨v, vs', rfl, r1, r2⟩ := r.uncons
  obtain ⟨w, rfl, r3⟩ := r2.one1
  exact ⟨v, w, rfl, r1, r3⟩
theorem zc_len (s : Sq M d ds) (h : k (.int ds.length) M) : ZC c (rLenZ c.K) [d] M k := fun R F H vs Q L r q => by
  obtain ⟨v, rfl, r1⟩ := r.one1
  obtain ⟨a, vs, rfl, p, rr⟩ := s.read L r1
  refine ⟨.ref a, ds.length, rfl, ?_, q _ F H M _ (Ex.refl F) L (.int _) h⟩
  rw [← rr.len]
  rcases p with p | p
  · exact .inl ⟨vs, p, rfl⟩
  · exact .inr ⟨vs, p, rfl⟩
theorem zc_lenS {z : Str} (hz : z.length ≤ sizeLine) (h : k (.int z.length) M) : ZC c (rLenZ c.K) [.str z] M k := fun R F H vs Q L r q => by
  obtain ⟨v, rfl, r1⟩ := r.one1
  rw [r1.of_str]
  exact ⟨.str z, z.length, rfl, ⟨hz, rfl⟩, q _ F H M _ (Ex.refl F) L (.int _) h⟩
theorem abs_eq (i : Int) : (if i < 0 then -i else i) = (i.natAbs : Int) := by
  split <;> omega
theorem zc_abs (h : k (.int (i.natAbs : Int)) M) : ZC c rAbsZ [.int i] M k := fun R F H vs Q L r q => by
  obtain ⟨v, rfl, r1⟩ := r.one1
  rw [r1.of_int]
  refine ⟨i, rfl, ?_⟩
  rw [abs_eq]
  exact q _ F H M _ (Ex.refl F) L (.int _) h
theorem zc_max2 (h : k (.int (max i j)) M) : ZC c rMax2Z [.int i, .int j] M k := fun R F H vs Q L r q => by
  obtain ⟨v, w, rfl, r1, r2⟩ := r.two
  rw [r1.of_int, r2.of_int]
  refine ⟨i, j, rfl, ?_⟩
  rw [show (if j > i then j else i) = max i j by split <;> omega]
  exact q _ F H M _ (Ex.refl F) L (.int _) h
theorem zc_min2 (h : k (.int (min i j)) M) : ZC c rMin2Z [.int i, .int j] M k := fun R F H vs Q L r q => by
  obtain ⟨v, w, rfl, r1, r2⟩ := r.two
  rw [r1.of_int, r2.of_int]
  refine ⟨i, j, rfl, ?_⟩
  rw [show (if j < i then j else i) = min i j by split <;> omega]
  exact q _ F H M _ (Ex.refl F) L (.int _) h
theorem zc_int (h : k (.int i) M) : ZC c rIntZ [.int i] M k := fun R F H vs Q L r q => by
  obtain ⟨v, rfl, r1⟩ := r.one1
  rw [r1.of_int]
  exact .inl ⟨i, rfl, q _ F H M _ (Ex.refl F) L (.int _) h⟩
theorem zc_intB {b : Bool} (h : k (.int (if b then 1 else 0)) M) : ZC c rIntZ [.bl b] M k := fun R F H vs Q L r q => by
  obtain ⟨v, rfl, r1⟩ := r.one1
  rw [r1.of_bl]
  exact .inr ⟨b, rfl, q _ F H M _ (Ex.refl F) L (.int _) h⟩
theorem zc_gcd (h : k (.int ((Nat.gcd i.natAbs j.natAbs : Nat) : Int)) M) : ZC c rGcdZ [.int i, .int j] M k := fun R F H vs Q L r q => by
  obtain ⟨v, w, rfl, r1, r2⟩ := r.two
  rw [r1.of_int, r2.of_int]
  exact ⟨i, j, rfl, q _ F H M _ (Ex.refl F) L (.int _) h⟩
theorem zc_sum {ns : List Int} (s : Sl M d (ns.map D.int)) (h : k (.int ns.sum) M) : ZC c (rSumZ c.K) [d] M k := fun R F H vs Q L r q => by
  obtain ⟨v, rfl, r1⟩ := r.one1
  obtain ⟨a, vs, rfl, p, rr⟩ := s.read L r1
  rw [rr.ints] at p
  exact ⟨a, ns, rfl, p, q _ F H M _ (Ex.refl F) L (.int _) h⟩
theorem zc_all {bs : List Bool} (s : Sl M d (bs.map D.bl)) (h : k (.bl (bs.all id)) M) : ZC c (rAllZ c.K) [d] M k := fun R F H vs Q L r q => by
  obtain ⟨v, rfl, r1⟩ := r.one1
  obtain ⟨a, vs, rfl, p, rr⟩ := s.read L r1
  rw [rr.bls] at p
  exact ⟨a, bs, rfl, p, q _ F H M _ (Ex.refl F) L (.bl _) h⟩
theorem zc_any {bs : List Bool} (s : Sl M d (bs.map D.bl)) (h : k (.bl (bs.any id)) M) : ZC c (rAnyZ c.K) [d] M k := fun R F H vs Q L r q => by
  obtain ⟨v, rfl, r1⟩ := r.one1
  obtain ⟨a, vs, rfl, p, rr⟩ := s.read L r1
  rw [rr.bls] at p
  exact ⟨a, bs, rfl, p, q _ F H M _ (Ex.refl F) L (.bl _) h⟩
theorem zc_list (s : Sq M d ds) (h : k (.lst ds) M) : ZC c (rListZ c.K) [d] M k := fun R F H vs Q L r q => by
  obtain ⟨v, rfl, r1⟩ := r.one1
  obtain ⟨a, vs, rfl, p, rr⟩ := s.read L r1
  exact ⟨a, vs, rfl, p, fun p hp => q _ _ _ M _ (ex_upd (L.free hp)) (L.new hp) (.mk_lst upd_same (rr.mono (ex_upd (L.free hp)))) h⟩
theorem zc_tuple (s : Sl M d ds) (h : k (.tup ds) M) : ZC c (rTupZ c.K) [d] M k := fun R F H vs Q L r q => by
  obtain ⟨v, rfl, r1⟩ := r.one1
  obtain ⟨a, vs, rfl, p, rr⟩ := s.read L r1
  exact ⟨a, vs, rfl, .inl ⟨p, fun p hp => q _ _ _ M _ (ex_upd (L.free hp)) (L.new hp) (.mk_tup (SqT.of upd_same) (rr.mono (ex_upd (L.free hp)))) h⟩⟩
theorem zc_tupleT (h : k (.tup ds) M) : ZC c (rTupZ c.K) [.tup ds] M k := fun R F H vs Q L r q => by
  obtain ⟨v, rfl, r1⟩ := r.one1
  obtain ⟨a, vs, rfl, p, rr⟩ := r1.of_tup
  exact ⟨a, vs, rfl, .inr ⟨ex_t L.fr p, q _ F H M _ (Ex.refl F) L (.mk_tup p rr) h⟩⟩
/-- a built-in call whose new list may change -/
theorem z_listM {ta : TA} {Γ : Gm} (h : ZA c ta Γ M fun ds M1 => ∃ d xs, ds = [d] ∧ Sq M1 d xs ∧ ∀ p, k (.at p) ((p, .lst xs) :: M1)) : ZE c (mk (tCB (rListZ c.K) ta)) Γ M k := fun R F σ H Q hs L X q =>
  h R F σ H _ hs L X fun vs F1 H1 M1 ds e1 L1 r1 ⟨d, xs, e, s, h1⟩ => by
    subst e
    obtain ⟨v, rfl, r2⟩ := r1.one1
    obtain ⟨a, vs, rfl, p, rr⟩ := s.read L1 r2
    exact ⟨a, vs, rfl, p, fun p hp => q _ F1 _ ((p, .lst xs) :: M1) (.at p) e1 (L1.newM hp ⟨vs, upd_same, rr⟩) (.at p) (h1 p)⟩
/-- isinstance of a built-in class -/
def tyD : D → Option String
  | .non => some "NoneType"
  | .bl _ => some "bool"
  | .int _ => some "int"
  | .str _ => some "str"
  | .tup _ => some "tuple"
  | .lst _ => some "list"
  | .scr _ => none
  | _ => none
theorem tyD_ok {K : Fg} {F H : Hp} {M : Mem} {v : V} {d : D} {T : String} (h : tyD d = some T) (L : Lay K F M H) (r : Rp K F v d) : TyX K H v (.type T) := by
  cases d with
  | non => cases h; rw [r.of_non]; exact .base .non
  | bl b => cases h; rw [r.of_bl]; exact .base (.bl b)
  | int b => cases h; rw [r.of_int]; exact .base (.int b)
  | str b => cases h; rw [r.of_str]; exact .base (.str b)
  | tup ds =>
    cases h
    obtain ⟨a, vs, rfl, p, _⟩ := r.of_tup
    rcases ex_t L.fr p with (p | ⟨o, p⟩) | ⟨o, its, n, p, hc, _⟩
    · exact .base (.tup p)
    · exact .fTuple p
    · exact .kTuple p hc
  | lst ds =>
    cases h
    obtain ⟨a, vs, rfl, p, _⟩ := r.of_lst
    exact .base (.lst (L.fr _ _ p))
  | _ => cases h
theorem zc_isi {T U : String} {b : Bool} (ht : tyD d = some T) (hk : kitB T U = some b) (h : k (.bl b) M) : ZC c (rIsiZ c.K) [d, .ty U] M k := fun R F H vs Q L r q => by
  obtain ⟨v, w, rfl, r1, r2⟩ := r.two
  rw [r2.of_ty]
  exact ⟨v, .ty U, .type T, .type U, b, rfl, .ty U, tyD_ok ht L r1, kit_ty hk, q _ F H M _ (Ex.refl F) L (.bl _) h⟩
theorem zc_isiAt {a : Addr} {i : Nat} (hi : M[i]? = some (a, .lst ds)) {U : String} {b : Bool} (hk : kitB "list" U = some b) (h : k (.bl b) M) : ZC c (rIsiZ c.K) [.at a, .ty U] M k := fun R F H vs Q L r q => by
  obtain ⟨v, w, rfl, r1, r2⟩ := r.two
  rw [r2.of_ty, r1.of_at]
  obtain ⟨vs, e, _⟩ := L.memAt hi
  exact ⟨_, .ty U, .type "list", .type U, b, rfl, .ty U, .base (.lst e), kit_ty hk, q _ F H M _ (Ex.refl F) L (.bl _) h⟩
theorem kit_ii : kitB "int" "int" = some true := by decide +kernel
theorem kit_ib : kitB "int" "bool" = some false := by decide +kernel
theorem kit_bi : kitB "bool" "int" = some true := by decide +kernel
theorem kit_bb : kitB "bool" "bool" = some true := by decide +kernel
theorem kit_tt : kitB "tuple" "tuple" = some true := by decide +kernel
theorem kit_ll : kitB "list" "list" = some true := by decide +kernel
theorem kit_ss : kitB "str" "str" = some true := by decide +kernel
theorem kit_nt : kitB "NoneType" "tuple" = some false := by decide +kernel
end
end Z
set_option Elab.async false
set_option linter.all false
set_option maxRecDepth 100000
set_option maxHeartbeats 4000000
/-! ZMore: methods of lists, stores, comprehensions, iterators, calls of defs, a def's body, a law's end. -/
namespace PySem
/-- enumerate(v) of whatever begins so -/
theorem meets_enumerate_newG {v : Value} {o : Obj} {H : Heap → Prop} (B : Begins v o H) :
    Meets (Builtin.«enumerate.__new__» ⟨[.type "enumerate", v], []⟩) (fun _ R s => H s.heap ∧
      R (.ok (.ret (.ref (s.heap.push o).objs.size))) { s with heap := (s.heap.push o).push { cls := .type "enumerate", data := .fields #[.none, .bool false, .ref s.heap.objs.size, rawInt 0, .none, .none] } }) :=
  .of_wp fun prog w A R s h => by
    obtain ⟨hp, g, d, tk, os⟩ := s; obtain ⟨h1, h⟩ := h
    have hsub := sub_enumerate
    have q1 : ∀ {A' : Around} {E : Value → Shared → Prop} {Q : Value → Shared → Prop}, Q (.ref hp.objs.size) ⟨hp.push o, g, d, tk, os⟩ → wpAny (model prog w) A' (pyIter v) Q E ⟨hp, g, d, tk, os⟩ :=
      fun q => B.iter prog w _ _ ⟨hp, g, d, tk, os⟩ _ h1 q
    wp_walk using q1
    refine wpAny_stack_any fun st => wpAny_pure ?_
    split
    · rename_i c _ _ _ _ _
      cases (c == Value.type "enumerate")
      · wp_walk using q1
        exact ⟨_, rfl, h⟩
      · wp_walk using q1
        exact ⟨_, rfl, h⟩
    · wp_walk using q1
      exact ⟨_, rfl, h⟩
section
variable {prog : Program} {w : World} {A : Around} {E : Value → Shared → Prop} {s : Shared}
theorem enum_beginsG {v : Value} {o : Obj} {H : Heap → Prop} {Q : Value → Shared → Prop} (B : Begins v o H) (h1 : H s.heap)
    (h : ∀ h', IsEnum h' (s.heap.objs.size + 1) s.heap.objs.size 0 .none → h'.get? s.heap.objs.size = some o → h'.objs.size = s.heap.objs.size + 2 →
      (∀ b o, s.heap.get? b = some o → h'.get? b = some o) → Q (.ref (s.heap.objs.size + 1)) { s with heap := h' }) :
    wpAny (model prog w) A (call (.type "enumerate") [v]) Q E s := by
  refine callType_new F.called_enumerate (by decide) (F.typeCall_enumerate_1 _) (F.newCall_enumerate_1 _) (fun obj => F.args_object_init_2 obj _) F.entry_enumerate_new
    (meets_enumerate_newG B) ⟨h1, ?_⟩
  have hz : (s.heap.push o).objs.size = s.heap.objs.size + 1 := Heap.size_push ..
  show _ ∧ _
  rw [hz]
  have he : IsEnum ((s.heap.push o).push { cls := .type "enumerate", data := .fields #[.none, .bool false, .ref s.heap.objs.size, rawInt 0, .none, .none] }) (s.heap.objs.size + 1) s.heap.objs.size 0 .none := by
    have := Heap.get?_push_size (s.heap.push o) (o := { cls := .type "enumerate", data := .fields #[.none, .bool false, .ref s.heap.objs.size, rawInt 0, .none, .none] }) rfl
    rw [hz] at this; exact this
  refine ⟨⟨_, he, rfl⟩, h _ he (Heap.get?_push_of_some _ (Heap.get?_push_size _ B.free)) (by rw [Heap.size_push, hz]) fun b o x => Heap.get?_push_of_some _ (Heap.get?_push_of_some _ x)⟩
end
end PySem
namespace Z
open PySem PySem.Spec PyProof.Rows L2
variable {c : Cz}
/-! ### enumerate of a tuple -/
def IteT (K : Fg) (a : Addr) (n : Nat) : It :=
  ⟨fun i H => ∃ (xs : List V) (x : V), SqT K H a xs ∧ xs[i]? = some x ∧ xs.length = n, fun i H v H' => ∃ T x, v = .ref T ∧ H T = none ∧ H' = upd H T (.tup [.int (i : Nat), x]) ∧ ∀ xs, SqT K H a xs → xs[i]? = some x, fun i H => ∃ xs : List V, SqT K H a xs ∧ xs.length = n ∧ n ≤ i⟩
theorem turn_enumT {P : Program} {w : World} {K : Fg} {elts : List Expr} {kk : Nat} {tpos : Pos} (a e it : Addr) (n : Nat) :
    Turn P w K (.Tuple elts kk tpos) (IteT K a n) [e, it] e (fun i h => (∃ old, IsEnum h e it ((i : Nat) : Int) old) ∧ h.IsTupleIter it a i ∧ e ≠ it ∧ i ≤ n ∧ a ≠ it ∧ a ≠ e) where
  mem := by simp
  obj := fun i h st b hb => by
    obtain ⟨⟨old, he⟩, ⟨o, ho, hc, hd⟩, _⟩ := st
    have e' : b = e ∨ b = it := by simpa using hb
    rcases e' with z | z
    · rw [z]; exact ⟨_, he, fun v q => nomatch q⟩
    · rw [z]; exact ⟨o, ho, fun v q => by rw [hd] at q; cases q⟩
  keep := fun i h h' st k => let ⟨⟨old, he⟩, hi, hne⟩ := st; ⟨⟨old, k e (by simp) _ he⟩, hi.at fun o q => k it (by simp) o q, hne⟩
  item := by
    intro X hP hw hK hc i pins s σ H E I hf st hg
    subst hP hw hK
    obtain ⟨⟨old, he⟩, hit, hne, hin, hai, hae⟩ := st
    obtain ⟨xs, x, hq, hx, hn⟩ := hg
    obtain ⟨its, rv, p, hz⟩ := I.tuple hq
    obtain ⟨u, hu, ru⟩ := rv.get hx
    have hel : e < s.heap.objs.size := Heap.lt_size he
    have hil : it < s.heap.objs.size := by obtain ⟨_, q, _⟩ := hit; exact Heap.lt_size q
    have hlen : its.toArray.size = n := by rw [List.size_toArray, ← rv.length, hn]
    have hlt : i < its.toArray.size := by
      rw [List.size_toArray, ← rv.length]
      exact (List.getElem?_eq_some_iff.mp hx).1
    refine wpAny_pyNext_enum_itemC (Draws.tuple (A := X.A.in1) (I.ok.hd hc) it a hai its.toArray) he ⟨hit, p⟩ hlt hne (by simp [hne, hae.symm]) fun u' h' tk hu' ho hst' hT hsz hk => ?_
    have eu : u' = u := by
      rw [List.getElem?_toArray] at hu'
      rw [hu] at hu'
      exact (Option.some.inj hu').symm
    subst eu
    refine ⟨_, rfl, wpAny_letOwnedTupleGo_enum (s := { s with heap := h', toks := tk + 1 }) ho fun h'' he' sb => ?_⟩
    have hT2 : h''.get? s.heap.objs.size = some { cls := .type "tuple", data := .seq #[.int i tk, u'] } := (sb.2 _ (Nat.ne_of_gt hel)).trans hT
    have new : ObjOk X.prog X.w (upd H s.heap.objs.size (.tup [.int (i : Nat), x])) h'' s.heap.objs.size (.tup [.int (i : Nat), x]) :=
      ⟨by show 2 ≤ sizeLine; decide, [.int i tk, u'], .cons ⟨_, rfl⟩ (.cons ru .nil), ⟨_, hT2, rfl, _, rfl⟩⟩
    have I1 : Inv X pins σ (upd H s.heap.objs.size (.tup [.int (i : Nat), x])) { s with heap := h'', toks := tk + 1 } :=
      I.turnedNew (ch := [e, it]) (fun b ob hb q => (sb.2 b (fun z => hb (by simp [z]))).trans (hk b ob (fun z => hb (by simp [z])) (fun z => hb (by simp [z])) q)) hf (Nat.le_refl _) new
    refine ⟨.ref s.heap.objs.size, _, I1, rfl, ⟨_, x, rfl, I.hok.fresh (Nat.le_refl _), rfl, fun ys hy => by rw [I.tuple_inj hy hq]; exact hx⟩, ⟨⟨u', ?_⟩, hst'.1.at fun o q => (sb.2 it (Ne.symm hne)).trans q, hne, by omega, hai, hae⟩, fun b hb => ?_⟩
    · have e1 : ((i + 1 : Nat) : Int) = (i : Int) + 1 := by omega
      rw [e1]; exact he'
    · have hb' : b < s.heap.objs.size := by
        have e' : b = e ∨ b = it := by simpa using hb
        rcases e' with z | z
        · rw [z]; exact hel
        · rw [z]; exact hil
      rw [upd_ne (Nat.ne_of_lt hb')]
      exact (hf b hb).1
  done := by
    intro X hP hw hK hc i pins s σ H E I hf st hg
    subst hP hw hK
    obtain ⟨⟨old, he⟩, hit, hne, hin, hai, hae⟩ := st
    obtain ⟨xs, hq, hn, hx⟩ := hg
    obtain ⟨its, rv, p, hz⟩ := I.tuple hq
    obtain ⟨f0, f1, f2, f3, f4, f5⟩ := hf it (by simp)
    have ei : i = its.toArray.size := by rw [List.size_toArray, ← rv.length]; omega
    refine wpAny_pyNext_enum_endD (Draws.tuple (A := X.A.in1) (I.ok.hd hc) it a hai its.toArray) he (by rw [← ei]; exact ⟨hit, p⟩) fun h' eb => ⟨rfl, I.turned (t' := s.toks) (fun b o hb q => eb b o hb q) f0 f1 f3 f4 f5⟩
  self := fun A i s Q E st h => let ⟨⟨_, he⟩, _⟩ := st; wpAny_pyIter_enum he h
/-- enumerate of a list or a tuple -/
def iEnumZ (K : Fg) (ta : TA) : TI := fun σ H R => ta σ H fun vs H1 => ∃ a xs, vs = [.ref a] ∧ ((SqL K H1 a xs ∧ R (Ite K a) H1) ∨ (SqT K H1 a xs ∧ R (IteT K a xs.length) H1))
theorem pi_enumZ {X : Cx} {e : Expr} {ta : TA} {p pos tpos : Pos} {elts : List Expr} {kk : Nat} (hg : Gl X "enumerate") (hm : X.mg "enumerate" = none) (ha : PA X [e] ta) (hs : starEach [e] X.env = [(false, eval e X.env)] := by rfl) :
    PI X (.Tuple elts kk tpos) (.Call (.Name "enumerate" p) [e] [] pos) (iEnumZ X.K ta) := by
  refine ⟨fun pins s σ H R I h => ?_⟩
  refine Call_ (ld_blt I hg hm boot_enumerate (PyProof.Rows.callWith_type1 (thn (ha.run pos pins s σ H _ I h) fun us s1 ⟨vs, H1, I1, r1, q1⟩ => ?_) hs rfl))
  obtain ⟨a, xs, ex, q⟩ := q1
  subst ex
  cases r1 with
  | cons r rr =>
    cases rr
    cases r
    have fin : ∀ (tn : Nat → Heap → Prop) (J : It) (h' : Heap), (∀ b o, s1.heap.get? b = some o → h'.get? b = some o) → Turn X.prog X.w X.K (.Tuple elts kk tpos) J [s1.heap.objs.size + 1, s1.heap.objs.size] (s1.heap.objs.size + 1) tn → tn 0 h' → R J H1 → PIE X pins σ (.Tuple elts kk tpos) R (.ref (s1.heap.objs.size + 1)) { s1 with heap := h' } := fun tn J h' hk tt t0 q => by
      have I2 : Inv X pins σ H1 { s1 with heap := h' } := I1.kept (t' := s1.toks) hk
      refine ⟨s1.heap.objs.size + 1, [s1.heap.objs.size + 1, s1.heap.objs.size], tn, J, H1, rfl, I2, tt, t0, fun b hb => ?_, q⟩
      have e' : b = s1.heap.objs.size + 1 ∨ b = s1.heap.objs.size := by simpa using hb
      have hle : s1.heap.objs.size ≤ b := by
        rcases e' with z | z
        · rw [z]; exact Nat.le_add_right _ _
        · rw [z]; exact Nat.le_refl _
      exact I1.fpOk hle (I1.hok.fresh hle)
    rcases q with ⟨hq, q⟩ | ⟨hq, q⟩
    · obtain ⟨its, rv, p', hz⟩ := I1.list hq
      exact call_enumerate_list p'.isList fun h' he hit hsz hk => wpAny_pyIter_enum he (fin _ _ h' hk (turn_enum a (s1.heap.objs.size + 1) s1.heap.objs.size) ⟨⟨.none, he⟩, hit, Nat.succ_ne_self _⟩ q)
    · obtain ⟨its, rv, p', hz⟩ := I1.tuple hq
      have hal : a < s1.heap.objs.size := p'.lt
      refine enum_beginsG (begins_tuple a its.toArray) p' fun h' he hit hsz hk => wpAny_pyIter_enum he (fin _ _ h' hk (turn_enumT a (s1.heap.objs.size + 1) s1.heap.objs.size xs.length) ⟨⟨.none, he⟩, ⟨_, hit, rfl, rfl⟩, Nat.succ_ne_self _, Nat.zero_le _, Nat.ne_of_lt hal, Nat.ne_of_lt (Nat.lt_succ_of_lt hal)⟩ q)
/-! ### a list, a tuple, a text walked -/
def iSeqZ (K : Fg) (tl : TE) : TI := fun σ H R => tl σ H fun x H1 => (∃ a, x = .ref a ∧ (∃ xs, SqL K H1 a xs) ∧ R (Itl K a) H1) ∨ (∃ a, x = .ref a ∧ (∃ xs, SqT K H1 a xs) ∧ R (Itt K a) H1) ∨ ∃ x', x = .str x' ∧ R (Its x') H1
theorem pi_seqZ {X : Cx} {tg l : Expr} {tl : TE} (hl : PE X l tl) : PI X tg l (iSeqZ X.K tl) := by
  refine ⟨fun pins s σ H R I h => ?_⟩
  refine thn (hl.run pins s σ H _ I h) fun v s1 ⟨x, H1, I1, r1, q1⟩ => ?_
  rcases q1 with ⟨a, e, ⟨xs, hq⟩, q⟩ | ⟨a, e, ⟨xs, hq⟩, q⟩ | ⟨x', ex, q⟩
  · subst e
    cases r1
    obtain ⟨its, rv, p, hz⟩ := I1.list hq
    refine wpAny_pyIter_list p.isList ?_
    refine ⟨s1.heap.objs.size, [s1.heap.objs.size], _, _, H1, rfl, I1.kept (t' := s1.toks) fun b o e => Heap.get?_push_of_some _ e, turn_list a _, ⟨_, Heap.get?_push_size _ rfl, rfl, rfl⟩, fun b hb => ?_, q⟩
    have e : b = s1.heap.objs.size := by simpa using hb
    subst e
    exact I1.fpOk (Nat.le_refl _) (I1.hok.fresh (Nat.le_refl _))
  · subst e
    cases r1
    obtain ⟨its, rv, p, hz⟩ := I1.tuple hq
    refine wpAny_pyIter_tuple (show s1.heap.IsTuple a its.toArray from p) ?_
    refine ⟨s1.heap.objs.size, [s1.heap.objs.size], _, _, H1, rfl, I1.kept (t' := s1.toks) fun b o e => Heap.get?_push_of_some _ e, turn_tuple a _, ⟨_, Heap.get?_push_size _ rfl, rfl, rfl⟩, fun b hb => ?_, q⟩
    have e : b = s1.heap.objs.size := by simpa using hb
    subst e
    exact I1.fpOk (Nat.le_refl _) (I1.hok.fresh (Nat.le_refl _))
  · subst ex
    obtain ⟨t, rfl⟩ := r1
    cases ha : x'.cps.all (· < 128)
    · exact wpAny_pyIter_wide ha (pi_one (tk := s1.toks) I1 _ (turn_str _ x' t "str_iterator" (.inr rfl)) ⟨_, Heap.get?_push_size _ rfl, rfl, rfl⟩ q)
    · exact wpAny_pyIter_ascii ha (pi_one (tk := s1.toks) I1 _ (turn_str _ x' t "str_ascii_iterator" (.inl rfl)) ⟨_, Heap.get?_push_size _ rfl, rfl, rfl⟩ q)
section
variable {Γ : Gm} {M : Mem} {kk : List D → Mem → Prop}
theorem walks_l {K : Fg} {F : Hp} {a : Addr} {vs : List V} {ds : List D} (h : SqL K F a vs) (r : Rps K F vs ds) (inj : ∀ F1 M1 H1, Ex F F1 → Lay K F1 M1 H1 → ∀ xs, SqL K H1 a xs → xs = vs) : Walks K F (Itl K a) ds := fun F1 M1 H1 e L => by
  have hs : SqL K H1 a vs := ex_l L.fr (ex_l e h)
  refine ⟨fun i hi => ⟨vs, vs[i]'(by rw [r.len]; exact hi), hs, List.getElem?_eq_getElem _⟩, fun i hi => ⟨vs, hs, by rw [r.len]; exact hi⟩, fun i d x H2 hd hy => ?_⟩
  obtain ⟨rfl, hy⟩ := hy
  obtain ⟨v, hv, rv⟩ := r.get hd
  have ev : x = v := Option.some.inj ((hy vs hs).symm.trans hv)
  subst ev
  exact ⟨F1, Ex.refl _, L, rv.mono e⟩
/-- what stands at an address is one thing alone, whatever heap it is read in (no injectivity is needed: a turn's datum is told by the row that we know) -/
theorem walks_list {K : Fg} {F : Hp} {a : Addr} {vs : List V} {ds : List D} (h : SqL K F a vs) (r : Rps K F vs ds) : Walks K F (Itl K a) ds := fun F1 M1 H1 e L => by
  have hs : SqL K H1 a vs := ex_l L.fr (ex_l e h)
  refine ⟨fun i hi => ⟨vs, vs[i]'(by rw [r.len]; exact hi), hs, List.getElem?_eq_getElem _⟩, fun i hi => ⟨vs, hs, by rw [r.len]; exact hi⟩, fun i d x H2 hd hy => ?_⟩
  obtain ⟨rfl, hy⟩ := hy
  obtain ⟨v, hv, rv⟩ := r.get hd
  have ev : x = v := Option.some.inj ((hy vs hs).symm.trans hv)
  subst ev
  exact ⟨F1, Ex.refl _, L, rv.mono e⟩
theorem walks_tup {K : Fg} {F : Hp} {a : Addr} {vs : List V} {ds : List D} (h : SqT K F a vs) (r : Rps K F vs ds) : Walks K F (Itt K a) ds := fun F1 M1 H1 e L => by
  have hs : SqT K H1 a vs := ex_t L.fr (ex_t e h)
  refine ⟨fun i hi => ⟨vs, vs[i]'(by rw [r.len]; exact hi), hs, List.getElem?_eq_getElem _⟩, fun i hi => ⟨vs, hs, by rw [r.len]; exact hi⟩, fun i d x H2 hd hy => ?_⟩
  obtain ⟨rfl, hy⟩ := hy
  obtain ⟨v, hv, rv⟩ := r.get hd
  have ev : x = v := Option.some.inj ((hy vs hs).symm.trans hv)
  subst ev
  exact ⟨F1, Ex.refl _, L, rv.mono e⟩
/-- the signs of a text -/
def signsD (x : Str) : List D := x.cps.toList.map fun n => D.str ⟨#[n]⟩
theorem walks_str {K : Fg} {F : Hp} {x : Str} : Walks K F (Its x) (signsD x) := fun F1 M1 H1 e L => by
  have hl : (signsD x).length = x.cps.size := by unfold signsD; rw [List.length_map, Array.length_toList]
  refine ⟨fun i hi => by rw [hl] at hi; exact hi, fun i hi => by rw [hl] at hi; exact hi, fun i d v H2 hd hy => ?_⟩
  obtain ⟨rfl, n, hn, rfl⟩ := hy
  refine ⟨F1, Ex.refl _, L, ?_⟩
  unfold signsD at hd
  rw [List.getElem?_map, Array.getElem?_toList, hn] at hd
  cases hd
  exact .str _
theorem zi_seq {tl : TE} (h : ZE c tl Γ M fun d M1 => ∃ ds, Sf d ds ∧ kk ds M1) : ZI c (iSeqZ c.K tl) Γ M kk := fun R F σ H Q hs L X q =>
  h R F σ H _ hs L X fun v F1 H1 M1 d e1 L1 r1 ⟨ds, s, h1⟩ => by
    cases s with
    | tup =>
      obtain ⟨a, vs, rfl, p, rr⟩ := r1.of_tup
      exact .inr (.inl ⟨a, rfl, ⟨vs, ex_t L1.fr p⟩, q _ F1 H1 M1 ds e1 L1 (walks_tup p rr) h1⟩)
    | lst =>
      obtain ⟨a, vs, rfl, p, rr⟩ := r1.of_lst
      exact .inl ⟨a, rfl, ⟨vs, SqL.of (L1.fr _ _ p)⟩, q _ F1 H1 M1 ds e1 L1 (walks_list (SqL.of p) rr) h1⟩
    | scr =>
      obtain ⟨a, vs, rfl, p, rr⟩ := r1.of_scr
      exact .inl ⟨a, rfl, ⟨vs, ex_l L1.fr p⟩, q _ F1 H1 M1 ds e1 L1 (walks_list p rr) h1⟩
theorem zi_str {tl : TE} (h : ZE c tl Γ M fun d M1 => ∃ x, d = .str x ∧ kk (signsD x) M1) : ZI c (iSeqZ c.K tl) Γ M kk := fun R F σ H Q hs L X q =>
  h R F σ H _ hs L X fun v F1 H1 M1 d e1 L1 r1 ⟨x, e, h1⟩ => by
    subst e
    exact .inr (.inr ⟨x, r1.of_str, q _ F1 H1 M1 _ e1 L1 walks_str h1⟩)
/-- range -/
def rngD (lo : Int) (n : Nat) : List D := (List.range n).map fun i => D.int (lo + (i : Nat))
theorem rngD_length (lo : Int) (n : Nat) : (rngD lo n).length = n := by unfold rngD; rw [List.length_map, List.length_range]
theorem rngD_get {lo : Int} {n i : Nat} {d : D} (h : (rngD lo n)[i]? = some d) : i < n ∧ d = .int (lo + (i : Nat)) := by
  unfold rngD at h
  rw [List.getElem?_map] at h
  by_cases hi : i < n
  · rw [List.getElem?_range hi] at h
    cases h
    exact ⟨hi, rfl⟩
  · rw [List.getElem?_eq_none (by rw [List.length_range]; omega)] at h
    cases h
theorem walks_rng {K : Fg} {F : Hp} {lo : Int} {n : Nat} : Walks K F (Itr lo n) (rngD lo n) := fun F1 M1 H1 e L => by
  refine ⟨fun i hi => by rw [rngD_length] at hi; exact hi, fun i hi => by rw [rngD_length] at hi; exact hi, fun i d v H2 hd hy => ?_⟩
  obtain ⟨rfl, rfl⟩ := hy
  rw [(rngD_get hd).2]
  exact ⟨F1, Ex.refl _, L, .int _⟩
theorem zi_rng1 {ta : TA} (h : ZA c ta Γ M fun ds M1 => ∃ j, ds = [.int j] ∧ -(2 ^ 62) ≤ j ∧ j < 2 ^ 62 ∧ kk (rngD 0 j.toNat) M1) : ZI c (iRng1 ta) Γ M kk := fun R F σ H Q hs L X q =>
  h R F σ H _ hs L X fun vs F1 H1 M1 ds e1 L1 r1 ⟨j, e, b1, b2, h1⟩ => by
    subst e
    obtain ⟨v, rfl, r2⟩ := r1.one1
    rw [r2.of_int]
    exact ⟨j, rfl, b1, b2, q _ F1 H1 M1 _ e1 L1 walks_rng h1⟩
theorem zi_rng2 {ta : TA} (h : ZA c ta Γ M fun ds M1 => ∃ i j, ds = [.int i, .int j] ∧ (-(2 ^ 62) ≤ i ∧ i < 2 ^ 62 ∧ -(2 ^ 62) ≤ j ∧ j < 2 ^ 62) ∧ kk (rngD i (j - i).toNat) M1) : ZI c (iRng2 ta) Γ M kk := fun R F σ H Q hs L X q =>
  h R F σ H _ hs L X fun vs F1 H1 M1 ds e1 L1 r1 ⟨i, j, e, b, h1⟩ => by
    subst e
    obtain ⟨v, w, rfl, r2, r3⟩ := r1.two
    rw [r2.of_int, r3.of_int]
    exact ⟨i, j, rfl, b, q _ F1 H1 M1 _ e1 L1 walks_rng h1⟩
/-- enumerate -/
def enumD (ds : List D) : List D := ds.mapIdx fun i d => D.tup [.int (i : Nat), d]
theorem enumD_length (ds : List D) : (enumD ds).length = ds.length := by unfold enumD; rw [List.length_mapIdx]
theorem enumD_get {ds : List D} {i : Nat} {d : D} (h : (enumD ds)[i]? = some d) : ∃ e, ds[i]? = some e ∧ d = .tup [.int (i : Nat), e] := by
  unfold enumD at h
  rw [List.getElem?_mapIdx] at h
  cases q : ds[i]? with
  | none => rw [q] at h; cases h
  | some e =>
    rw [q] at h
    exact ⟨e, rfl, (Option.some.inj h).symm⟩
theorem pair_new {K : Fg} {F1 H1 : Hp} {M1 : Mem} {T : Addr} {x y : V} {a b : D} (L : Lay K F1 M1 H1) (nT : H1 T = none) (r1 : Rp K F1 x a) (r2 : Rp K F1 y b) : ∃ F2, Ex F1 F2 ∧ Lay K F2 M1 (upd H1 T (.tup [x, y])) ∧ Rp K F2 (.ref T) (.tup [a, b]) :=
  ⟨_, ex_upd (L.free nT), L.new nT, .mk_tup (SqT.of upd_same) (.cons (r1.mono (ex_upd (L.free nT))) (.one (r2.mono (ex_upd (L.free nT)))))⟩
theorem walks_enumL {K : Fg} {F : Hp} {a : Addr} {vs : List V} {ds : List D} (h : SqL K F a vs) (r : Rps K F vs ds) : Walks K F (Ite K a) (enumD ds) := fun F1 M1 H1 e L => by
  have hs : SqL K H1 a vs := ex_l L.fr (ex_l e h)
  refine ⟨fun i hi => ⟨vs, vs[i]'(by rw [r.len, ← enumD_length]; exact hi), hs, List.getElem?_eq_getElem _⟩, fun i hi => ⟨vs, hs, by rw [r.len, ← enumD_length]; exact hi⟩, fun i d x H2 hd hy => ?_⟩
  obtain ⟨T, x', rfl, nT, rfl, hy⟩ := hy
  obtain ⟨d', hd', rfl⟩ := enumD_get hd
  obtain ⟨v, hv, rv⟩ := r.get hd'
  have ev : x' = v := Option.some.inj ((hy vs hs).symm.trans hv)
  subst ev
  exact pair_new L nT (.int _) (rv.mono e)
theorem walks_enumT {K : Fg} {F : Hp} {a : Addr} {vs : List V} {ds : List D} (h : SqT K F a vs) (r : Rps K F vs ds) : Walks K F (IteT K a vs.length) (enumD ds) := fun F1 M1 H1 e L => by
  have hs : SqT K H1 a vs := ex_t L.fr (ex_t e h)
  refine ⟨fun i hi => ⟨vs, vs[i]'(by rw [r.len, ← enumD_length]; exact hi), hs, List.getElem?_eq_getElem _, rfl⟩, fun i hi => ⟨vs, hs, rfl, by rw [r.len, ← enumD_length]; exact hi⟩, fun i d x H2 hd hy => ?_⟩
  obtain ⟨T, x', rfl, nT, rfl, hy⟩ := hy
  obtain ⟨d', hd', rfl⟩ := enumD_get hd
  obtain ⟨v, hv, rv⟩ := r.get hd'
  have ev : x' = v := Option.some.inj ((hy vs hs).symm.trans hv)
  subst ev
  exact pair_new L nT (.int _) (rv.mono e)
theorem zi_enum {ta : TA} (h : ZA c ta Γ M fun ds M1 => ∃ d xs, ds = [d] ∧ Sf d xs ∧ kk (enumD xs) M1) : ZI c (iEnumZ c.K ta) Γ M kk := fun R F σ H Q hs L X q =>
  h R F σ H _ hs L X fun ws F1 H1 M1 ds e1 L1 r1 ⟨d, xs, e, s, h1⟩ => by
    subst e
    obtain ⟨v, rfl, r2⟩ := r1.one1
    cases s with
    | tup =>
      obtain ⟨a, vs, rfl, p, rr⟩ := r2.of_tup
      exact ⟨a, vs, rfl, .inr ⟨ex_t L1.fr p, q _ F1 H1 M1 _ e1 L1 (walks_enumT p rr) h1⟩⟩
    | lst =>
      obtain ⟨a, vs, rfl, p, rr⟩ := r2.of_lst
      exact ⟨a, vs, rfl, .inl ⟨SqL.of (L1.fr _ _ p), q _ F1 H1 M1 _ e1 L1 (walks_enumL (SqL.of p) rr) h1⟩⟩
    | scr =>
      obtain ⟨a, vs, rfl, p, rr⟩ := r2.of_scr
      exact ⟨a, vs, rfl, .inl ⟨ex_l L1.fr p, q _ F1 H1 M1 _ e1 L1 (walks_enumL p rr) h1⟩⟩
/-- zip of two lists, two tuples -/
def zipD (ds es : List D) : List D := List.zipWith (fun d e => D.tup [d, e]) ds es
theorem zipD_length (ds es : List D) : (zipD ds es).length = min ds.length es.length := by unfold zipD; rw [List.length_zipWith]
theorem zipD_get {ds es : List D} {i : Nat} {d : D} (h : (zipD ds es)[i]? = some d) : ∃ a b, ds[i]? = some a ∧ es[i]? = some b ∧ d = .tup [a, b] := by
  unfold zipD at h
  rw [List.getElem?_zipWith] at h
  cases q : ds[i]? with
  | none => rw [q] at h; cases h
  | some a =>
    cases q2 : es[i]? with
    | none => rw [q, q2] at h; cases h
    | some b =>
      rw [q, q2] at h
      exact ⟨a, b, rfl, rfl, (Option.some.inj h).symm⟩
theorem walks_zipL {K : Fg} {F : Hp} {a b : Addr} {vs ws : List V} {ds es : List D} (h : SqL K F a vs) (r : Rps K F vs ds) (h2 : SqL K F b ws) (r2 : Rps K F ws es) : Walks K F (Itz K a b) (zipD ds es) := fun F1 M1 H1 e L => by
  have hs : SqL K H1 a vs := ex_l L.fr (ex_l e h)
  have hs2 : SqL K H1 b ws := ex_l L.fr (ex_l e h2)
  have l1 := r.len
  have l2 := r2.len
  refine ⟨fun i hi => ?_, fun i hi => ⟨vs, ws, hs, hs2, ?_⟩, fun i d x H2 hd hy => ?_⟩
  · rw [zipD_length] at hi
    exact ⟨vs, ws, vs[i]'(by omega), ws[i]'(by omega), hs, hs2, List.getElem?_eq_getElem _, List.getElem?_eq_getElem _⟩
  · rw [zipD_length] at hi
    omega
  · obtain ⟨T, x', y', rfl, nT, rfl, hy, hy2⟩ := hy
    obtain ⟨a', b', ha, hb, rfl⟩ := zipD_get hd
    obtain ⟨v, hv, rv⟩ := r.get ha
    obtain ⟨w, hw, rw_⟩ := r2.get hb
    have ev : x' = v := Option.some.inj ((hy vs hs).symm.trans hv)
    have ew : y' = w := Option.some.inj ((hy2 ws hs2).symm.trans hw)
    subst ev ew
    exact pair_new L nT (rv.mono e) (rw_.mono e)
theorem walks_zipT {K : Fg} {F : Hp} {a b : Addr} {vs ws : List V} {ds es : List D} (h : SqT K F a vs) (r : Rps K F vs ds) (h2 : SqT K F b ws) (r2 : Rps K F ws es) : Walks K F (RZ.ItzT K a b) (zipD ds es) := fun F1 M1 H1 e L => by
  have hs : SqT K H1 a vs := ex_t L.fr (ex_t e h)
  have hs2 : SqT K H1 b ws := ex_t L.fr (ex_t e h2)
  have l1 := r.len
  have l2 := r2.len
  refine ⟨fun i hi => ?_, fun i hi => ⟨vs, ws, hs, hs2, ?_⟩, fun i d x H2 hd hy => ?_⟩
  · rw [zipD_length] at hi
    exact ⟨vs, ws, vs[i]'(by omega), ws[i]'(by omega), hs, hs2, List.getElem?_eq_getElem _, List.getElem?_eq_getElem _⟩
  · rw [zipD_length] at hi
    omega
  · obtain ⟨T, x', y', rfl, nT, rfl, hy, hy2⟩ := hy
    obtain ⟨a', b', ha, hb, rfl⟩ := zipD_get hd
    obtain ⟨v, hv, rv⟩ := r.get ha
    obtain ⟨w, hw, rw_⟩ := r2.get hb
    have ev : x' = v := Option.some.inj ((hy vs hs).symm.trans hv)
    have ew : y' = w := Option.some.inj ((hy2 ws hs2).symm.trans hw)
    subst ev ew
    exact pair_new L nT (rv.mono e) (rw_.mono e)
def iZipZ (K : Fg) (ta : TA) : TI := RZ.iZipA K ta
theorem zi_zipT {ta : TA} (h : ZA c ta Γ M fun ds M1 => ∃ xs ys, ds = [.tup xs, .tup ys] ∧ kk (zipD xs ys) M1) : ZI c (iZipZ c.K ta) Γ M kk := fun R F σ H Q hs L X q =>
  h R F σ H _ hs L X fun ws F1 H1 M1 ds e1 L1 r1 ⟨xs, ys, e, h1⟩ => by
    subst e
    obtain ⟨v, w, rfl, r2, r3⟩ := r1.two
    obtain ⟨a, vs, rfl, p, rr⟩ := r2.of_tup
    obtain ⟨b, ws, rfl, p2, rr2⟩ := r3.of_tup
    exact ⟨a, b, vs, ws, rfl, .inr ⟨ex_t L1.fr p, ex_t L1.fr p2, q _ F1 H1 M1 _ e1 L1 (walks_zipT p rr p2 rr2) h1⟩⟩
theorem zi_zipL {ta : TA} (h : ZA c ta Γ M fun ds M1 => ∃ xs ys, ds = [.lst xs, .lst ys] ∧ kk (zipD xs ys) M1) : ZI c (iZipZ c.K ta) Γ M kk := fun R F σ H Q hs L X q =>
  h R F σ H _ hs L X fun ws F1 H1 M1 ds e1 L1 r1 ⟨xs, ys, e, h1⟩ => by
    subst e
    obtain ⟨v, w, rfl, r2, r3⟩ := r1.two
    obtain ⟨a, vs, rfl, p, rr⟩ := r2.of_lst
    obtain ⟨b, ws, rfl, p2, rr2⟩ := r3.of_lst
    exact ⟨a, b, vs, ws, rfl, .inl ⟨SqL.of (L1.fr _ _ p), SqL.of (L1.fr _ _ p2), q _ F1 H1 M1 _ e1 L1 (walks_zipL (SqL.of p) rr (SqL.of p2) rr2) h1⟩⟩
theorem pi_zipZ {X : Cx} {e e2 : Expr} {ta : TA} {p pos tpos : Pos} {elts : List Expr} {kk : Nat} (hg : Gl X "zip") (hm : X.mg "zip" = none) (ha : PA X [e, e2] ta)
    (hs : starEach [e, e2] X.env = (false, eval e X.env) :: starEach [e2] X.env := by rfl) (hpl : (backTo pos (starEach [e2] X.env)).any (·.1) = false := by rfl) :
    PI X (.Tuple elts kk tpos) (.Call (.Name "zip" p) [e, e2] [] pos) (iZipZ X.K ta) := RZ.pi_zipA hg hm ha hs hpl
end
/-! ### comprehensions -/
section
variable {Γ : Gm} {M : Mem} {k : D → Mem → Prop}
theorem z_lc {wi : TI} {g : TG} {tt : TT} {te : TE} {vs : List Nat} (ho : Own g vs) (h : ZI c wi Γ M (LcK c.blk g tt te vs Γ fun ds M1 => k (.lst ds) M1)) : ZE c (tLc wi g tt te vs) Γ M k := fun R F σ H Q hs L X q => by
  refine lc_gen ho h hs L X fun p ws F1 H1 M1 ds e1 L1 hp rr hk => ?_
  have hat : (M1 ++ (p, MO.lst ds) :: R)[M1.length]? = some (p, .lst ds) := by
    rw [List.getElem?_append_right (Nat.le_refl _), Nat.sub_self]
    rfl
  obtain ⟨L2, e2⟩ := L1.frz hat hp
  rw [List.eraseIdx_append_of_length_le (Nat.le_refl _), Nat.sub_self] at L2
  exact q _ _ H1 M1 (.lst ds) (e1.trans e2) L2 (.mk_lst upd_same (rr.mono e2)) hk
theorem Lay.perm {K : Fg} {F H : Hp} {M M' : Mem} (L : Lay K F M H) (p : M.Perm M') : Lay K F M' H := ⟨L.fr, ((p.map (·.1)).nodup_iff).mp L.nd, fun q hq => L.ap q (p.mem_iff.mpr hq), fun q hq => L.mu q (p.mem_iff.mpr hq)⟩
theorem z_lcM {wi : TI} {g : TG} {tt : TT} {te : TE} {vs : List Nat} (ho : Own g vs) (h : ZI c wi Γ M (LcK c.blk g tt te vs Γ fun ds M1 => ∀ p, k (.at p) ((p, .lst ds) :: M1))) : ZE c (mk (tLc wi g tt te vs)) Γ M k := fun R F σ H Q hs L X q => by
  refine lc_gen ho h hs L X fun p ws F1 H1 M1 ds e1 L1 hp rr hk => ?_
  exact q _ F1 H1 ((p, .lst ds) :: M1) (.at p) e1 (L1.perm List.perm_middle) (.at p) (hk p)
theorem zt_yes {k : Bool → Mem → Prop} (h : k true M) : ZT c tYes Γ M k := fun R F σ H Q hs L _ q => q true F H M true (Ex.refl F) L rfl h
/-- a comprehension that leaves Mem, element by element -/
theorem LcK.map {g : TG} {te : TE} {vs : List Nat} {ds : List D} (f : D → D) (hl : ds.length ≤ sizeLine) {kk : List D → Mem → Prop} (h : ∀ (i : Nat) (d : D), ds[i]? = some d → ZG c g d (zwipe Γ vs) M fun Γ2 M2 => ZE c te Γ2 M2 fun y M4 => y = f d ∧ M4 = M) (hk : kk (ds.map f) M) : LcK c g tYes te vs Γ kk ds M := by
  refine ⟨hl, fun i acc M1 => M1 = M ∧ acc = (ds.take i).map f, ⟨rfl, by simp⟩, fun i d acc M1 hd _ ⟨e1, e2⟩ => ?_, fun acc M1 ⟨e1, e2⟩ => ?_⟩
  · subst e1 e2
    refine fun R F σ H v Q hs L X r q => h i d hd R F σ H v Q hs L X r fun σ' F' H' M' Γ' e L' hs' h' => q σ' F' H' M' Γ' e L' hs' ?_
    refine zt_yes ⟨fun _ => h'.imp fun y M4 ⟨ey, em⟩ => ⟨em, ?_⟩, fun z => nomatch z⟩
    rw [ey, List.take_add_one, hd, List.map_append]
    rfl
  · subst e1 e2
    rw [List.take_length]
    exact hk
end
theorem Lay.lstSet {K : Fg} {F H : Hp} {M R : Mem} {i : Nat} {a : Addr} {ds es : List D} {ys : List V} (L : Lay K F (M ++ R) H) (hi : M[i]? = some (a, .lst ds)) (r : Rps K F ys es) : Lay K F (M.set i (a, .lst es) ++ R) (upd H a (.lst ys)) := L.memSet (mo' := .lst es) hi ⟨ys, upd_same, r⟩
/-! ### methods of a list that changes -/
section
variable {Γ : Gm} {M : Mem} {k : D → Mem → Prop} {to : TE} {ta : TA}
def ZM (c : Cz) (r : V → List V → Hp → VK → Prop) (d : D) (xs : List D) (M : Mem) (k : D → Mem → Prop) : Prop := ∀ (R : Mem) (F H : Hp) (v : V) (vs : List V) (Q : VK), Lay c.K F (M ++ R) H → Rp c.K F v d → Rps c.K F vs xs → EOk c.K R F k Q → r v vs H Q
theorem tyV_of {K : Fg} {H : Hp} {a : Addr} {vs : List V} (h : H a = some (.lst vs)) : tyV K "list" (.ref a) H := .inl ⟨rfl, vs, .inl (.inl h)⟩
theorem z_bm {r : V → List V → Hp → VK → Prop} (h : ZE c to Γ M fun d M1 => (∃ ds, St M1 d ds) ∧ ZA c ta Γ M1 fun xs M2 => ZM c r d xs M2 k) : ZE c (tBM c.K "list" r to ta) Γ M k := fun R F σ H Q hs L X q =>
  h R F σ H _ hs L X fun v F1 H1 M1 d e1 L1 r1 ⟨⟨ds, s⟩, h1⟩ => by
    obtain ⟨a, vs, rfl, p, rr⟩ := s.read L1 r1
    exact ⟨tyV_of p, h1 R F1 σ H1 _ (hs.mono e1) L1 (X.mono e1) fun ws F2 H2 M2 xs e2 L2 r2 h2 => h2 R F2 H2 _ ws Q L2 (r1.mono e2) r2 (q.mono (e1.trans e2))⟩
theorem z_bm0 {r : V → List V → Hp → VK → Prop} (h : ZE c to Γ M fun d M1 => (∃ ds, St M1 d ds) ∧ ZM c r d [] M1 k) : ZE c (tBM0 c.K "list" r to) Γ M k := fun R F σ H Q hs L X q =>
  h R F σ H _ hs L X fun v F1 H1 M1 d e1 L1 r1 ⟨⟨ds, s⟩, h1⟩ => by
    obtain ⟨a, vs, rfl, p, rr⟩ := s.read L1 r1
    exact ⟨tyV_of p, h1 R F1 H1 _ [] Q L1 r1 .nil (q.mono e1)⟩
variable {i : Nat} {a : Addr} {ds : List D} {d : D}
theorem zm_append (hi : M[i]? = some (a, .lst ds)) (hl : ds.length < sizeLine) (h : k .non (M.set i (a, .lst (ds ++ [d])))) : ZM c rAppend (.at a) [d] M k := fun R F H v vs Q L r rs q => by
  obtain ⟨w, rfl, r2⟩ := rs.one1
  obtain ⟨xs, e, rr⟩ := L.memAt hi
  rw [r.of_at]
  exact ⟨a, xs, w, rfl, rfl, e, by rw [rr.len]; exact hl, q .non F _ _ .non (Ex.refl F) (L.lstSet (ys := (xs ++ [w])) hi (rr.append (.one r2))) .non h⟩
theorem zm_pop {e : D} (hi : M[i]? = some (a, .lst ds)) (hl : ds[ds.length - 1]? = some e) (h : k e (M.set i (a, .lst ds.dropLast))) : ZM c rPop (.at a) [] M k := fun R F H v vs Q L r rs q => by
  obtain ⟨xs, ex, rr⟩ := L.memAt hi
  obtain ⟨x, hx, rx⟩ := rr.get hl
  rw [r.of_at, rs.unnil]
  exact ⟨a, xs, x, rfl, rfl, ex, by rw [rr.len]; exact hx, q x F _ _ e (Ex.refl F) (L.lstSet (ys := xs.dropLast) hi (rr.dropLast)) rx h⟩
theorem zm_popAt {e : D} {z : Int} {n : Nat} (hi : M[i]? = some (a, .lst ds)) (h1 : -(2 ^ 63) ≤ z) (h2 : z < 2 ^ 63) (hn : seqIndex? z ds.length = some n) (hl : ds[n]? = some e) (h : k e (M.set i (a, .lst (ds.eraseIdx n)))) : ZM c rPopAt (.at a) [.int z] M k := fun R F H v vs Q L r rs q => by
  obtain ⟨w, rfl, r2⟩ := rs.one1
  obtain ⟨xs, ex, rr⟩ := L.memAt hi
  obtain ⟨x, hx, rx⟩ := rr.get hl
  rw [r.of_at, r2.of_int]
  exact ⟨a, xs, z, n, x, rfl, rfl, ex, h1, h2, by rw [rr.len]; exact hn, hx, q x F _ _ e (Ex.refl F) (L.lstSet (ys := (xs.eraseIdx n)) hi (rr.eraseIdx n)) rx h⟩
theorem zm_reverse (hi : M[i]? = some (a, .lst ds)) (h : k .non (M.set i (a, .lst ds.reverse))) : ZM c rReverse (.at a) [] M k := fun R F H v vs Q L r rs q => by
  obtain ⟨xs, ex, rr⟩ := L.memAt hi
  rw [r.of_at, rs.unnil]
  exact ⟨a, xs, rfl, rfl, ex, q .non F _ _ .non (Ex.refl F) (L.lstSet (ys := xs.reverse) hi (rr.reverse)) .non h⟩
theorem zm_extend {x : D} {es : List D} (hi : M[i]? = some (a, .lst ds)) (s : St M x es) (hl : ds.length + es.length ≤ sizeLine) (h : k .non (M.set i (a, .lst (ds ++ es)))) : ZM c rExtend (.at a) [x] M k := fun R F H v vs Q L r rs q => by
  obtain ⟨w, rfl, r2⟩ := rs.one1
  obtain ⟨xs, ex, rr⟩ := L.memAt hi
  obtain ⟨b, ys, rfl, ey, ry⟩ := s.read L r2
  rw [r.of_at]
  exact ⟨a, b, xs, ys, rfl, rfl, ex, ey, by rw [rr.len, ry.len]; exact hl, q .non F _ _ .non (Ex.refl F) (L.lstSet (ys := (xs ++ ys)) hi (rr.append ry)) .non h⟩
def rInsZ : V → List V → Hp → VK → Prop := fun x vs H Q => ∃ (l : Addr) (xs : List V) (i : Int) (y : V), x = .ref l ∧ vs = [.int i, y] ∧ H l = some (.lst xs) ∧ xs.length < sizeLine ∧ 0 ≤ i ∧ i < 2 ^ 63 ∧
    Q .non (upd H l (.lst (xs.take i.toNat ++ [y] ++ xs.drop i.toNat)))
theorem mt_insZ {X : Cx} : MtR X "list.insert" rInsZ := mt_insert
theorem zm_insert {z : Int} (hi : M[i]? = some (a, .lst ds)) (hl : ds.length < sizeLine) (h0 : 0 ≤ z) (h1 : z < 2 ^ 63) (h : k .non (M.set i (a, .lst (ds.take z.toNat ++ [d] ++ ds.drop z.toNat)))) : ZM c rInsZ (.at a) [.int z, d] M k := fun R F H v vs Q L r rs q => by
  obtain ⟨w, w2, rfl, r2, r3⟩ := rs.two
  obtain ⟨xs, e, rr⟩ := L.memAt hi
  rw [r.of_at, r2.of_int]
  exact ⟨a, xs, z, w2, rfl, rfl, e, by rw [rr.len]; exact hl, h0, h1, q .non F _ _ .non (Ex.refl F) (L.lstSet (ys := (xs.take z.toNat ++ [w2] ++ xs.drop z.toNat)) hi (((rr.take _).append (.one r3)).append (rr.drop _))) .non h⟩
/-- xs[i] = e -/
theorem zg_setL {ti : TE} {kg : Gm → Mem → Prop} (h : ZE c to Γ M fun o M1 => ZE c ti Γ M1 fun x M2 => ∃ a n ds z j, o = .at a ∧ x = .int z ∧ M2[n]? = some (a, .lst ds) ∧ ixN ds.length z = some j ∧ kg Γ (M2.set n (a, .lst (ds.set j d)))) : ZG c (gSub to ti rSetL) d Γ M kg := fun R F σ H v Q hs L X r q =>
  h R F σ H _ hs L X fun o F1 H1 M1 od e1 L1 r1 h1 => h1 R F1 σ H1 _ (hs.mono e1) L1 (X.mono e1) fun x F2 H2 M2 xd e2 L2 r2 ⟨a, n, ds, z, j, eo, ex, hn, hj, hk⟩ => by
    subst eo ex
    obtain ⟨xs, e, rr⟩ := L2.memAt hn
    rw [r1.of_at, r2.of_int]
    exact ⟨a, xs, z, j, rfl, rfl, e, by rw [rr.len]; exact hj, q σ F2 _ _ Γ (e1.trans e2) (L2.lstSet (ys := xs.set j v) hn (rr.set j (r.mono (e1.trans e2)))) ((hs.mono e1).mono e2) hk⟩
/-- x += e (ints) -/
theorem zs_aug {te : TE} {f : Int → Int → Int} {n : Nat} {x : Int} {DD : ZEnds} (hx : Γ[n]? = some (some (.int x))) (h : ZE c te Γ M fun d M1 => ∃ y, d = .int y ∧ DD.nx (Γ.set n (some (.int (f x y)))) M1) : ZS c (tAug n te (ipI f)) Γ M DD := fun R F σ H D hs L X q => by
  obtain ⟨v, e, r⟩ := hs.at_ n _ hx
  rw [r.of_int] at e
  refine ⟨_, e, h R F σ H _ hs L X fun w F1 H1 M1 d e1 L1 r1 ⟨y, ed, hk⟩ => ?_⟩
  subst ed
  exact ⟨x, y, rfl, r1.of_int, q.nx _ F1 H1 M1 _ e1 L1 ((hs.mono e1).set n (.int _)) hk⟩
/-- list(range(..)) -/
theorem rgV_rps {K : Fg} {F : Hp} (a b : Int) : Rps K F (rgV a b) (rngD a (b - a).toNat) := by
  unfold rgV rngD
  exact Rps.of_map fun x _ => .int _
theorem z_listRg1 {te : TE} (h : ZE c te Γ M fun d M1 => ∃ n, d = .int n ∧ RgOk 0 n ∧ k (.lst (rngD 0 n.toNat)) M1) : ZE c (tLstRg (tRg1 te)) Γ M k := fun R F σ H Q hs L X q =>
  h R F σ H _ hs L X fun v F1 H1 M1 d e1 L1 r1 ⟨n, ed, ok, hk⟩ => by
    subst ed
    refine ⟨n, r1.of_int, ok, fun p hp => q _ _ _ M1 _ (e1.trans (ex_upd (L1.free hp))) (L1.new hp) (.mk_lst upd_same ((rgV_rps 0 n).mono (Ex.refl _))) ?_⟩
    rw [Int.sub_zero]
    exact hk
theorem z_listRg1M {te : TE} (h : ZE c te Γ M fun d M1 => ∃ n, d = .int n ∧ RgOk 0 n ∧ ∀ p, k (.at p) ((p, .lst (rngD 0 n.toNat)) :: M1)) : ZE c (mk (tLstRg (tRg1 te))) Γ M k := fun R F σ H Q hs L X q =>
  h R F σ H _ hs L X fun v F1 H1 M1 d e1 L1 r1 ⟨n, ed, ok, hk⟩ => by
    subst ed
    refine ⟨n, r1.of_int, ok, fun p hp => q _ F1 _ ((p, .lst (rngD 0 n.toNat)) :: M1) (.at p) e1 (L1.newM hp ⟨_, upd_same, ?_⟩) (.at p) (hk p)⟩
    have x := rgV_rps (K := c.K) (F := F1) 0 n
    rw [Int.sub_zero] at x
    exact x
/-- list * int, the new list may change -/
theorem z_repLM {ta tb : TE} (h : ZE c ta Γ M fun x M1 => ZE c tb Γ M1 fun y M2 => ∃ xs n, St M2 x xs ∧ y = .int n ∧ -(2 ^ 63) ≤ n ∧ n < 2 ^ 63 ∧ xs.length * n.toNat ≤ sizeLine ∧ ∀ p, k (.at p) ((p, .lst (List.replicate n.toNat xs).flatten) :: M2)) : ZE c (mk (tOp rMulZ ta tb)) Γ M k := fun R F σ H Q hs L X q =>
  h R F σ H _ hs L X fun v F1 H1 M1 x e1 L1 r1 h1 => h1 R F1 σ H1 _ (hs.mono e1) L1 (X.mono e1) fun w F2 H2 M2 y e2 L2 r2 ⟨xs, n, s, ey, b1, b2, b3, hk⟩ => by
    subst ey
    obtain ⟨a, vs, rfl, e, rr⟩ := s.read L2 (r1.mono e2)
    exact .inr ⟨a, n, vs, rfl, r2.of_int, e, b1, b2, by rw [rr.len]; exact b3, fun p hp => q _ F2 _ ((p, .lst (List.replicate n.toNat xs).flatten) :: M2) (.at p) (e1.trans e2) (L2.newM hp ⟨_, upd_same, rr.rep n.toNat⟩) (.at p) (hk p)⟩
end
/-! ### calls of defs -/
abbrev ZSp := List D → Mem → (D → Mem → Prop) → Prop
/-- a promise over data, as the layer takes it -/
def toSp (K : Fg) (S : ZSp) : Sp := fun vs H Q _ => ∃ (R : Mem) (F : Hp) (M : Mem) (ds : List D) (k : D → Mem → Prop), Lay K F (M ++ R) H ∧ Rps K F vs ds ∧ S ds M k ∧ EOk K R F k Q
/-- a call of a def by values -/
def zcall (K : Fg) (S : ZSp) : List V → Hp → VK → Prop := fun vs H Q => toSp K S vs H Q fun _ _ _ => False
/-- the def x of the module keeps the promise S for these arguments -/
structure FnZ (P : Program) (w : World) (K : Fg) (mg : Str → Option Value) (base : Heap) (x : Str) (k : Nat) (S : ZSp) : Prop where
  ex : ∃ (f : Addr) (fd : FuncData) (ps : List Str) (sp : Sp) (ds : List Value) (dvs : List V), FnOk P w K mg base CX0 k f fd ps sp ∧ mg x = some (.ref f) ∧ PySem.W.keepIn K (.ref f) = true ∧ Binds K fd ps ds ∧ Vals dvs ds ∧
    ∀ vs H Q, zcall K S vs H Q → sp (vs ++ dvs) H Q E0
section
variable {X : Cx} {k : Nat} {S : ZSp} {x : Str} {e : Expr} {es : List Expr} {t : TA} {p pos : Pos}
theorem p_call {j : Nat} (G : FnZ X.prog X.w X.K X.mg X.base x k S) (hr : Room j X.A) (ha : PA X (e :: es) t) (hj : k ≤ j := by decide) (hg : Gl X x := by rfl) (hdb : (x == ("__debug__" : Str)) = false := by decide)
    (he : starEach (e :: es) X.env = (false, eval e X.env) :: starEach es X.env := by rfl) (hpl : (backTo pos (starEach es X.env)).any (·.1) = false := by rfl) : PE X (.Call (.Name x p) (e :: es) [] pos) (tCB (zcall X.K S) t) := by
  obtain ⟨f, fd, ps, sp, ds, dvs, F, hm, hk, hb, hd, hs⟩ := G.ex
  refine ⟨fun pins s σ H Q I h => ?_⟩
  refine wpAny_Call_Name_kw (ld_glob I hg hm ?_ hdb)
  refine PySem.W.callWith_K (h₀ := X.base) I.ok.mod.kin hk (thn (ha.run pos pins s σ H _ I h) fun us s1 ⟨vs, H1, I1, r, q⟩ => ⟨I1.kIn, ?_⟩) he hpl
  exact run_fn F (hr.mono hj) hb hd pass0 I1 r (hs vs H1 Q q)
theorem p_call0 {j : Nat} (G : FnZ X.prog X.w X.K X.mg X.base x k S) (hr : Room j X.A) (hj : k ≤ j := by decide) (hg : Gl X x := by rfl) (hdb : (x == ("__debug__" : Str)) = false := by decide) : PE X (.Call (.Name x p) [] [] pos) (tCB (zcall X.K S) tNil) := by
  obtain ⟨f, fd, ps, sp, ds, dvs, F, hm, hk, hb, hd, hs⟩ := G.ex
  have h := pe_call0 F (hr.mono hj) hg hm hk hb hd pass0 hdb (p := p) (pos := pos)
  exact ⟨fun pins s σ H Q I q => h.run pins s σ H Q I (hs [] H Q q)⟩
end
theorem zc_call {S : ZSp} {ds : List D} {M : Mem} {k : D → Mem → Prop} (h : S ds M k) : ZC c (zcall c.K S) ds M k := fun R F H vs Q L r q => ⟨R, F, M, ds, k, L, r, h, q⟩
/-! ### a def's body -/
def startD (N : List Str) (ds : List D) : Gm := ds.map some ++ List.replicate (N.length - ds.length) none
theorem has_start {K : Fg} {F : Hp} {N : List Str} {vs : List V} {ds : List D} (r : Rps K F vs ds) : Has K F (L2.start N vs) (startD N ds) := ⟨by
  unfold L2.start startD
  rw [List.length_append, List.length_append, List.length_map, List.length_map, List.length_replicate, List.length_replicate, r.len], fun i d h => by
  unfold startD at h
  unfold L2.start
  by_cases hi : i < ds.length
  · rw [List.getElem?_append_left (by rw [List.length_map]; exact hi), List.getElem?_map] at h
    obtain ⟨d', hd', e⟩ := Option.map_eq_some_iff.mp h
    cases e
    obtain ⟨v, hv, rv⟩ := r.get hd'
    refine ⟨v, ?_, rv⟩
    rw [List.getElem?_append_left (by rw [List.length_map, r.len]; exact hi), List.getElem?_map, hv]
    rfl
  · rw [List.getElem?_append_right (by rw [List.length_map]; omega), List.getElem?_replicate] at h
    split at h
    · cases h
    · cases h⟩
section
variable {P : Program} {w : World} {K : Fg} {mg : Str → Option Value} {base : Heap} {x qual : Str} {params : Arguments} {body : List Stmt} {scope : Scope} {dvs : List V} {kws : List (Str × V)} {f : Addr} {fd : FuncData} {N ps : List Str} {k : Nat}
/-- THE RULE for a def that lets no exception out: t its reading, then what the reading asks of data -/
theorem fn_z (F : FunD K x qual params body scope dvs kws f fd) (Sc : FnScope N ps scope) (S : ZSp) (len : ∀ ds M kk, S ds M kk → ds.length = ps.length) (t : TS)
    (ht : ∀ (cdv : Value) (A : Around) (outer : List Env) (s : Shared) (H : Hp) (E : XK), Room k (A.deeper (envOfC qual scope s.heap.objs.size f cdv)) → PSs (cxOf CX0 P w K mg base N qual scope f cdv A outer s H E).nox body t)
    (hz : ∀ ds M kk, S ds M kk → ZS { K := K } t (startD N ds) M { nx := fun _ M' => kk .non M', rt := kk }) : FnOk P w K mg base CX0 (k + 1) f fd ps (toSp K S) := by
  refine F.ok Sc (fun vs H Q E ⟨R, F, M, ds, kk, L, r, s, q⟩ => by rw [r.len]; exact len ds M kk s) fun cdv A outer s H vs Q E hr ⟨R, F, M, ds, kk, L, r, sp, q⟩ => ⟨t, (ht cdv A outer s H E hr).nox, ?_⟩
  refine hz ds M kk sp R F _ H _ (has_start r) L (fun _ _ _ _ _ _ _ _ _ _ _ _ h => h) ⟨fun σ' F' H' M' Γ' e L' hs' h' => q .non F' H' M' .non e L' .non h', fun v F' H' M' d e L' r' h' => q v F' H' M' d e L' r' h', fun σ' F' H' M' Γ' e L' hs' h' => h'.elim, fun σ' F' H' M' Γ' e L' hs' h' => h'.elim⟩
/-- a def without defaults is called -/
theorem fnz_of {S : ZSp} (F : FunD K x qual params body scope [] kws f fd) (G : FnOk P w K mg base CX0 k f fd ps (toSp K S)) (hm : mg x = some (.ref f)) (hb : Binds K fd ps []) : FnZ P w K mg base x k S :=
  ⟨f, fd, ps, toSp K S, [], [], G, hm, F.kp, hb, .nil, fun vs H Q ⟨R, F, M, ds, kk, L, r, s, q⟩ => by rw [List.append_nil]; exact ⟨R, F, M, ds, kk, L, r, s, q⟩⟩
/-- a weaker promise -/
theorem FnZ.imp {S S' : ZSp} (G : FnZ P w K mg base x k S) (h : ∀ ds M kk, S' ds M kk → S ds M kk) : FnZ P w K mg base x k S' := by
  obtain ⟨f, fd, ps, sp, ds, dvs, F, hm, hk, hb, hd, hs⟩ := G.ex
  exact ⟨f, fd, ps, sp, ds, dvs, F, hm, hk, hb, hd, fun vs H Q ⟨R, F, M, ds, kk, L, r, s, q⟩ => hs vs H Q ⟨R, F, M, ds, kk, L, r, h ds M kk s, q⟩⟩
theorem FnZ.up {S : ZSp} {j : Nat} (G : FnZ P w K mg base x k S) (h : k ≤ j) : FnZ P w K mg base x j S := by
  obtain ⟨f, fd, ps, sp, ds, dvs, F, hm, hk, hb, hd, hs⟩ := G.ex
  exact ⟨f, fd, ps, sp, ds, dvs, F.mono h, hm, hk, hb, hd, hs⟩
end
/-! ### a law's end -/
def SLaw : ZSp := fun ds M k => ∃ ns : List Int, ds = [.scr (ns.map D.int)] ∧ M = [] ∧ ns.length ≤ 63 ∧ ∀ M', k (.bl true) M'
theorem law_sp {K : Fg} {H : Hp} {a : Addr} {ns : List Int} (hl : ns.length ≤ 63) (hS : SqL K H a (ns.map V.int)) : toSp K SLaw [.ref a] H (fun v _ => v = .bl true) fun _ _ _ => False :=
  ⟨[], H, [], [.scr (ns.map D.int)], fun d _ => d = .bl true, ⟨fun _ _ h => h, List.nodup_nil, fun _ h => by simp at h, fun _ h => by simp at h⟩, .one (.mk_scr hS (Rps.of_map fun x _ => .int x)), ⟨ns, rfl, rfl, hl, fun _ => rfl⟩, fun v F' H' M' d e L r h => by
    subst h
    exact r.of_bl⟩
end Z
set_option maxRecDepth 100000
set_option Elab.async false
namespace PySem.Z
open PySem Sem

theorem zz_typeCall (vs : List Value) : checkTypeCall "zip" ⟨vs, []⟩ = pure () := by kernel_rfl
theorem zz_newCall (vs : List Value) : checkBuiltinCall "zip.__new__" ⟨.type "zip" :: vs, []⟩ = pure () := by cases vs <;> kernel_rfl
theorem zz_argsInit (obj : Value) (vs : List Value) : argsOk "object.__init__" ⟨obj :: vs, []⟩ := by
  unfold argsOk; rw [signature?_of (id := "object.__init__") (n := ['_', '_', 't', 'i', 'n', 'i', '_', '_']) (o := ['t', 'c', 'e', 'j', 'b', 'o']) (by kernel_rfl) F.owner_object]; kernel_rfl

theorem forIn_any {M : Model} {A : Around} {E : Value → Shared → Prop} {α β : Type} {f : α → β → Sem (ForInStep β)} {Q : β → Shared → Prop} (I : List α → β → Shared → Prop)
    (hs : ∀ a r b s, I (a :: r) b s → wpAny M A (f a b) (fun st s' => ∃ b', st = .yield b' ∧ I r b' s') E s) (hd : ∀ b s, I [] b s → Q b s) :
    ∀ (l : List α) (b : β) (s : Shared), I l b s → wpAny M A (forIn l b f) Q E s
  | [], b, s, h => by rw [List.forIn_nil]; exact wpAny_pure (hd b s h)
  | a :: r, b, s, h => by
    rw [List.forIn_cons]
    refine wpAny_bind (wpAny_mono (hs a r b s h) (fun st s' h' => ?_) fun _ _ x => x)
    obtain ⟨b', rfl, h'⟩ := h'
    exact forIn_any I hs hd r b' s' h'

theorem nn {a b : Nat} (h : a ≠ b) : @Ne Addr a b := h
structure Rw where
  at_ : Nat
  lst : Bool
  vals : Array Value
def RowAt (h : Heap) (r : Rw) : Prop := match r.lst with | true => h.IsList r.at_ r.vals | false => h.IsTuple r.at_ r.vals
def ItAt (h : Heap) (it : Addr) (r : Rw) (i : Nat) : Prop := match r.lst with | true => h.IsListIter it r.at_ i | false => h.IsTupleIter it r.at_ i
theorem RowAt.keep {h h' : Heap} {r : Rw} (x : RowAt h r) (k : ∀ o, h.get? r.at_ = some o → h'.get? r.at_ = some o) : RowAt h' r := by
  obtain ⟨a, l, v⟩ := r; cases l <;> exact Exists.elim x fun o y => ⟨o, k o y.1, y.2⟩
theorem ItAt.keep {h h' : Heap} {r : Rw} {it i} (x : ItAt h it r i) (k : ∀ o, h.get? it = some o → h'.get? it = some o) : ItAt h' it r i := by
  obtain ⟨a, l, v⟩ := r; cases l <;> exact Exists.elim x fun o y => ⟨o, k o y.1, y.2⟩

section
variable {prog : Program} {w : World} {A : Around} {E : Value → Shared → Prop} {s : Shared}
theorem zz_item {it : Addr} {i : Nat} {r : Rw} {x : Value} {Q : Value → Shared → Prop} (hit : ItAt s.heap it r i) (hr : RowAt s.heap r) (hx : r.vals[i]? = some x)
    (hQ : ∀ h', ItAt h' it r (i + 1) → Heap.SameBut it s.heap h' → Q x { s with heap := h' }) : wpAny (model prog w) A (Builtin.SmallTypes.nextOf (.ref it)) Q E s := by
  obtain ⟨a, l, v⟩ := r; cases l
  · exact wpAny_nextOf_tuple_item hit hr hx hQ
  · exact wpAny_nextOf_list_item hit hr hx hQ
theorem zz_end {it : Addr} {i : Nat} {r : Rw} {Q : Value → Shared → Prop} (hh : A.handled = none) (hit : ItAt s.heap it r i) (hr : RowAt s.heap r) (hx : r.vals[i]? = none)
    (hE : ∀ h' e, Heap.ExtBut it s.heap h' → (∃ o, h'.get? e = some o ∧ o.cls = .type "StopIteration") → E (.ref e) { s with heap := h' }) : wpAny (model prog w) A (Builtin.SmallTypes.nextOf (.ref it)) Q E s := by
  obtain ⟨a, l, v⟩ := r; cases l
  · exact wpAny_nextOf_tuple_end hh hit hr hx hE
  · exact wpAny_nextOf_list_end hh hit hr hx hE

def refsF : Nat → Nat → List Value
  | _, 0 => []
  | b, n + 1 => .ref b :: refsF (b + 1) n
theorem refsF_length : ∀ n b, (refsF b n).length = n
  | 0, _ => rfl
  | n + 1, b => by rw [refsF, List.length_cons, refsF_length n]
theorem refsF_snoc : ∀ n b, refsF b n ++ [.ref (b + n)] = refsF b (n + 1)
  | 0, b => rfl
  | n + 1, b => by
    show Value.ref b :: (refsF (b + 1) n ++ [.ref (b + (n + 1))]) = .ref b :: refsF (b + 1) (n + 1)
    rw [← refsF_snoc n (b + 1), show b + (n + 1) = b + 1 + n by omega]

theorem upd_tup {T : Addr} {arr : Array Value} {x : Value} {k : Nat} {Q : Unit → Shared → Prop} (hT : s.heap.get? T = some { cls := .type "tuple", data := .seq arr }) (hsz : arr.size ≤ sizeLine)
    (h : ∀ h', h'.get? T = some { cls := .type "tuple", data := .seq (arr.setIfInBounds k x) } → Heap.SameBut T s.heap h' → Q () { s with heap := h' }) :
    wpAny (model prog w) A (updateSeq T (·.setIfInBounds k x)) Q E s := by
  refine wpAny_updateSeq hT rfl (h _ ?_ (Heap.SameBut.update ..)) hsz (by simp; omega)
  rw [Heap.get?_update_self _ hT rfl]
  simp [Obj.mapSeq]

/-- the first next of a zip -/
theorem zn_item0 {b n : Nat} {rs : List Rw} {arr : Array Value} {Q : Value → Shared → Prop} (hn : rs.length = n) (hnz : 0 < n) (hlin : n ≤ sizeLine)
    (hrow : ∀ j r, rs[j]? = some r → r.at_ < b ∧ RowAt s.heap r ∧ ItAt s.heap (b + j) r 0 ∧ ∃ x, r.vals[0]? = some x)
    (hz : IsZip s.heap (b + n + 2) (b + n) (b + n + 1) .none) (hTI : s.heap.get? (b + n) = some { cls := .type "tuple", data := .seq (refsF b n).toArray })
    (hTO : s.heap.get? (b + n + 1) = some { cls := .type "tuple", data := .seq arr }) (harr : arr.size = n)
    (hQ : ∀ h' col tk, col.size = n → (∀ (j : Nat) (r : Rw), rs[j]? = some r → col[j]? = r.vals[0]?) → IsZip h' (b + n + 2) (b + n) (b + n + 1) (rawInt s.heap.objs.size) →
      (∀ (j : Nat) (r : Rw), rs[j]? = some r → ItAt h' (b + j) r 1) → h'.get? (b + n) = some { cls := .type "tuple", data := .seq (refsF b n).toArray } →
      h'.get? s.heap.objs.size = some { cls := .type "tuple", data := .seq col } → h'.objs.size = s.heap.objs.size + 1 →
      (∀ c o, (c < b ∨ b + n + 2 < c) → s.heap.get? c = some o → h'.get? c = some o) → Q (.ref s.heap.objs.size) { s with heap := h', toks := tk }) :
    wpAny (model prog w) A (Builtin.«zip.__next__» ⟨[.ref (b + n + 2)], []⟩) (fun fin s' => ∃ v, fin = .done (.ret v) ∧ Q v s') E s := by
  obtain ⟨hp, g, d, tk0, os⟩ := s
  show wpAny _ _ (field (.ref (b + n + 2)) 2 >>= _) _ _ _
  refine wpAny_bind (wpAny_field hz rfl (x := .bool false) rfl ?_)
  show wpAny _ _ (field (.ref (b + n + 2)) 3 >>= _) _ _ _
  refine wpAny_bind (wpAny_field hz rfl (x := .ref (b + n)) rfl ?_)
  refine wpAny_bind (wpAny_seqItems hTI rfl ?_)
  obtain ⟨m, rfl⟩ : ∃ m, n = m + 1 := ⟨n - 1, by omega⟩
  show wpAny _ _ (Builtin.SmallTypes.ownedTupleIsFree (.ref (b + (m + 1) + 2)) >>= _) _ _ _
  refine wpAny_bind ?_
  unfold Builtin.SmallTypes.ownedTupleIsFree
  refine wpAny_bind (wpAny_field hz rfl (x := .none) rfl (wpAny_pure ?_))
  simp only [if_true]
  refine wpAny_bind (wpAny_rule ?_)
  refine wpAny_bind (wpAny_field hz rfl (x := .ref (b + (m + 1) + 1)) rfl ?_)
  refine wpAny_bind (wpAny_setField_rec hz (by simp) fun g0 hz0 hs0 => ?_)
  replace hz0 : IsZip g0 (b + (m + 1) + 2) (b + (m + 1)) (b + (m + 1) + 1) .ellipsis := hz0
  replace hs0 : Heap.SameBut (b + (m + 1) + 2) hp g0 := hs0
  refine wpAny_bind (forIn_any (fun l bb s' => bb = ⟨none, ⟨⟩⟩ ∧ ∃ k m' arr' tk h', l = (refsF (b + k) m').zipIdx k ∧ k + m' = m + 1 ∧ s' = ⟨h', g, d, tk, os⟩ ∧
      IsZip h' (b + (m + 1) + 2) (b + (m + 1)) (b + (m + 1) + 1) .ellipsis ∧ h'.get? (b + (m + 1)) = some { cls := .type "tuple", data := .seq (refsF b (m + 1)).toArray } ∧
      h'.get? (b + (m + 1) + 1) = some { cls := .type "tuple", data := .seq arr' } ∧ arr'.size = m + 1 ∧ (∀ (j : Nat) (r : Rw), j < k → rs[j]? = some r → arr'[j]? = r.vals[0]?) ∧
      (∀ (j : Nat) (r : Rw), rs[j]? = some r → ItAt h' (b + j) r (if j < k then 1 else 0)) ∧ h'.objs.size = hp.objs.size ∧
      (∀ c o, (c < b ∨ b + (m + 1) + 2 < c) → hp.get? c = some o → h'.get? c = some o)) ?_ ?_ _ _ _ ?_)
  · rintro ⟨v, k⟩ r bb s' ⟨rfl, k0, m', arr', tk, h', hl, hkm, rfl, hz', hTI', hTO', ha', hcol, hit, hsz, hkp⟩
    cases m' with
    | zero => cases hl
    | succ m' =>
    obtain ⟨⟨rfl, rfl⟩, rfl⟩ := (by simpa [refsF, List.zipIdx_cons] using hl : (v = Value.ref (b + k0) ∧ k = k0) ∧ r = (refsF (b + k0 + 1) m').zipIdx (k0 + 1))
    obtain ⟨r, hr⟩ : ∃ r, rs[k]? = some r := ⟨rs[k]'(by omega), List.getElem?_eq_getElem (by omega)⟩
    obtain ⟨h1, h2, _, x, hx⟩ := hrow k r hr
    have hI := hit k r hr
    rw [if_neg (Nat.lt_irrefl k)] at hI
    refine wpAny_bind (wpAny_onRaise ?_)
    show wpAny _ _ (Builtin.SmallTypes.nextOf (.ref (b + k)) >>= _) _ _ _
    refine wpAny_bind (zz_item (s := ⟨h', g, d, tk, os⟩) hI (h2.keep fun o e => hkp _ o (.inl h1) e) hx fun p hit1 hs1 => wpAny_pure ?_)
    replace hs1 : Heap.SameBut (b + k) h' p := hs1
    have hU : p.get? (b + (m + 1) + 1) = some { cls := .type "tuple", data := .seq arr' } := hs1.extBut _ _ (nn (by omega)) hTO'
    refine wpAny_bind (wpAny_seqItems (s := ⟨p, g, d, tk, os⟩) hU rfl ?_)
    refine wpAny_bind (upd_tup (s := ⟨p, g, d, tk, os⟩) hU (by omega) fun q hq hs2 => ?_)
    replace hs2 : Heap.SameBut (b + (m + 1) + 1) p q := hs2
    refine wpAny_bind (wpAny_letGo (wpAny_pure ⟨_, rfl, rfl, k + 1, m', _, tk, q, by rw [show b + (k + 1) = b + k + 1 by omega], by omega, rfl, hs2.extBut _ _ (nn (by omega)) (hs1.extBut _ _ (nn (by omega)) hz'),
      hs2.extBut _ _ (nn (by omega)) (hs1.extBut _ _ (nn (by omega)) hTI'), hq, by simp [ha'], ?_, ?_, by rw [hs2.1, hs1.1, hsz], ?_⟩))
    · intro j r' hj hr'
      by_cases e : j = k
      · subst e; rw [hr] at hr'; cases hr'; rw [hx, Array.getElem?_setIfInBounds_self_of_lt (by omega)]
      · rw [Array.getElem?_setIfInBounds_ne (Ne.symm e)]; exact hcol j r' (by omega) hr'
    · intro j r' hr'
      by_cases e : j = k
      · subst e; rw [hr] at hr'; cases hr'; rw [if_pos (Nat.lt_succ_self _)]; exact hit1.keep fun o e => hs2.extBut _ _ (nn (by omega)) e
      · have := hit j r' hr'
        have hjn : j < m + 1 := by rw [← hn]; exact (List.getElem?_eq_some_iff.mp hr').1
        rw [show (if j < k + 1 then 1 else 0) = (if j < k then 1 else 0) by split <;> split <;> omega]
        exact this.keep fun o e => hs2.extBut _ _ (nn (by omega)) (hs1.extBut _ _ (nn (by omega)) e)
    · intro c o hc e
      exact hs2.extBut _ _ (nn (by omega)) (hs1.extBut _ _ (nn (by omega)) (hkp c o hc e))
  · rintro bb s' ⟨rfl, k, m', arr', tk, h', hl, hkm, rfl, hz', hTI', hTO', ha', hcol, hit, hsz, hkp⟩
    cases m' with
    | succ m' => cases hl
    | zero =>
    obtain rfl : k = m + 1 := by omega
    refine wpAny_bind (wpAny_seqItems (s := ⟨h', g, d, tk, os⟩) hTO' rfl ?_)
    refine wpAny_bind (wpAny_newTuple ?_ (by simp; omega))
    have hlt : b + (m + 1) + 2 < h'.objs.size := Heap.lt_size hz'
    refine wpAny_bind ?_
    show wpAny _ _ (Builtin.SmallTypes.ownedTupleHandOut (.ref (b + (m + 1) + 2)) (.ref h'.objs.size)) _ _ ⟨h'.push { cls := .type "tuple", data := .seq arr'.toList.toArray }, g, d, tk, os⟩
    unfold Builtin.SmallTypes.ownedTupleHandOut
    have hz6 : IsZip (h'.push { cls := .type "tuple", data := .seq arr'.toList.toArray }) (b + (m + 1) + 2) (b + (m + 1)) (b + (m + 1) + 1) .ellipsis := Heap.get?_push_of_some _ hz'
    refine wpAny_bind (wpAny_setField_rec hz6 (by simp) fun h7 hz7 hs7 => ?_)
    replace hz7 : IsZip h7 (b + (m + 1) + 2) (b + (m + 1)) (b + (m + 1) + 1) (rawInt h'.objs.size) := hz7
    refine wpAny_setField_rec hz7 (by simp) fun h8 hz8 hs8 => ?_
    replace hz8 : IsZip h8 (b + (m + 1) + 2) (b + (m + 1)) (b + (m + 1) + 1) (rawInt h'.objs.size) := hz8
    replace hs7 : Heap.SameBut (b + (m + 1) + 2) (h'.push { cls := .type "tuple", data := .seq arr'.toList.toArray }) h7 := hs7
    replace hs8 : Heap.SameBut (b + (m + 1) + 2) h7 h8 := hs8
    have up : ∀ c o, c ≠ b + (m + 1) + 2 → h'.get? c = some o → h8.get? c = some o := fun c o c1 e => hs8.extBut _ _ c1 (hs7.extBut _ _ c1 (Heap.get?_push_of_some _ e))
    have hT8 : h8.get? h'.objs.size = some { cls := .type "tuple", data := .seq arr' } := by
      have := hs8.extBut _ _ (Nat.ne_of_gt hlt) (hs7.extBut _ _ (Nat.ne_of_gt hlt) (Heap.get?_push_size h' (o := { cls := .type "tuple", data := .seq arr'.toList.toArray }) rfl))
      rw [this]
    have h88 : h8.objs.size = h'.objs.size + 1 := by rw [hs8.1, hs7.1, Heap.size_push]
    refine wpAny_pure ⟨_, rfl, ?_⟩
    rw [hsz] at hz8 hT8 h88
    show Q (.ref h'.objs.size) ⟨h8, g, d, tk, os⟩
    rw [hsz]
    refine hQ h8 arr' tk ha' (fun j r hr => hcol j r (by rw [← hn]; exact (List.getElem?_eq_some_iff.mp hr).1) hr) hz8 (fun j r hr => ?_) (up _ _ (nn (by omega)) hTI') hT8 h88 fun c o hc e => up c o (nn (by omega)) (hkp c o hc e)
    have hjn : j < m + 1 := by rw [← hn]; exact (List.getElem?_eq_some_iff.mp hr).1
    have := hit j r hr
    rw [if_pos hjn] at this
    exact this.keep fun o e => up _ o (nn (by omega)) e
  · have i1 : b + (m + 1) ≠ b + (m + 1) + 2 := by omega
    have i2 : b + (m + 1) + 1 ≠ b + (m + 1) + 2 := by omega
    have i3 : ∀ c, (c < b ∨ b + (m + 1) + 2 < c) → c ≠ b + (m + 1) + 2 := by omega
    refine ⟨rfl, 0, m + 1, arr, tk0, g0, rfl, by omega, rfl, hz0, hs0.extBut _ _ i1 hTI, hs0.extBut _ _ i2 hTO, harr, fun j r hj => absurd hj (Nat.not_lt_zero j), fun j r hr => ?_, hs0.1, fun c o hc e => hs0.extBut _ _ (i3 c hc) e⟩
    have hjn : j < m + 1 := by rw [← hn]; exact (List.getElem?_eq_some_iff.mp hr).1
    rw [if_neg (Nat.not_lt_zero j)]
    exact (hrow j r hr).2.2.1.keep fun o e => hs0.extBut _ _ (nn (by omega)) e

/-- the later nexts: the tuple handed out before is still held -/
theorem zn_itemH {b n i T : Nat} {f : Bool} {oT : Obj} {rs : List Rw} {Q : Value → Shared → Prop} (hn : rs.length = n) (hnz : 0 < n) (hlin : n ≤ sizeLine)
    (hrow : ∀ j r, rs[j]? = some r → r.at_ < b ∧ RowAt s.heap r ∧ ItAt s.heap (b + j) r i ∧ ∃ x, r.vals[i]? = some x)
    (hz : IsZipHeld s.heap (b + n + 2) (b + n) (b + n + 1) T f) (hT : s.heap.get? T = some oT) (hTI : s.heap.get? (b + n) = some { cls := .type "tuple", data := .seq (refsF b n).toArray })
    (hQ : ∀ h' col, col.size = n → (∀ (j : Nat) (r : Rw), rs[j]? = some r → col[j]? = r.vals[i]?) → IsZipHeld h' (b + n + 2) (b + n) (b + n + 1) T true →
      (∀ (j : Nat) (r : Rw), rs[j]? = some r → ItAt h' (b + j) r (i + 1)) → h'.get? (b + n) = some { cls := .type "tuple", data := .seq (refsF b n).toArray } →
      h'.get? s.heap.objs.size = some { cls := .type "tuple", data := .seq col } → h'.objs.size = s.heap.objs.size + 1 →
      (∀ c o, (c < b ∨ b + n + 2 < c) → s.heap.get? c = some o → h'.get? c = some o) → Q (.ref s.heap.objs.size) { s with heap := h' }) :
    wpAny (model prog w) A (Builtin.«zip.__next__» ⟨[.ref (b + n + 2)], []⟩) (fun fin s' => ∃ v, fin = .done (.ret v) ∧ Q v s') E s := by
  obtain ⟨hp, g, d, tk, os⟩ := s
  show wpAny _ _ (field (.ref (b + n + 2)) 2 >>= _) _ _ _
  refine wpAny_bind (wpAny_field hz rfl (x := .bool false) rfl ?_)
  show wpAny _ _ (field (.ref (b + n + 2)) 3 >>= _) _ _ _
  refine wpAny_bind (wpAny_field hz rfl (x := .ref (b + n)) rfl ?_)
  refine wpAny_bind (wpAny_seqItems hTI rfl ?_)
  obtain ⟨m, rfl⟩ : ∃ m, n = m + 1 := ⟨n - 1, by omega⟩
  show wpAny _ _ (Builtin.SmallTypes.ownedTupleIsFree (.ref (b + (m + 1) + 2)) >>= _) _ _ _
  refine wpAny_bind (wpAny_tupleHeld_zip hz hT fun g0 hz0 hs0 => ?_)
  simp only [Bool.false_eq_true, if_false]
  replace hs0 : Heap.SameBut (b + (m + 1) + 2) hp g0 := hs0
  rw [← Array.forIn_toList]
  refine wpAny_bind (forIn_any (fun l bb s' => ∃ acc : Array Value, bb = ⟨none, acc⟩ ∧ ∃ k m' h', l = refsF (b + k) m' ∧ k + m' = m + 1 ∧ s' = ⟨h', g, d, tk, os⟩ ∧
      IsZipHeld h' (b + (m + 1) + 2) (b + (m + 1)) (b + (m + 1) + 1) T true ∧ h'.get? (b + (m + 1)) = some { cls := .type "tuple", data := .seq (refsF b (m + 1)).toArray } ∧
      acc.size = k ∧ (∀ (j : Nat) (r : Rw), j < k → rs[j]? = some r → acc[j]? = r.vals[i]?) ∧
      (∀ (j : Nat) (r : Rw), rs[j]? = some r → ItAt h' (b + j) r (if j < k then i + 1 else i)) ∧ h'.objs.size = hp.objs.size ∧
      (∀ c o, (c < b ∨ b + (m + 1) + 2 < c) → hp.get? c = some o → h'.get? c = some o)) ?_ ?_ _ _ _ ?_)
  · rintro v r bb s' ⟨acc, rfl, k0, m', h', hl, hkm, rfl, hz', hTI', ha', hcol, hit, hsz, hkp⟩
    cases m' with
    | zero => cases hl
    | succ m' =>
    obtain ⟨rfl, rfl⟩ := (by simpa [refsF] using hl : v = Value.ref (b + k0) ∧ r = refsF (b + k0 + 1) m')
    obtain ⟨r, hr⟩ : ∃ r, rs[k0]? = some r := ⟨rs[k0]'(by omega), List.getElem?_eq_getElem (by omega)⟩
    obtain ⟨h1, h2, _, x, hx⟩ := hrow k0 r hr
    have hI := hit k0 r hr
    rw [if_neg (Nat.lt_irrefl k0)] at hI
    refine wpAny_bind (wpAny_holding ?_)
    show wpAny _ _ (Builtin.SmallTypes.nextOf (.ref (b + k0)) >>= _) _ _ _
    refine wpAny_bind (zz_item (s := ⟨h', g, d, tk, os⟩) hI (h2.keep fun o e => hkp _ o (.inl h1) e) hx fun p hit1 hs1 => wpAny_pure ?_)
    replace hs1 : Heap.SameBut (b + k0) h' p := hs1
    refine wpAny_pure ⟨_, rfl, _, rfl, k0 + 1, m', p, by rw [show b + (k0 + 1) = b + k0 + 1 by omega], by omega, rfl, hs1.extBut _ _ (nn (by omega)) hz',
      hs1.extBut _ _ (nn (by omega)) hTI', by simp [ha'], ?_, ?_, by rw [hs1.1, hsz], ?_⟩
    · intro j r' hj hr'
      by_cases e : j = k0
      · subst e; rw [hr] at hr'; cases hr'; rw [hx, Array.getElem?_push, if_pos ha'.symm]
      · rw [Array.getElem?_push, if_neg (show ¬ j = acc.size by omega)]; exact hcol j r' (by omega) hr'
    · intro j r' hr'
      by_cases e : j = k0
      · subst e; rw [hr] at hr'; cases hr'; rw [if_pos (Nat.lt_succ_self _)]; exact hit1
      · have := hit j r' hr'
        have hjn : j < m + 1 := by rw [← hn]; exact (List.getElem?_eq_some_iff.mp hr').1
        rw [show (if j < k0 + 1 then i + 1 else i) = (if j < k0 then i + 1 else i) by split <;> split <;> omega]
        exact this.keep fun o e => hs1.extBut _ _ (nn (by omega)) e
    · intro c o hc e
      exact hs1.extBut _ _ (nn (by omega)) (hkp c o hc e)
  · rintro bb s' ⟨acc, rfl, k, m', h', hl, hkm, rfl, hz', hTI', ha', hcol, hit, hsz, hkp⟩
    cases m' with
    | succ m' => cases hl
    | zero =>
    obtain rfl : k = m + 1 := by omega
    show wpAny _ _ (newTuple acc.toList >>= _) _ _ _
    refine wpAny_bind (wpAny_newTuple ?_ (by simp; omega))
    have hlt : b + (m + 1) + 2 < h'.objs.size := Heap.lt_size hz'
    refine wpAny_pure ⟨_, rfl, ?_⟩
    show Q (.ref h'.objs.size) ⟨h'.push { cls := .type "tuple", data := .seq acc.toList.toArray }, g, d, tk, os⟩
    have hp4 := Heap.get?_push_size h' (o := { cls := .type "tuple", data := .seq acc.toList.toArray }) rfl
    have hz4 : (h'.push { cls := .type "tuple", data := .seq acc.toList.toArray }).objs.size = h'.objs.size + 1 := Heap.size_push ..
    rw [hsz] at hp4 hz4 ⊢
    refine hQ _ acc ha' (fun j r hr => hcol j r (by rw [← hn]; exact (List.getElem?_eq_some_iff.mp hr).1) hr) (Heap.get?_push_of_some _ hz') (fun j r hr => ?_) (Heap.get?_push_of_some _ hTI') hp4 hz4
      fun c o hc e => Heap.get?_push_of_some _ (hkp c o hc e)
    have hjn : j < m + 1 := by rw [← hn]; exact (List.getElem?_eq_some_iff.mp hr).1
    have := hit j r hr
    rw [if_pos hjn] at this
    exact this.keep fun o e => Heap.get?_push_of_some _ e
  · have i1 : b + (m + 1) ≠ b + (m + 1) + 2 := by omega
    have i3 : ∀ c, (c < b ∨ b + (m + 1) + 2 < c) → c ≠ b + (m + 1) + 2 := by omega
    refine ⟨#[], rfl, 0, m + 1, g0, rfl, by omega, rfl, hz0, hs0.extBut _ _ i1 hTI, rfl, fun j r hj => absurd hj (Nat.not_lt_zero j), fun j r hr => ?_, hs0.1, fun c o hc e => hs0.extBut _ _ (i3 c hc) e⟩
    have hjn : j < m + 1 := by rw [← hn]; exact (List.getElem?_eq_some_iff.mp hr).1
    rw [if_neg (Nat.not_lt_zero j)]
    exact (hrow j r hr).2.2.1.keep fun o e => hs0.extBut _ _ (nn (by omega)) e

/-- the end, first next -/
theorem zn_end0 {b n : Nat} {r0 : Rw} {Q : Fin → Shared → Prop} (hh : A.handled = none) (hnz : 0 < n)
    (hr1 : r0.at_ < b) (hr2 : RowAt s.heap r0) (hr3 : ItAt s.heap b r0 0) (hend : r0.vals[0]? = none)
    (hz : IsZip s.heap (b + n + 2) (b + n) (b + n + 1) .none) (hTI : s.heap.get? (b + n) = some { cls := .type "tuple", data := .seq (refsF b n).toArray })
    (hE : ∀ h' e, (∀ c o, (c < b ∨ b + n + 2 < c) → s.heap.get? c = some o → h'.get? c = some o) → (∃ o, h'.get? e = some o ∧ o.cls = .type "StopIteration") → E (.ref e) { s with heap := h' }) :
    wpAny (model prog w) A (Builtin.«zip.__next__» ⟨[.ref (b + n + 2)], []⟩) Q E s := by
  obtain ⟨hp, g, d, tk0, os⟩ := s
  show wpAny _ _ (field (.ref (b + n + 2)) 2 >>= _) _ _ _
  refine wpAny_bind (wpAny_field hz rfl (x := .bool false) rfl ?_)
  show wpAny _ _ (field (.ref (b + n + 2)) 3 >>= _) _ _ _
  refine wpAny_bind (wpAny_field hz rfl (x := .ref (b + n)) rfl ?_)
  refine wpAny_bind (wpAny_seqItems hTI rfl ?_)
  obtain ⟨m, rfl⟩ : ∃ m, n = m + 1 := ⟨n - 1, by omega⟩
  show wpAny _ _ (Builtin.SmallTypes.ownedTupleIsFree (.ref (b + (m + 1) + 2)) >>= _) _ _ _
  refine wpAny_bind ?_
  unfold Builtin.SmallTypes.ownedTupleIsFree
  refine wpAny_bind (wpAny_field hz rfl (x := .none) rfl (wpAny_pure ?_))
  simp only [if_true]
  refine wpAny_bind (wpAny_rule ?_)
  refine wpAny_bind (wpAny_field hz rfl (x := .ref (b + (m + 1) + 1)) rfl ?_)
  refine wpAny_bind (wpAny_setField_rec hz (by simp) fun g0 hz0 hs0 => ?_)
  replace hz0 : IsZip g0 (b + (m + 1) + 2) (b + (m + 1)) (b + (m + 1) + 1) .ellipsis := hz0
  replace hs0 : Heap.SameBut (b + (m + 1) + 2) hp g0 := hs0
  refine wpAny_bind ?_
  simp only [refsF, List.zipIdx_cons, List.forIn_cons]
  refine wpAny_bind (wpAny_bind (wpAny_onRaise ?_))
  show wpAny _ _ (Builtin.SmallTypes.nextOf (.ref b) >>= _) _ _ ⟨g0, g, d, tk0, os⟩
  refine wpAny_bind (zz_end (s := ⟨g0, g, d, tk0, os⟩) hh (hr3.keep fun o e => hs0.extBut _ _ (nn (by omega)) e) (hr2.keep fun o e => hs0.extBut _ _ (nn (by omega)) e) hend fun q e hq he => ?_)
  replace hq : Heap.ExtBut b g0 q := hq
  obtain ⟨oe, hoe, hce⟩ := he
  replace hoe : q.get? e = some oe := hoe
  have hzq : IsZip q (b + (m + 1) + 2) (b + (m + 1)) (b + (m + 1) + 1) .ellipsis := hq _ _ (nn (by omega)) hz0
  have hez : e ≠ b + (m + 1) + 2 := fun x => by subst x; rw [hzq] at hoe; cases hoe; simp at hce
  refine wpAny_setField_rec (s := ⟨q, g, d, tk0, os⟩) hzq (by simp) fun q' _ hq' => ?_
  replace hq' : Heap.SameBut (b + (m + 1) + 2) q q' := hq'
  exact hE q' e (fun c o hc x => hq'.extBut _ _ (nn (by omega)) (hq _ _ (nn (by omega)) (hs0.extBut _ _ (nn (by omega)) x))) ⟨oe, hq'.extBut _ _ hez hoe, hce⟩

theorem zn_endH {b n i T : Nat} {f : Bool} {oT : Obj} {r0 : Rw} {Q : Fin → Shared → Prop} (hh : A.handled = none) (hnz : 0 < n)
    (hr1 : r0.at_ < b) (hr2 : RowAt s.heap r0) (hr3 : ItAt s.heap b r0 i) (hend : r0.vals[i]? = none)
    (hz : IsZipHeld s.heap (b + n + 2) (b + n) (b + n + 1) T f) (hT : s.heap.get? T = some oT) (hTI : s.heap.get? (b + n) = some { cls := .type "tuple", data := .seq (refsF b n).toArray })
    (hE : ∀ h' e, (∀ c o, (c < b ∨ b + n + 2 < c) → s.heap.get? c = some o → h'.get? c = some o) → (∃ o, h'.get? e = some o ∧ o.cls = .type "StopIteration") → E (.ref e) { s with heap := h' }) :
    wpAny (model prog w) A (Builtin.«zip.__next__» ⟨[.ref (b + n + 2)], []⟩) Q E s := by
  obtain ⟨hp, g, d, tk0, os⟩ := s
  show wpAny _ _ (field (.ref (b + n + 2)) 2 >>= _) _ _ _
  refine wpAny_bind (wpAny_field hz rfl (x := .bool false) rfl ?_)
  show wpAny _ _ (field (.ref (b + n + 2)) 3 >>= _) _ _ _
  refine wpAny_bind (wpAny_field hz rfl (x := .ref (b + n)) rfl ?_)
  refine wpAny_bind (wpAny_seqItems hTI rfl ?_)
  obtain ⟨m, rfl⟩ : ∃ m, n = m + 1 := ⟨n - 1, by omega⟩
  show wpAny _ _ (Builtin.SmallTypes.ownedTupleIsFree (.ref (b + (m + 1) + 2)) >>= _) _ _ _
  refine wpAny_bind (wpAny_tupleHeld_zip hz hT fun g0 hz0 hs0 => ?_)
  simp only [Bool.false_eq_true, if_false]
  replace hs0 : Heap.SameBut (b + (m + 1) + 2) hp g0 := hs0
  rw [← Array.forIn_toList]
  refine wpAny_bind ?_
  simp only [refsF, List.forIn_cons]
  refine wpAny_bind (wpAny_bind (wpAny_holding ?_))
  show wpAny _ _ (Builtin.SmallTypes.nextOf (.ref b) >>= _) _ _ ⟨g0, g, d, tk0, os⟩
  refine wpAny_bind (zz_end (s := ⟨g0, g, d, tk0, os⟩) hh (hr3.keep fun o e => hs0.extBut _ _ (nn (by omega)) e) (hr2.keep fun o e => hs0.extBut _ _ (nn (by omega)) e) hend fun q e hq he => ?_)
  replace hq : Heap.ExtBut b g0 q := hq
  exact hE q e (fun c o hc x => (hq _ _ (nn (by omega)) (hs0.extBut _ _ (nn (by omega)) x))) he
/-- zip of nothing ends at once -/
theorem zn_endE {b : Nat} {f0 : Value} {Q : Fin → Shared → Prop} (hh : A.handled = none)
    (hz : IsZip s.heap (b + 2) b (b + 1) f0) (hTI : s.heap.get? b = some { cls := .type "tuple", data := .seq #[] })
    (hE : ∀ h' e, (∀ c o, s.heap.get? c = some o → h'.get? c = some o) → (∃ o, h'.get? e = some o ∧ o.cls = .type "StopIteration") → E (.ref e) { s with heap := h' }) :
    wpAny (model prog w) A (Builtin.«zip.__next__» ⟨[.ref (b + 2)], []⟩) Q E s := by
  obtain ⟨hp, g, d, tk0, os⟩ := s
  show wpAny _ _ (field (.ref (b + 2)) 2 >>= _) _ _ _
  refine wpAny_bind (wpAny_field hz rfl (x := .bool false) rfl ?_)
  show wpAny _ _ (field (.ref (b + 2)) 3 >>= _) _ _ _
  refine wpAny_bind (wpAny_field hz rfl (x := .ref b) rfl ?_)
  refine wpAny_bind (wpAny_seqItems hTI rfl ?_)
  show wpAny _ _ (rule "zip.__next__.no-iterables" >>= _) _ _ _
  refine wpAny_bind (wpAny_rule ?_)
  refine wpAny_bind ?_
  show wpAny _ _ (newExc (.type "StopIteration") [] >>= _) _ _ _
  refine wpAny_bind ?_
  simp only [newExc, newTuple]
  refine wpAny_bind (wpAny_newObj_type ?_ (by size_fits))
  refine wpAny_bind (m := firstArgMember _ _) (wpAny_of_eq (a := Value.none) (by first | rfl | (simp only [firstArgMember]; rfl)) ?_)
  refine wpAny_newObj_type ?_ (by size_fits)
  simp only [raiseNew]
  refine wpAny_bind (wpAny_handled ?_)
  first | rw [show A.in1.handled = none from hh] | rw [hh]
  refine wpAny_bind (wpAny_pure (wpAny_throw ?_))
  exact hE _ _ (fun c o e => Heap.get?_push_of_some _ (Heap.get?_push_of_some _ e)) ⟨_, Heap.get?_push_size _ rfl, rfl⟩
end
end PySem.Z
set_option maxRecDepth 100000
set_option Elab.async false
namespace PySem.Z
open PySem

theorem newClass_zip (vs : List Value) : Builtin.SmallTypes.newClass "zip" ⟨.type "zip" :: vs, []⟩ = pure (.type "zip", vs) := by
  unfold Builtin.SmallTypes.newClass
  simp only [isType, sub_zip, pure_bind, Bool.not_true, Bool.false_eq_true, if_false]

/-- what zip.__new__ leaves -/
structure ZBeg (b : Nat) (rs : List Rw) (h0 h : Heap) : Prop where
  old : ∀ c o, h0.get? c = some o → h.get? c = some o
  it : ∀ (j : Nat) (r : Rw), rs[j]? = some r → ItAt h (b + j) r 0
  TI : h.get? (b + rs.length) = some { cls := .type "tuple", data := .seq (refsF b rs.length).toArray }
  TO : ∃ arr : Array Value, arr.size = rs.length ∧ h.get? (b + rs.length + 1) = some { cls := .type "tuple", data := .seq arr }
  z : IsZip h (b + rs.length + 2) (b + rs.length) (b + rs.length + 1) .none
  size : h.objs.size = b + rs.length + 3

section
variable {prog : Program} {w : World} {A : Around} {E : Value → Shared → Prop} {s : Shared}
theorem zz_iter {r : Rw} {Q : Value → Shared → Prop} (hr : RowAt s.heap r)
    (hQ : ∀ h', ItAt h' s.heap.objs.size r 0 → h'.objs.size = s.heap.objs.size + 1 → (∀ c o, s.heap.get? c = some o → h'.get? c = some o) → Q (.ref s.heap.objs.size) { s with heap := h' }) :
    wpAny (model prog w) A (pyIter (.ref r.at_)) Q E s := by
  obtain ⟨a, l, v⟩ := r; cases l
  · exact wpAny_pyIter_tuple hr (hQ _ ⟨_, Heap.get?_push_size _ rfl, rfl, rfl⟩ (Heap.size_push ..) fun c o e => Heap.get?_push_of_some _ e)
  · exact wpAny_pyIter_list hr (hQ _ ⟨_, Heap.get?_push_size _ rfl, rfl, rfl⟩ (Heap.size_push ..) fun c o e => Heap.get?_push_of_some _ e)
end

theorem zz_new (rs : List Rw) (hlin : rs.length ≤ sizeLine) :
    Meets (Builtin.«zip.__new__» ⟨.type "zip" :: rs.map (fun r => Value.ref r.at_), []⟩) (fun _ R s => (∀ (j : Nat) (r : Rw), rs[j]? = some r → RowAt s.heap r) ∧
      ∀ h', ZBeg s.heap.objs.size rs s.heap h' → R (.ok (.ret (.ref (s.heap.objs.size + rs.length + 2)))) { s with heap := h' }) :=
  .of_wp fun prog w A R s h => by
    obtain ⟨hp, g, d, tk, os⟩ := s; obtain ⟨hr, h⟩ := h
    unfold Builtin.«zip.__new__»
    refine wpAny_bind (wpAny_of_eq (newClass_zip _) ?_)
    try dsimp only
    refine wpAny_bind ?_
    unfold Builtin.SmallTypes.iterAll
    refine wpAny_bind (forIn_any (fun l (bb : Array Value) s' => ∃ k h', l = (rs.drop k).map (fun r => Value.ref r.at_) ∧ k ≤ rs.length ∧ bb = (refsF hp.objs.size k).toArray ∧ s' = ⟨h', g, d, tk, os⟩ ∧
      (∀ (j : Nat) (r : Rw), j < k → rs[j]? = some r → ItAt h' (hp.objs.size + j) r 0) ∧ h'.objs.size = hp.objs.size + k ∧ (∀ c o, hp.get? c = some o → h'.get? c = some o)) ?_ ?_ _ _ _ ?_)
    · rintro v r bb s' ⟨k, h', hl, hk, rfl, rfl, hit, hsz, hkp⟩
      have hlt : k < rs.length := by
        rcases Nat.lt_or_ge k rs.length with h | h
        · exact h
        · rw [List.drop_eq_nil_of_le h] at hl; cases hl
      rw [List.drop_eq_getElem_cons hlt, List.map_cons] at hl
      injection hl with e1 e2
      subst e1 e2
      have hrk : rs[k]? = some rs[k] := List.getElem?_eq_getElem hlt
      refine wpAny_bind (wpAny_holding (zz_iter (s := ⟨h', g, d, tk, os⟩) (r := rs[k]) ?_ fun p hi hsp hkp' => wpAny_pure ⟨_, rfl, k + 1, p, rfl, hlt, ?_, rfl, ?_, ?_, fun c o e => hkp' _ _ (hkp c o e)⟩))
      · exact (hr k _ hrk).keep fun o e => hkp _ o e
      · show (refsF hp.objs.size k).toArray.push (.ref h'.objs.size) = _
        rw [hsz, List.push_toArray, refsF_snoc]
      · intro j r hj hr'
        by_cases e : j = k
        · subst e; rw [hrk] at hr'; cases hr'; rw [← hsz]; exact hi
        · exact (hit j r (by omega) hr').keep fun o e => hkp' _ o e
      · rw [hsp]; show h'.objs.size + 1 = _; rw [hsz]; omega
    · rintro bb s' ⟨k, h', hl, hk, rfl, rfl, hit, hsz, hkp⟩
      have hk' : k = rs.length := by
        rcases Nat.lt_or_ge k rs.length with h | h
        · rw [List.drop_eq_getElem_cons h] at hl; cases hl
        · omega
      subst hk'
      refine wpAny_pure ?_
      have e0 : ((refsF hp.objs.size rs.length).toArray).toList = refsF hp.objs.size rs.length := rfl
      rw [e0]
      refine wpAny_bind (wpAny_newTuple ?_ (by rw [refsF_length]; exact hlin))
      refine wpAny_bind (wpAny_newTuple ?_ (by rw [List.length_map, refsF_length]; exact hlin))
      refine wpAny_bind ?_
      unfold Builtin.SmallTypes.newRecord
      refine wpAny_newObj_type (hd := show (5:Nat) ≤ sizeLine + 2 from Nat.le_of_ble_eq_true rfl) (wpAny_pure ⟨_, rfl, ?_⟩)
      have z1 : (h'.push { cls := .type "tuple", data := .seq (refsF hp.objs.size rs.length).toArray }).objs.size = hp.objs.size + rs.length + 1 := by rw [Heap.size_push, hsz]
      have z2 : ((h'.push { cls := .type "tuple", data := .seq (refsF hp.objs.size rs.length).toArray }).push { cls := .type "tuple", data := .seq ((refsF hp.objs.size rs.length).map fun _ => Value.none).toArray }).objs.size = hp.objs.size + rs.length + 2 := by rw [Heap.size_push, z1]
      show R (.ok (.ret (.ref ((h'.push _).push _).objs.size))) _
      rw [z2]
      refine h _ ⟨fun c o e => Heap.get?_push_of_some _ (Heap.get?_push_of_some _ (Heap.get?_push_of_some _ (hkp c o e))), fun j r hr' => ?_, ?_, ⟨((refsF hp.objs.size rs.length).map fun _ => Value.none).toArray, by simp [refsF_length], ?_⟩, ?_, ?_⟩
      · exact (hit j r (List.getElem?_eq_some_iff.mp hr').1 hr').keep fun o e => Heap.get?_push_of_some _ (Heap.get?_push_of_some _ (Heap.get?_push_of_some _ e))
      · have := Heap.get?_push_size h' (o := { cls := .type "tuple", data := .seq (refsF hp.objs.size rs.length).toArray }) rfl
        rw [hsz] at this
        exact Heap.get?_push_of_some _ (Heap.get?_push_of_some _ this)
      · have := Heap.get?_push_size (h'.push { cls := .type "tuple", data := .seq (refsF hp.objs.size rs.length).toArray }) (o := { cls := .type "tuple", data := .seq ((refsF hp.objs.size rs.length).map fun _ => Value.none).toArray }) rfl
        rw [z1] at this
        exact Heap.get?_push_of_some _ this
      · have := Heap.get?_push_size ((h'.push { cls := .type "tuple", data := .seq (refsF hp.objs.size rs.length).toArray }).push { cls := .type "tuple", data := .seq ((refsF hp.objs.size rs.length).map fun _ => Value.none).toArray }) (o := { cls := .type "zip", data := .fields ([.none, .bool false] ++ [.bool false, .ref h'.objs.size, .ref (h'.push { cls := .type "tuple", data := .seq (refsF hp.objs.size rs.length).toArray }).objs.size] : List Value).toArray }) rfl
        rw [z2, z1, hsz] at this
        rw [z1, hsz]
        exact this
      · rw [Heap.size_push, z2]
    · exact ⟨0, hp, rfl, Nat.zero_le _, rfl, rfl, fun j r hj => absurd hj (Nat.not_lt_zero j), rfl, fun c o e => e⟩

section
variable {prog : Program} {w : World} {A : Around} {E : Value → Shared → Prop} {s : Shared}
theorem zz_call {rs : List Rw} {Q : Value → Shared → Prop} (hlin : rs.length ≤ sizeLine) (hr : ∀ (j : Nat) (r : Rw), rs[j]? = some r → RowAt s.heap r)
    (h : ∀ h', ZBeg s.heap.objs.size rs s.heap h' → Q (.ref (s.heap.objs.size + rs.length + 2)) { s with heap := h' }) :
    wpAny (model prog w) A (call (.type "zip") (rs.map (fun r => Value.ref r.at_))) Q E s :=
  callType_new F.called_zip (by decide) (zz_typeCall _) (zz_newCall _) (fun obj => zz_argsInit obj _) F.entry_zip_new (zz_new rs hlin)
    ⟨hr, fun h' B => ⟨⟨_, B.z, rfl⟩, h h' B⟩⟩
end
end PySem.Z
set_option maxRecDepth 100000
set_option Elab.async false
namespace PySem.Z
open PySem

theorem zip_no_len : typeLookup (.type "zip") "__len__" = pure none := by rw [typeLookup_type, builtinLookup_eq_fast]; kernel_rfl
theorem zip_no_hint : typeLookup (.type "zip") "__length_hint__" = pure none := by rw [typeLookup_type, builtinLookup_eq_fast]; kernel_rfl

/-- the walk of list(zip(..)), i columns drawn -/
structure ZSt (b n : Nat) (rs : List Rw) (i : Nat) (h : Heap) : Prop where
  row : ∀ (j : Nat) (r : Rw), rs[j]? = some r → r.at_ < b ∧ RowAt h r ∧ ItAt h (b + j) r i
  z : (i = 0 ∧ IsZip h (b + n + 2) (b + n) (b + n + 1) .none) ∨ (0 < i ∧ ∃ T f o, IsZipHeld h (b + n + 2) (b + n) (b + n + 1) T f ∧ b + n + 2 < T ∧ h.get? T = some o)
  TI : h.get? (b + n) = some { cls := .type "tuple", data := .seq (refsF b n).toArray }
  TO : i = 0 → ∃ arr : Array Value, arr.size = n ∧ h.get? (b + n + 1) = some { cls := .type "tuple", data := .seq arr }
  size : h.objs.size = b + n + 4 + i

/-- the columns drawn so far, and the list of them -/
structure ZCols (S b1 n i : Nat) (rs : List Rw) (h : Heap) : Prop where
  lst : ∃ (acc : Array Value) (c : Nat), h.get? S = some { cls := .type "list", dict := none, data := .seq acc c, slots := #[] } ∧ acc.size = i ∧ ∀ j, j < i → acc[j]? = some (.ref (b1 + j))
  col : ∀ c, c < i → ∃ col : Array Value, h.get? (b1 + c) = some { cls := .type "tuple", data := .seq col } ∧ col.size = n ∧ ∀ (j : Nat) (r : Rw), rs[j]? = some r → col[j]? = r.vals[c]?

section
variable {prog : Program} {w : World} {A : Around} {E : Value → Shared → Prop} {s : Shared}

theorem zx_item {b n i : Nat} {rs : List Rw} {Q : Option Value → Shared → Prop} (hn : rs.length = n) (hnz : 0 < n) (hlin : n ≤ sizeLine) (st : ZSt b n rs i s.heap) (hx : ∀ (j : Nat) (r : Rw), rs[j]? = some r → ∃ x, r.vals[i]? = some x)
    (hQ : ∀ h' col tk, ZSt b n rs (i + 1) h' → h'.get? (b + n + 4 + i) = some { cls := .type "tuple", data := .seq col } → col.size = n → (∀ (j : Nat) (r : Rw), rs[j]? = some r → col[j]? = r.vals[i]?) →
      (∀ c o, (c < b ∨ b + n + 2 < c) → s.heap.get? c = some o → h'.get? c = some o) → Q (some (.ref (b + n + 4 + i))) { s with heap := h', toks := tk }) :
    wpAny (model prog w) A (pyNext (.ref (b + n + 2))) Q E s := by
  have hT : s.TypeIs (.ref (b + n + 2)) "zip" := by
    rcases st.z with ⟨_, z⟩ | ⟨_, _, _, _, z, _, _⟩ <;> exact ⟨_, z, rfl⟩
  have hrow : ∀ j r, rs[j]? = some r → r.at_ < b ∧ RowAt s.heap r ∧ ItAt s.heap (b + j) r i ∧ ∃ x, r.vals[i]? = some x := fun j r e => ⟨(st.row j r e).1, (st.row j r e).2.1, (st.row j r e).2.2, hx j r e⟩
  unfold pyNext
  refine wpAny_bind (wpAny_attempt (wpAny_callSpecial?_slot (name := Str.ofString "__next__") hT F.slot_zip_next
    (wpAny_call_entry F.slot_zip_next hT F.entry_zip_next ?_ (F.args_zip_next_1 _))))
  rcases st.z with ⟨rfl, z⟩ | ⟨_, T, f, o, z, hTb, hTo⟩
  · obtain ⟨arr, ha, hTO⟩ := st.TO rfl
    refine zn_item0 hn hnz hlin hrow z st.TI hTO ha fun h' col tk hc1 hc2 hz' hit' hTI' hnew hsz hk => wpAny_pure ?_
    rw [st.size] at hnew hsz hz' ⊢
    exact hQ h' col tk ⟨fun j r e => ⟨(st.row j r e).1, (st.row j r e).2.1.keep fun o e' => hk _ o (.inl (st.row j r e).1) e', hit' j r e⟩, .inr ⟨Nat.succ_pos _, _, _, _, hz', by omega, hnew⟩, hTI', fun e => absurd e (Nat.succ_ne_zero _), hsz⟩ hnew hc1 hc2 hk
  · refine zn_itemH hn hnz hlin hrow z hTo st.TI fun h' col hc1 hc2 hz' hit' hTI' hnew hsz hk => wpAny_pure ?_
    rw [st.size] at hnew hsz ⊢
    exact hQ h' col s.toks ⟨fun j r e => ⟨(st.row j r e).1, (st.row j r e).2.1.keep fun o e' => hk _ o (.inl (st.row j r e).1) e', hit' j r e⟩, .inr ⟨Nat.succ_pos _, _, _, _, hz', hTb, hk _ _ (.inr hTb) hTo⟩, hTI', fun e => absurd e (Nat.succ_ne_zero _), hsz⟩ hnew hc1 hc2 hk

theorem zx_end {b n i : Nat} {rs : List Rw} {Q : Option Value → Shared → Prop} (hh : A.handled = none) (hn : rs.length = n) (hni : n = 0 → i = 0) (st : ZSt b n rs i s.heap) (hx : ∀ (j : Nat) (r : Rw), rs[j]? = some r → r.vals[i]? = none)
    (hQ : ∀ h', (∀ c o, (c < b ∨ b + n + 2 < c) → s.heap.get? c = some o → h'.get? c = some o) → Q none { s with heap := h' }) :
    wpAny (model prog w) A (pyNext (.ref (b + n + 2))) Q E s := by
  have hT : s.TypeIs (.ref (b + n + 2)) "zip" := by
    rcases st.z with ⟨_, z⟩ | ⟨_, _, _, _, z, _, _⟩ <;> exact ⟨_, z, rfl⟩
  unfold pyNext
  refine wpAny_bind (wpAny_attempt (wpAny_callSpecial?_slot (name := Str.ofString "__next__") hT F.slot_zip_next
    (wpAny_call_entry F.slot_zip_next hT F.entry_zip_next ?_ (F.args_zip_next_1 _))))
  have tail : ∀ h' e, (∀ c o, (c < b ∨ b + n + 2 < c) → s.heap.get? c = some o → h'.get? c = some o) → (∃ o, h'.get? e = some o ∧ o.cls = .type "StopIteration") → wpAny (model prog w) A (do
      if ← isInstance (.ref e) (.type "StopIteration") then pure none else throw (.ref e)) Q E { s with heap := h' } := fun h' e hk he => by
    obtain ⟨o, ho, hc⟩ := he
    refine wpAny_bind (wpAny_isInstance (T := "StopIteration") (b := true) ⟨o, ho, hc⟩ isSubtype_stop ?_)
    exact wpAny_pure (hQ _ hk)
  rcases Nat.eq_zero_or_pos n with rfl | hnz
  · have hTI : s.heap.get? b = some { cls := .type "tuple", data := .seq #[] } := st.TI
    rcases st.z with ⟨_, z⟩ | ⟨h0, _⟩
    · exact zn_endE hh z hTI fun h' e hk he => tail h' e (fun c o _ => hk c o) he
    · exact absurd (hni rfl) (Nat.ne_of_gt h0)
  · obtain ⟨r0, hr0⟩ : ∃ r, rs[0]? = some r := ⟨rs[0]'(by omega), List.getElem?_eq_getElem (by omega)⟩
    have R := st.row 0 r0 hr0
    rcases st.z with ⟨rfl, z⟩ | ⟨_, T, f, o, z, hTb, hTo⟩
    · exact zn_end0 hh hnz R.1 R.2.1 R.2.2 (hx 0 r0 hr0) z st.TI tail
    · exact zn_endH hh hnz R.1 R.2.1 R.2.2 (hx 0 r0 hr0) z hTo st.TI tail

theorem ZSt.keep {b n i : Nat} {rs : List Rw} {h h' : Heap} (st : ZSt b n rs i h) (hn : rs.length = n) (hsz : h'.objs.size = h.objs.size) (hk : ∀ c o, c ≠ b + n + 3 → h.get? c = some o → h'.get? c = some o)
    (hTS : ∃ o, h'.get? (b + n + 3) = some o) : ZSt b n rs i h' := by
  refine ⟨fun j r e => ?_, ?_, hk _ _ (nn (by omega)) st.TI, fun e => ?_, by rw [hsz]; exact st.size⟩
  · have := st.row j r e
    have hj : j < n := by rw [← hn]; exact (List.getElem?_eq_some_iff.mp e).1
    have h1 := this.1
    exact ⟨this.1, this.2.1.keep fun o e' => hk _ o (nn (by omega)) e', this.2.2.keep fun o e' => hk _ o (nn (by omega)) e'⟩
  · rcases st.z with ⟨e, z⟩ | ⟨e, T, f, o, z, hTb, hTo⟩
    · exact .inl ⟨e, hk _ _ (nn (by omega)) z⟩
    · refine .inr ⟨e, T, f, ?_⟩
      by_cases hT : T = b + n + 3
      · obtain ⟨o', ho'⟩ := hTS
        exact ⟨o', hk _ _ (nn (by omega)) z, hTb, hT ▸ ho'⟩
      · exact ⟨o, hk _ _ (nn (by omega)) z, hTb, hk _ _ hT hTo⟩
  · obtain ⟨arr, h1, h2⟩ := st.TO e
    exact ⟨arr, h1, hk _ _ (nn (by omega)) h2⟩

theorem zx_loop {R : Result → Shared → Prop} {b n m : Nat} {rs : List Rw} (hh : A.handled = none) (hn : rs.length = n) (hlin : n ≤ sizeLine) (hm : m ≤ sizeLine) (hnm : n = 0 → m = 0)
    (hv : ∀ (j : Nat) (r : Rw), rs[j]? = some r → r.vals.size = m) (res : Value) :
    ∀ (k i : Nat) (s : Shared), m - i = k → i ≤ m → ZSt b n rs i s.heap → ZCols (b + n + 3) (b + n + 4) n i rs s.heap →
    (∀ h' tk, ZCols (b + n + 3) (b + n + 4) n m rs h' → (∀ c o, c < b → s.heap.get? c = some o → h'.get? c = some o) → R (.ok (.ret res)) { s with heap := h', toks := tk }) →
    codeAny (model prog w) A (.builtin "list.extend.loop" ⟨[.ref (b + n + 3), .ref (b + n + 2), res], []⟩) R s := by
  intro k
  induction k with
  | zero =>
    intro i s hk hi st C hR
    obtain rfl : i = m := by omega
    refine codeAny_builtin F.entry_extend_loop ?_
    rw [Around.under_plainId F.plain_extend_loop _]
    show wpAny _ A.in1 (pyNext (.ref (b + n + 2)) >>= _) _ _ s
    refine wpAny_bind (zx_end hh hn hnm st (fun j r e => by rw [Array.getElem?_eq_none]; rw [hv j r e]; exact Nat.le_refl _) fun h' hk => ?_)
    refine wpAny_pure (hR h' s.toks ⟨?_, fun c hc => ?_⟩ fun c o hc e => hk c o (.inl hc) e)
    · obtain ⟨acc, c, h1, h2⟩ := C.lst
      exact ⟨acc, c, hk _ _ (.inr (by omega)) h1, h2⟩
    · obtain ⟨col, h1, h2⟩ := C.col c hc
      exact ⟨col, hk _ _ (.inr (by omega)) h1, h2⟩
  | succ k ih =>
    intro i s hk hi st C hR
    have hlt : i < m := by omega
    have hnz : 0 < n := by rcases Nat.eq_zero_or_pos n with e | e; have := hnm e; omega; exact e
    refine codeAny_builtin F.entry_extend_loop ?_
    rw [Around.under_plainId F.plain_extend_loop _]
    show wpAny _ A.in1 (pyNext (.ref (b + n + 2)) >>= _) _ _ s
    refine wpAny_bind (zx_item hn hnz hlin st (fun j r e => ⟨_, Array.getElem?_eq_getElem (by rw [hv j r e]; exact hlt)⟩) fun h' col tk st' hcol hc1 hc2 hkp => ?_)
    obtain ⟨acc, c, hS, ha, hacc⟩ := C.lst
    have hS' := hkp _ _ (.inr (by omega)) hS
    show wpAny _ A.in1 (updateSeq (b + n + 3) (·.push (.ref (b + n + 4 + i))) >>= _) _ _ ⟨h', s.gens, s.drawn, tk, s.os⟩
    refine wpAny_bind ?_
    have oth : ∀ c o, c ≠ b + n + 3 → h'.get? c = some o → (h'.update (b + n + 3) (Obj.mapSeq (·.push (.ref (b + n + 4 + i))))).get? c = some o := fun c o hc e =>
      (Heap.get?_update_other _ _ (Ne.symm hc)).trans e
    have hsz : (h'.update (b + n + 3) (Obj.mapSeq (·.push (.ref (b + n + 4 + i))))).objs.size = h'.objs.size := (Heap.SameBut.update ..).1
    have hSS := Heap.get?_update_self (Obj.mapSeq (·.push (Value.ref (b + n + 4 + i)))) hS' rfl
    refine wpAny_updateSeq (s := ⟨h', s.gens, s.drawn, tk, s.os⟩) hS' rfl (wpAny_pure ⟨plainId_quiet F.plain_extend_loop _, ih (i + 1) _ (by omega) hlt (st'.keep hn hsz oth ⟨_, hSS⟩) ⟨?_, ?_⟩ fun h'' tk' C' hk' => hR h'' tk' C' fun c o hc e => hk' c o hc (oth _ _ (nn (by omega)) (hkp _ _ (.inl hc) e))⟩)
      (by rw [ha]; omega) (by show (acc.push _).size ≤ sizeLine + 1; rw [Array.size_push, ha]; omega)
    · refine ⟨_, _, hSS, by show (acc.push _).size = _; rw [Array.size_push, ha], fun j hj => ?_⟩
      show (acc.push _)[j]? = _
      rw [Array.getElem?_push]
      by_cases e : j = i
      · subst e; rw [if_pos ha.symm]
      · rw [if_neg (by rw [ha]; exact e)]; exact hacc j (by omega)
    · intro c hc
      by_cases e : c = i
      · subst e; exact ⟨col, oth _ _ (nn (by omega)) hcol, hc1, hc2⟩
      · obtain ⟨col', h1, h2⟩ := C.col c (by omega)
        exact ⟨col', oth _ _ (nn (by omega)) (hkp _ _ (.inr (by omega)) h1), h2⟩

theorem zx_call {b n m : Nat} {rs : List Rw} {h0 : Heap} {Q : Value → Shared → Prop} (hh : A.handled = none) (hn : rs.length = n) (hlin : n ≤ sizeLine) (hm : m ≤ sizeLine) (hnm : n = 0 → m = 0)
    (hv : ∀ (j : Nat) (r : Rw), rs[j]? = some r → r.vals.size = m) (hr : ∀ (j : Nat) (r : Rw), rs[j]? = some r → r.at_ < b ∧ RowAt s.heap r) (B : ZBeg b rs h0 s.heap)
    (hQ : ∀ h' tk, ZCols (b + n + 3) (b + n + 4) n m rs h' → (∀ c o, c < b → s.heap.get? c = some o → h'.get? c = some o) → Q (.ref (b + n + 3)) { s with heap := h', toks := tk }) :
    wpAny (model prog w) A (call (.type "list") [.ref (b + n + 2)]) Q E s := by
  subst hn
  have hsz := B.size
  refine callType_codes (Q₁ := fun obj s₁ => obj = .ref s.heap.objs.size ∧ s₁ = { s with heap := s.heap.push { cls := .type "list", data := .seq #[] } }) PySem.F.called_list (PySem.F.typeCall_list_1 _) PySem.F.entry_list_init
    (code_list_new _ ⟨rfl, rfl⟩) fun obj s₁ h₁ => ?_
  obtain ⟨rfl, rfl⟩ := h₁
  rw [hsz]
  have hS : (s.heap.push { cls := .type "list", data := .seq #[] }).get? (b + rs.length + 3) = some { cls := .type "list", data := .seq #[] } := by
    rw [← hsz]; exact Heap.get?_push_size _ rfl
  refine ⟨⟨_, hS, rfl⟩, PySem.F.args_list_init_2 _ _, ?_⟩
  obtain ⟨arr, ha1, ha2⟩ := B.TO
  have st0 : ZSt b rs.length rs 0 (s.heap.push { cls := .type "list", data := .seq #[] }) :=
    ⟨fun j r e => ⟨(hr j r e).1, (hr j r e).2.keep fun o e' => Heap.get?_push_of_some _ e', (B.it j r e).keep fun o e' => Heap.get?_push_of_some _ e'⟩, .inl ⟨rfl, Heap.get?_push_of_some _ B.z⟩,
      Heap.get?_push_of_some _ B.TI, fun _ => ⟨arr, ha1, Heap.get?_push_of_some _ ha2⟩, by rw [Heap.size_push, hsz]⟩
  -- the list's cell may be written, nothing else
  have key : ∀ (h : Heap) (c₁ tk : Nat), h.objs.size = b + rs.length + 4 → (∀ c o, c ≠ b + rs.length + 3 → (s.heap.push { cls := .type "list", data := .seq #[] }).get? c = some o → h.get? c = some o) →
      h.get? (b + rs.length + 3) = some { cls := .type "list", data := .seq #[] c₁ } →
      codeAny (model prog w) A.in1 (.builtin "list.extend.loop" ⟨[.ref (b + rs.length + 3), .ref (b + rs.length + 2), .none], []⟩) (wants (fun r s₂ => r = .none ∧ Q (.ref (b + rs.length + 3)) s₂) E) { s with heap := h, toks := tk } := by
    intro h c₁ tk h1 h2 h3
    refine zx_loop (A := A.in1) hh rfl hlin hm hnm hv .none m 0 _ rfl (Nat.zero_le _) (st0.keep rfl (by rw [h1, Heap.size_push, hsz]) h2 ⟨_, h3⟩) ⟨⟨#[], c₁, h3, rfl, fun j hj => absurd hj (Nat.not_lt_zero j)⟩, fun c hc => absurd hc (Nat.not_lt_zero c)⟩ fun h' tk' C hk => ?_
    exact ⟨rfl, hQ h' tk' C fun c o hc e => hk c o hc (h2 c o (nn (by omega)) (Heap.get?_push_of_some _ e))⟩
  show wpAny _ _ (do let old ← Builtin.List.listItems (.ref (b + rs.length + 3)); Builtin.List.listUpdate (.ref (b + rs.length + 3)) (fun _ => #[]); letGo old.toList.reverse; Builtin.List.listExtendWith (.ref (b + rs.length + 3)) (.ref (b + rs.length + 2)) .none) _ _ _
  refine wpAny_bind ?_
  unfold Builtin.List.listItems
  refine wpAny_bind (wpAny_seqItems hS rfl (wpAny_pure ?_))
  show wpAny _ _ (updateSeq (b + rs.length + 3) (fun _ => #[]) >>= fun _ => letGo (#[] : Array Value).toList.reverse >>= fun _ => Builtin.List.listExtendWith (.ref (b + rs.length + 3)) (.ref (b + rs.length + 2)) .none) _ _ _
  refine wpAny_bind (wpAny_updateSeq hS rfl ?_)
  have hS₂ := Heap.get?_update_self (Obj.mapSeq (fun _ => (#[] : Array Value))) hS rfl
  have oth : ∀ c o, c ≠ b + rs.length + 3 → (s.heap.push { cls := .type "list", data := .seq #[] }).get? c = some o → ((s.heap.push { cls := .type "list", data := .seq #[] }).update (b + rs.length + 3) (Obj.mapSeq (fun _ => (#[] : Array Value)))).get? c = some o :=
    fun c o hc e => (Heap.get?_update_other _ _ (Ne.symm hc)).trans e
  have sz2 : ((s.heap.push { cls := .type "list", data := .seq #[] }).update (b + rs.length + 3) (Obj.mapSeq (fun _ => (#[] : Array Value)))).objs.size = b + rs.length + 4 := by
    rw [(Heap.SameBut.update ..).1, Heap.size_push, hsz]
  refine wpAny_bind (wpAny_letGo ?_)
  have hz2 := oth _ _ (nn (by omega)) (Heap.get?_push_of_some _ B.z)
  have hT : Shared.TypeIs ⟨(s.heap.push { cls := .type "list", data := .seq #[] }).update (b + rs.length + 3) (Obj.mapSeq (fun _ => (#[] : Array Value))), s.gens, s.drawn, s.toks, s.os⟩ (.ref (b + rs.length + 2)) "zip" := ⟨_, hz2, rfl⟩
  unfold Builtin.List.listExtendWith
  refine wpAny_bind (wpAny_typeOf hT ?_)
  have h1 : Builtin.List.listSameRef (.ref (b + rs.length + 3)) (.ref (b + rs.length + 2)) = false := by simp [Builtin.List.listSameRef]
  have h2 : (Value.type "zip" == Value.type "list") = false := by decide
  have h3 : (Value.type "zip" == Value.type "tuple") = false := by decide
  simp only [h1, h2, h3, Bool.or_false, Bool.false_eq_true, if_false]
  refine wpAny_bind (wpAny_pyIter_zip hz2 ?_)
  refine wpAny_bind (wpAny_holding ?_)
  unfold Builtin.List.listLengthHint
  refine wpAny_bind (wpAny_specialOf hT zip_no_len ?_)
  show wpAny _ _ (specialOf (Value.ref (b + rs.length + 2)) (Str.ofString "__length_hint__") >>= _) _ _ _
  refine wpAny_bind (wpAny_specialOf hT zip_no_hint ?_)
  refine wpAny_pure ?_
  show wpAny _ _ (rule "list.extend.makes-room" >>= fun _ => Builtin.List.listTouch (.ref (b + rs.length + 3)) >>= fun _ =>
    again (.builtin "list.extend.loop" ⟨[.ref (b + rs.length + 3), .ref (b + rs.length + 2), .none], []⟩)) _ _ _
  refine wpAny_bind (wpAny_rule ?_)
  refine wpAny_bind ?_
  show wpAny _ _ (updateSeq (b + rs.length + 3) (·.push .none) >>= fun _ => updateSeq (b + rs.length + 3) (·.pop)) _ _ _
  refine wpAny_bind (wpAny_updateSeq hS₂ rfl ?_)
  have hS₃ := Heap.get?_update_self (Obj.mapSeq (·.push Value.none)) hS₂ rfl
  refine wpAny_updateSeq hS₃ rfl ?_
  have hS₄ := Heap.get?_update_self (Obj.mapSeq (·.pop)) hS₃ rfl
  refine wpAny_pure ⟨plainId_quiet F.plain_extend_loop _, key _ _ s.toks ?_ (fun c o hc e => ?_) hS₄⟩
  · rw [(Heap.SameBut.update ..).1, (Heap.SameBut.update ..).1, sz2]
  · exact (Heap.get?_update_other _ _ (Ne.symm hc)).trans ((Heap.get?_update_other _ _ (Ne.symm hc)).trans (oth c o hc e))
end
end PySem.Z
set_option Elab.async false
set_option linter.all false
set_option maxRecDepth 100000
set_option maxHeartbeats 4000000
namespace Z
open PySem PySem.Spec PyProof.Rows L2 StX

theorem inv_many {X : Cx} {pins : List (Addr × Obj)} {σ : L2.St} {H H' : Hp} {s : Shared} {h' : Heap} {t' : Nat} (I : Inv X pins σ H s) (k : ∀ b u, s.heap.get? b = some u → h'.get? b = some u)
    (low : ∀ a, a < s.heap.objs.size → H' a = H a) (new : ∀ a o, s.heap.objs.size ≤ a → H' a = some o → ObjOk X.prog X.w H' h' a o) : Inv X pins σ H' { s with heap := h', toks := t' } := by
  have ext : ∀ a o, H a = some o → H' a = some o := fun a o e => by rw [low a (I.hok.lt e)]; exact e
  refine I.un ⟨fun b u q _ _ _ => k b u q, fun b u q _ _ _ => ⟨u.slots, k b u q⟩, fun b u q n _ => by rw [low b (Heap.lt_size q)]; exact n, fun b u q _ => ⟨u, k b u q⟩, fun b xs q => ext _ _ q, fun b o u q => ext _ _ q, fun b ps q => ⟨#[], by rw [ext _ _ q]; simp⟩⟩ ?_
  intro a o e
  rcases Nat.lt_or_ge a s.heap.objs.size with h | h
  · rw [low a h] at e
    exact (I.hok a o e).stay (fun b u _ q => k b u q) (fun b q => ext _ _ q) fun b xs q => ext _ _ q
  · exact new a o h e

def layC : Hp → Addr → List (List V) → Hp
  | H, _, [] => H
  | H, b, c :: cs => layC (upd H b (.tup c)) (b + 1) cs
theorem layC_low : ∀ (cs : List (List V)) (H : Hp) (b a : Nat), a < b → layC H b cs a = H a
  | [], _, _, _, _ => rfl
  | c :: cs, H, b, a, h => by rw [layC, layC_low cs _ (b + 1) a (Nat.lt_succ_of_lt h), upd_ne (Nat.ne_of_lt h)]
theorem layC_new : ∀ (cs : List (List V)) (H : Hp) (b a : Nat) (o : HO), b ≤ a → (∀ x, b ≤ x → H x = none) → layC H b cs a = some o → ∃ i c, a = b + i ∧ cs[i]? = some c ∧ o = .tup c
  | [], H, b, a, o, h, hn, e => by rw [layC, hn a h] at e; cases e
  | c :: cs, H, b, a, o, h, hn, e => by
    by_cases hab : a = b
    · subst hab
      rw [layC, layC_low cs _ (a + 1) a (Nat.lt_succ_self _), upd_same] at e
      cases e; exact ⟨0, c, rfl, rfl, rfl⟩
    · skip
      rw [layC] at e
      obtain ⟨i, c', e1, e2, e3⟩ := layC_new cs _ (b + 1) a o (by omega) (fun x hx => by rw [upd_ne (show x ≠ b by omega)]; exact hn x (by omega)) e
      exact ⟨i + 1, c', by omega, by simpa using e2, e3⟩
def refsV (b n : Nat) : List V := (List.range n).map fun c => V.ref (b + c)

/-- *rows: lists or tuples -/
inductive RowsV (K : Fg) (H : Hp) : List V → List (List V) → Prop
  | nil : RowsV K H [] []
  | cons {p : Addr} {r : List V} {xs rows} : (SqL K H p r ∨ SqT K H p r) → RowsV K H xs rows → RowsV K H (.ref p :: xs) (r :: rows)
def colsV (rows : List (List V)) (n : Nat) : List (List V) := (List.range n).map fun c => rows.map fun r => (r[c]?).getD .non

/-- list(zip(..)) over lists and tuples of one length -/
def tZipL (K : Fg) (ta : TA) : TE := fun σ H Q => ta σ H fun xs H1 => ∃ (rows : List (List V)) (n : Nat), RowsV K H1 xs rows ∧ (∀ r ∈ rows, r.length = n) ∧ (rows = [] → n = 0) ∧ rows.length ≤ sizeLine ∧ n ≤ sizeLine ∧
  ∀ b p : Nat, p < b → H1 p = none → (∀ x, b ≤ x → H1 x = none) → Q (.ref p) (upd (layC H1 b (colsV rows n)) p (.lst (refsV b n)))


theorem vals_ix : ∀ {xs : List V} {us : List Value}, xs.length = us.length → (∀ (i : Nat) x, xs[i]? = some x → ∃ u, us[i]? = some u ∧ RelV x u) → Vals xs us
  | [], [], _, _ => .nil
  | x :: xs, u :: us, hl, h => by
    obtain ⟨u', e, r⟩ := h 0 x rfl
    cases e
    exact .cons r (vals_ix (Nat.succ.inj hl) fun i y e => h (i + 1) y e)
  | [], _ :: _, hl, _ => by cases hl
  | _ :: _, [], hl, _ => by cases hl

theorem rows_rw {X : Cx} {pins : List (Addr × Obj)} {σ : L2.St} {H : Hp} {s : Shared} (I : Inv X pins σ H s) : ∀ {xs : List V} {rows : List (List V)} {us : List Value}, RowsV X.K H xs rows → Vals xs us →
    ∃ rs : List PySem.Z.Rw, us = rs.map (fun r => Value.ref r.at_) ∧ rs.length = rows.length ∧ ∀ (j : Nat) (r : PySem.Z.Rw), rs[j]? = some r → PySem.Z.RowAt s.heap r ∧ ∃ row, rows[j]? = some row ∧ Vals row r.vals.toList
  | _, _, _, .nil, .nil => ⟨[], rfl, rfl, fun j r e => by simp at e⟩
  | _, _, _, .cons (p := p) (r := r) (xs := xs) (rows := rows) h t, .cons (b := u) (l₂ := us) rx rxs => by
    obtain ⟨rs, e1, e2, e3⟩ := rows_rw I t rxs
    obtain rfl : u = Value.ref p := rx
    obtain ⟨l, its, h1, h2⟩ : ∃ (l : Bool) (its : List Value), Vals r its ∧ PySem.Z.RowAt s.heap ⟨p, l, its.toArray⟩ := by
      rcases h with h | h
      · obtain ⟨its, r', pl, _⟩ := I.list h
        exact ⟨true, its, r', pl.isList⟩
      · obtain ⟨its, r', pl, _⟩ := I.tuple h
        exact ⟨false, its, r', pl⟩
    refine ⟨⟨p, l, its.toArray⟩ :: rs, by rw [e1]; rfl, by rw [List.length_cons, List.length_cons, e2], fun j r' e => ?_⟩
    cases j with
    | zero => cases e; exact ⟨h2, r, rfl, by simpa using h1⟩
    | succ j => exact e3 j r' e

theorem refs_vals {us : Array Value} {b n : Nat} (hs : us.size = n) (h : ∀ j, j < n → us[j]? = some (.ref (b + j))) : Vals (refsV b n) us.toList := by
  refine vals_ix (by simp [refsV, hs]) fun i x e => ?_
  have hi : i < n := by have := (List.getElem?_eq_some_iff.mp e).1; simpa [refsV] using this
  refine ⟨.ref (b + i), by rw [Array.getElem?_toList]; exact h i hi, ?_⟩
  simp [refsV, hi] at e
  subst e; rfl

theorem keep_type {T : String} {M : Model} {h : Heap} : ∃ k, (k = Keeper.frame ∨ k = Keeper.machine ∨ k = Keeper.boundFrame) ∧ PySem.W.Looks M h (keeperOf (.type T)) k := ⟨.machine, .inr (.inl rfl), .of_pure rfl⟩

section
variable {X : Cx} {pins : List (Addr × Obj)} {σ : L2.St} {H : Hp} {s : Shared}
theorem run_zip {xs : List V} {us : List Value} {Q : VK} (hc : X.calm = true) (I : Inv X pins σ H s) (rv : Vals xs us)
    (h : ∃ (rows : List (List V)) (n : Nat), RowsV X.K H xs rows ∧ (∀ r ∈ rows, r.length = n) ∧ (rows = [] → n = 0) ∧ rows.length ≤ sizeLine ∧ n ≤ sizeLine ∧
      ∀ b p : Nat, p < b → H p = none → (∀ x, b ≤ x → H x = none) → Q (.ref p) (upd (layC H b (colsV rows n)) p (.lst (refsV b n)))) :
    wpAny (model X.prog X.w) X.A (call (.type "zip") us) (fun z s₁ => wpAny (model X.prog X.w) X.A (call (.type "list") [z]) (EP X pins σ Q) X.xe s₁) X.xe s := by
  obtain ⟨rows, m, hR, hm, hz, hl1, hl2, q⟩ := h
  obtain ⟨rs, rfl, hlen, hrs⟩ := rows_rw I hR rv
  have hd := I.ok.hd hc
  refine PySem.Z.zz_call (by rw [hlen]; exact hl1) (fun j r e => (hrs j r e).1) fun h1 B => ?_
  have hv : ∀ (j : Nat) (r : PySem.Z.Rw), rs[j]? = some r → r.vals.size = m := fun j r e => by
    obtain ⟨_, row, e1, e2⟩ := hrs j r e
    have h1 : row.length = r.vals.toList.length := e2.length
    have h2 : r.vals.toList.length = r.vals.size := Array.length_toList
    rw [← h2, ← h1]; exact hm row (List.mem_of_getElem? e1)
  have hat : ∀ (j : Nat) (r : PySem.Z.Rw), rs[j]? = some r → r.at_ < s.heap.objs.size := fun j r e => by
    have := (hrs j r e).1
    obtain ⟨a, l, v⟩ := r
    cases l <;> (obtain ⟨o, ho, _⟩ := this; exact Heap.lt_size ho)
  refine PySem.Z.zx_call (s := { s with heap := h1 }) (b := s.heap.objs.size) hd rfl (by rw [hlen]; exact hl1) hl2 (fun e => hz (by rw [hlen] at e; exact List.eq_nil_of_length_eq_zero e)) hv (fun j r e => ⟨hat j r e, (hrs j r e).1.keep fun o e' => B.old _ o e'⟩) B fun h' tk C hk => ?_
  have kp : ∀ c o, s.heap.get? c = some o → h'.get? c = some o := fun c o e => hk c o (Heap.lt_size e) (B.old c o e)
  have fresh : ∀ x, s.heap.objs.size ≤ x → H x = none := fun x hx => I.hok.fresh hx
  have hq := q (s.heap.objs.size + rs.length + 4) (s.heap.objs.size + rs.length + 3) (by omega) (fresh _ (by omega)) (fun x hx => fresh x (by omega))
  refine ⟨.ref (s.heap.objs.size + rs.length + 3), _, inv_many (s := s) (t' := tk) I kp (fun a ha => ?_) (fun a o ha e => ?_), rfl, hq⟩
  · rw [upd_ne (show a ≠ s.heap.objs.size + rs.length + 3 by omega), layC_low _ _ _ _ (by omega)]
  · by_cases hp : a = s.heap.objs.size + rs.length + 3
    · subst hp
      rw [upd_same] at e; cases e
      obtain ⟨acc, c, h2, h3, h4⟩ := C.lst
      exact ⟨by simp [refsV]; exact hl2, acc.toList, c, refs_vals h3 h4, by rw [Array.toArray_toList]; exact h2⟩
    · rw [upd_ne hp] at e
      have hlo : s.heap.objs.size + rs.length + 4 ≤ a := by
        rcases Nat.lt_or_ge a (s.heap.objs.size + rs.length + 4) with h | h
        · rw [layC_low _ _ _ _ h, fresh a ha] at e; cases e
        · exact h
      obtain ⟨i, col, rfl, hi, rfl⟩ := layC_new _ _ _ _ _ hlo (fun x hx => fresh x (by omega)) e
      have him : i < m := by have := (List.getElem?_eq_some_iff.mp hi).1; simpa [colsV] using this
      obtain ⟨cl, h2, h3, h4⟩ := C.col i him
      have hcol : col = rows.map fun r => (r[i]?).getD .non := by
        have : (colsV rows m)[i]? = some (rows.map fun r => (r[i]?).getD .non) := by simp [colsV, him]
        rw [this] at hi; cases hi; rfl
      subst hcol
      refine ⟨by rw [List.length_map]; exact hl1, cl.toList, vals_ix (by rw [List.length_map]; exact hlen.symm.trans (h3.symm.trans Array.length_toList.symm)) fun j x e => ?_, ⟨_, h2, rfl, _, by rw [Array.toArray_toList]⟩⟩
      have hj : j < rs.length := by have := (List.getElem?_eq_some_iff.mp e).1; simp at this; omega
      obtain ⟨_, row, e1, e2⟩ := hrs j rs[j] (List.getElem?_eq_getElem hj)
      have hrow : row.length = m := hm row (List.mem_of_getElem? e1)
      obtain ⟨y, hy⟩ : ∃ y, row[i]? = some y := ⟨row[i]'(by omega), List.getElem?_eq_getElem (by omega)⟩
      obtain ⟨u, hu, ru⟩ := e2.get hy
      rw [List.getElem?_map, e1] at e
      simp [hy] at e
      subst e
      refine ⟨u, ?_, ru⟩
      rw [Array.getElem?_toList, h4 j rs[j] (List.getElem?_eq_getElem hj)]
      rw [Array.getElem?_toList] at hu
      exact hu

theorem evalArgs_many {M : Model} {A : Around} {E : Value → Shared → Prop} {s : Shared} {f : Value} {x y : Bool × Sem Value} {rest : List (Bool × Sem Value)} {Q : Args → Shared → Prop}
    (h : wpAny M A (spliced (x :: y :: rest)) (fun vs s' => Q ⟨vs, []⟩ s') E s) : wpAny M A (evalArgs f true (x :: y :: rest) []) Q E s := by
  unfold evalArgs
  obtain ⟨b, x⟩ := x
  cases b <;>
  · show wpAny M A (spliced _ >>= _) Q E s
    refine wpAny_bind (wpAny_mono h (fun vs s' h' => ?_) fun _ _ x => x)
    refine wpAny_holding ?_
    exact wpAny_pure h'

theorem p_zipS {e : Expr} {te : TE} {l z : Str} {p1 p2 p3 pos1 pos2 : Pos} (hc : X.calm = true) (hg1 : Gl X l) (hm1 : X.mg l = none) (hv1 : bootBuiltins l = some (.type "list")) (hg2 : Gl X z) (hm2 : X.mg z = none) (hv2 : bootBuiltins z = some (.type "zip"))
    (he : PE X e te) (hn1 : l ≠ "__name__" := by decide) (hdb1 : (l == ("__debug__" : Str)) = false := by decide) (hn2 : z ≠ "__name__" := by decide) (hdb2 : (z == ("__debug__" : Str)) = false := by decide)
    (hst : starEach [.Starred e p3] X.env = [(true, eval e X.env)] := by rfl) :
    PE X (.Call (.Name l p1) [.Call (.Name z p2) [.Starred e p3] [] pos2] [] pos1) (tZipL X.K (tStar X.K te tNil)) := by
  refine ⟨fun pins s σ H Q I h => ?_⟩
  refine wpAny_Call_Name_kw (ld_blt I hg1 hm1 hv1 ?_ hn1 hdb1)
  refine PyProof.Rows.callWith_type1 ?_
  refine Calls.spliced_cons (thn (Q := fun v s₁ => wpAny (model X.prog X.w) X.A (call (.type "list") [v]) (EP X pins σ Q) X.xe s₁) ?_ fun v s1 h1 => Calls.spliced_nil h1)
  refine wpAny_Call_Name_kw (ld_blt I hg2 hm2 hv2 ?_ hn2 hdb2)
  rw [hst]
  refine PySem.W.ks_call (P := fun _ => True) rfl (fun _ _ => keep_type) (PySem.W.ks_lone ?_)
  refine thn (he.run pins s σ H _ I h) fun v s1 ⟨y, H1, I1, ry, a, xs, ey, hx, q⟩ => ?_
  subst ey
  obtain rfl : v = Value.ref a := ry
  refine star_any I1 (hx.elim .inl .inr) fun us s2 I2 rv => ⟨trivial, ?_⟩
  refine run_zip hc I2 rv ?_
  simpa [tNil] using q
theorem p_zipS1 {e e2 : Expr} {es : List Expr} {ta : TA} {l z : Str} {p1 p2 p3 pos1 pos2 : Pos} (hc : X.calm = true) (hg1 : Gl X l) (hm1 : X.mg l = none) (hv1 : bootBuiltins l = some (.type "list")) (hg2 : Gl X z) (hm2 : X.mg z = none) (hv2 : bootBuiltins z = some (.type "zip"))
    (he : PA X (.Starred e p3 :: e2 :: es) ta) (hn1 : l ≠ "__name__" := by decide) (hdb1 : (l == ("__debug__" : Str)) = false := by decide) (hn2 : z ≠ "__name__" := by decide) (hdb2 : (z == ("__debug__" : Str)) = false := by decide)
    (hst : ∃ x y r, backTo pos2 (starEach (.Starred e p3 :: e2 :: es) X.env) = (true, x) :: y :: r := by exact ⟨_, _, _, rfl⟩) :
    PE X (.Call (.Name l p1) [.Call (.Name z p2) (.Starred e p3 :: e2 :: es) [] pos2] [] pos1) (tZipL X.K ta) := by
  refine ⟨fun pins s σ H Q I h => ?_⟩
  refine wpAny_Call_Name_kw (ld_blt I hg1 hm1 hv1 ?_ hn1 hdb1)
  refine PyProof.Rows.callWith_type1 ?_
  refine Calls.spliced_cons (thn (Q := fun v s₁ => wpAny (model X.prog X.w) X.A (call (.type "list") [v]) (EP X pins σ Q) X.xe s₁) ?_ fun v s1 h1 => Calls.spliced_nil h1)
  refine wpAny_Call_Name_kw (ld_blt I hg2 hm2 hv2 ?_ hn2 hdb2)
  have hr := he.run pos2 pins s σ H _ I h
  obtain ⟨x, y, r, hst⟩ := hst
  rw [hst] at hr ⊢
  refine PySem.W.ks_call (P := fun _ => True) rfl (fun _ _ => keep_type) (evalArgs_many ?_)
  refine thn hr fun us s2 ⟨vs, H2, I2, rv, q⟩ => ⟨trivial, ?_⟩
  exact run_zip hc I2 rv q
end

/-! ### on data -/
inductive Sqs (M : Mem) : List D → List (List D) → Prop
  | nil : Sqs M [] []
  | cons {d : D} {r : List D} {ds rows} : Sq M d r → Sqs M ds rows → Sqs M (d :: ds) (r :: rows)
theorem Sqs.tups {M : Mem} : ∀ (rows : List (List D)), Sqs M (rows.map D.tup) rows
  | [] => .nil
  | _ :: rows => .cons .tup (Sqs.tups rows)
theorem Sqs.append {M : Mem} {ds es : List D} {rows rows' : List (List D)} (h : Sqs M ds rows) (h' : Sqs M es rows') : Sqs M (ds ++ es) (rows ++ rows') := by
  induction h with
  | nil => exact h'
  | cons a _ ih => exact .cons a ih
def colsD (rows : List (List D)) (n : Nat) : List (List D) := (List.range n).map fun c => rows.map fun r => (r[c]?).getD .non

variable {c : Cz} {Γ : Gm} {M : Mem}
theorem za_star {te : TE} {t : TA} {k : List D → Mem → Prop} (h : ZE c te Γ M fun d M1 => ∃ ds, Sq M1 d ds ∧ ZA c t Γ M1 fun es M2 => k (ds ++ es) M2) : ZA c (tStar c.K te t) Γ M k := fun R F σ H Q hs L X q =>
  h R F σ H _ hs L X fun v F1 H1 M1 d e1 L1 r1 ⟨ds, s, h1⟩ => by
    obtain ⟨a, vs, rfl, p, rr⟩ := s.read L1 r1
    exact ⟨a, vs, rfl, p.elim .inr .inl, h1 R F1 σ H1 _ (hs.mono e1) L1 (X.mono e1) fun ws F2 H2 M2 es e2 L2 r2 kk => q _ F2 H2 M2 _ (e1.trans e2) L2 ((rr.mono e2).append r2) kk⟩

theorem Sqs.read {K : Fg} {F H : Hp} {R : Mem} {ds : List D} {rows : List (List D)} (s : Sqs M ds rows) (L : Lay K F (M ++ R) H) : ∀ {vs : List V}, Rps K F vs ds → ∃ rv : List (List V), RowsV K H vs rv ∧ rv.length = rows.length ∧ ∀ (i : Nat) (r : List D), rows[i]? = some r → ∃ rv', rv[i]? = some rv' ∧ Rps K F rv' r := by
  induction s with
  | nil => intro vs r; rw [r.unnil]; exact ⟨[], .nil, rfl, fun i r e => by simp at e⟩
  | cons a _ ih =>
    intro vs r
    obtain ⟨v, vs', rfl, rv, rvs⟩ := r.uncons
    obtain ⟨l, h1, h2, h3⟩ := ih rvs
    obtain ⟨p, ws, rfl, hp, rr⟩ := a.read L rv
    refine ⟨ws :: l, .cons hp h1, by rw [List.length_cons, List.length_cons, h2], fun i r e => ?_⟩
    cases i with
    | zero => cases e; exact ⟨ws, rfl, rr⟩
    | succ i => exact h3 i r e

theorem lay_cols {K : Fg} : ∀ (cs : List (List V)) (dcs : List (List D)) (F H : Hp) (M : Mem) (b : Nat), cs.length = dcs.length → Lay K F M H → (∀ x, b ≤ x → H x = none) →
    (∀ (i : Nat) (x : List V) (y : List D), cs[i]? = some x → dcs[i]? = some y → Rps K F x y) →
    ∃ F', Ex F F' ∧ Lay K F' M (layC H b cs) ∧ ∀ (i : Nat) (y : List D), dcs[i]? = some y → Rp K F' (.ref (b + i)) (.tup y)
  | [], [], F, H, M, b, _, L, _, _ => ⟨F, Ex.refl F, L, fun i y e => by simp at e⟩
  | x :: cs, y :: dcs, F, H, M, b, hl, L, hn, hr => by
    have hb := hn b (Nat.le_refl b)
    have L1 : Lay K (upd F b (.tup x)) M (upd H b (.tup x)) := L.new hb
    have E1 : Ex F (upd F b (.tup x)) := ex_upd (L.free hb)
    obtain ⟨F', e, L', h'⟩ := lay_cols cs dcs _ _ M (b + 1) (Nat.succ.inj hl) L1 (fun z hz => by rw [upd_ne (show z ≠ b by omega)]; exact hn z (by omega)) (fun i a d h1 h2 => (hr (i + 1) a d h1 h2).mono E1)
    refine ⟨F', E1.trans e, L', fun i d hd => ?_⟩
    cases i with
    | zero =>
      obtain rfl : y = d := by simpa using hd
      exact (Rp.mk_tup (SqT.of upd_same) ((hr 0 x y rfl rfl).mono E1) : Rp K _ (.ref b) (.tup y)).mono e
    | succ i =>
      have := h' i d hd
      rw [show b + (i + 1) = b + 1 + i by omega]; exact this
  | [], _ :: _, _, _, _, _, hl, _, _, _ => by cases hl
  | _ :: _, [], _, _, _, _, hl, _, _, _ => by cases hl

theorem z_zipL {ta : TA} {k : D → Mem → Prop} (h : ZA c ta Γ M fun ds M1 => ∃ rows n, Sqs M1 ds rows ∧ (∀ r ∈ rows, r.length = n) ∧ (rows = [] → n = 0) ∧ rows.length ≤ sizeLine ∧ n ≤ sizeLine ∧ k (.lst ((colsD rows n).map D.tup)) M1) :
    ZE c (tZipL c.K ta) Γ M k := fun R F σ H Q hs L X q =>
  h R F σ H _ hs L X fun vs F1 H1 M1 ds e1 L1 r1 ⟨rows, n, hS, hn, hz, hl1, hl2, kk⟩ => by
    obtain ⟨rv, h1, h2, h3⟩ := hS.read L1 r1
    have hlen : ∀ r ∈ rv, r.length = n := fun r hr => by
      obtain ⟨i, hi⟩ := List.mem_iff_getElem?.mp hr
      obtain ⟨r', hr'⟩ : ∃ r', rows[i]? = some r' := by
        have := (List.getElem?_eq_some_iff.mp hi).1
        exact ⟨rows[i]'(by omega), List.getElem?_eq_getElem (by omega)⟩
      obtain ⟨y, e, rr⟩ := h3 i r' hr'
      rw [hi] at e; cases e
      rw [rr.len]; exact hn r' (List.mem_of_getElem? hr')
    refine ⟨rv, n, h1, hlen, fun e => hz (by subst e; exact List.eq_nil_of_length_eq_zero h2.symm), by rw [h2]; exact hl1, hl2, fun b p hpb hp hfr => ?_⟩
    obtain ⟨F2, e2, L2, h4⟩ := lay_cols (K := c.K) (colsV rv n) (colsD rows n) F1 H1 (M1 ++ R) b (by simp [colsV, colsD]) L1 hfr (fun i x y hx hy => by
      have hi : i < n := by have := (List.getElem?_eq_some_iff.mp hx).1; simpa [colsV] using this
      have ex : (colsV rv n)[i]? = some (rv.map fun r => (r[i]?).getD .non) := by simp [colsV, hi]
      have ey : (colsD rows n)[i]? = some (rows.map fun r => (r[i]?).getD .non) := by simp [colsD, hi]
      rw [ex] at hx; cases hx
      rw [ey] at hy; cases hy
      refine ⟨by rw [List.length_map, List.length_map, h2], fun j v d hv hd => ?_⟩
      rw [List.getElem?_map] at hv hd
      obtain ⟨r, hr, rfl⟩ := Option.map_eq_some_iff.mp hd
      obtain ⟨r', hr', rr⟩ := h3 j r hr
      rw [hr'] at hv
      cases hv
      have hri : i < r.length := by rw [hn r (List.mem_of_getElem? hr)]; exact hi
      have hri' : i < r'.length := by rw [rr.len]; exact hri
      show Rp c.K F1 ((r'[i]?).getD .non) ((r[i]?).getD .non)
      rw [List.getElem?_eq_getElem hri, List.getElem?_eq_getElem hri']
      exact rr.at_ i _ _ (List.getElem?_eq_getElem hri') (List.getElem?_eq_getElem hri))
    have hp' : layC H1 b (colsV rv n) p = none := by rw [layC_low _ _ _ _ hpb]; exact hp
    refine q (.ref p) _ _ M1 _ ((e1.trans e2).trans (ex_upd (L2.free hp'))) (L2.new hp') (.mk_lst upd_same ((?_ : Rps c.K F2 (refsV b n) ((colsD rows n).map D.tup)).mono (ex_upd (L2.free hp')))) kk
    refine ⟨by simp [refsV, colsD], fun i v d hv hd => ?_⟩
    have hi : i < n := by have := (List.getElem?_eq_some_iff.mp hv).1; simpa [refsV] using this
    rw [List.getElem?_map] at hd
    obtain ⟨y, hy, rfl⟩ := Option.map_eq_some_iff.mp hd
    have ev : (refsV b n)[i]? = some (.ref (b + i)) := by simp [refsV, hi]
    rw [ev] at hv; cases hv
    exact h4 i y hy
end Z
set_option Elab.async false
set_option linter.all false
set_option maxRecDepth 100000
set_option maxHeartbeats 4000000
/-! ZLin: further rules: lcm, a chain of two comparisons, x, y = a, b. -/
namespace Z
open PySem PySem.Spec PyProof.Rows L2
theorem boot_zip : bootBuiltins "zip" = some (.type "zip") := by decide +kernel
theorem boot_set : bootBuiltins "set" = some (.type "set") := by decide +kernel
section
variable {X : Cx}
def rLcmZ : List V → Hp → VK → Prop := fun vs H Q => ∃ a b : Int, vs = [.int a, .int b] ∧ a.natAbs.log2 < 13400 ∧ b.natAbs.log2 < 13400 ∧ (Nat.lcm a.natAbs b.natAbs).log2 < bitsLine ∧ Q (.int ((Nat.lcm a.natAbs b.natAbs : Nat) : Int)) H
theorem log2_max {a b n : Nat} (ha : a.log2 < n) (hb : b.log2 < n) : (max a b).log2 < n := by
  rcases Nat.le_total a b with h | h
  · rw [Nat.max_eq_right h]; exact hb
  · rw [Nat.max_eq_left h]; exact ha
theorem cz_lcm : CallR X (.builtin "math.lcm") rLcmZ := by
  intro pins s σ H vs us Q I r h
  obtain ⟨a, b, rfl, ha, hb, hl, q⟩ := h
  obtain ⟨t, u, rfl⟩ := Vals.int2 r
  have e : (Nat.lcm 1 a.natAbs).lcm b.natAbs = Nat.lcm a.natAbs b.natAbs := by rw [Nat.lcm_comm 1, Nat.lcm_one_right]
  have h1 : (max 1 a.natAbs).log2 < 13400 := log2_max (by decide) ha
  have h2 : (max a.natAbs b.natAbs).log2 < 13400 := log2_max ha hb
  refine call_function_meets PySem.W.MGF.kind_lcm PySem.W.MGF.plain_lcm PySem.W.MGF.entry_lcm (PySem.W.MGF.args_lcm _ _) (PySem.W.mg_run_lcm a t b u (by omega) (by omega) (by rw [e]; exact hl)).meets ?_
  rw [e]
  exact ⟨.int _, H, I.tok _, ⟨_, rfl⟩, q⟩
end
variable {c : Cz} {Γ : Gm} {M : Mem} {k : D → Mem → Prop} {ta tb tc : TE} {DD : ZEnds}
theorem zc_lcm {i j : Int} (h1 : i.natAbs.log2 < 13400) (h2 : j.natAbs.log2 < 13400) (h3 : (Nat.lcm i.natAbs j.natAbs).log2 < bitsLine) (h : k (.int ((Nat.lcm i.natAbs j.natAbs : Nat) : Int)) M) : ZC c rLcmZ [.int i, .int j] M k := fun R F H vs Q L r q => by
  obtain ⟨v, w, rfl, r1, r2⟩ := r.two
  rw [r1.of_int, r2.of_int]
  exact ⟨i, j, rfl, h1, h2, h3, q _ F H M _ (Ex.refl F) L (.int _) h⟩
theorem z_chain {r r' : R2} (h : ZE c ta Γ M fun x M1 => ZE c tb Γ M1 fun y M2 => ZR c r x y M2 fun z M3 => ∃ b, z = .bl b ∧ (b = true → ZE c tc Γ M3 fun u M4 => ZR c r' y u M4 k) ∧ (b = false → k (.bl false) M3)) : ZE c (tChain r r' ta tb tc) Γ M k := fun R F σ H Q hs L X q =>
  h R F σ H _ hs L X fun v F1 H1 M1 x e1 L1 r1 h1 => h1 R F1 σ H1 _ (hs.mono e1) L1 (X.mono e1) fun w F2 H2 M2 y e2 L2 r2 h2 => h2 R F2 H2 v w _ L2 (r1.mono e2) r2 fun z F3 H3 M3 d e3 L3 r3 ⟨b, hb, h3, h4⟩ => by
    subst hb
    refine ⟨b, r3.of_bl, ?_⟩
    have E := (e1.trans e2).trans e3
    cases b with
    | true => exact h3 rfl R F3 σ H3 _ (hs.mono E) L3 (X.mono E) fun u F4 H4 M4 du e4 L4 r4 h5 => h5 R F4 H4 w u Q L4 ((r2.mono e3).mono e4) r4 (q.mono (E.trans e4))
    | false => exact q (.bl false) F3 H3 M3 (.bl false) E L3 (.bl false) (h4 rfl)
theorem zs_par {i j : Nat} {ta : TA} (h : ZA c ta Γ M fun ds M1 => ∃ x y, ds = [x, y] ∧ DD.nx ((Γ.set i (some x)).set j (some y)) M1) : ZS c (tPar i j ta) Γ M DD := fun R F σ H D hs L X q =>
  h R F σ H _ hs L X fun vs F1 H1 M1 ds e1 L1 r1 ⟨x, y, e, h1⟩ => by
    subst e
    obtain ⟨v, w, rfl, r1, r2⟩ := r1.two
    exact ⟨v, w, rfl, q.nx _ F1 H1 M1 _ e1 L1 (((hs.mono e1).set i r1).set j r2) h1⟩
end Z
namespace Z
open PySem PySem.Spec PyProof.Rows L2
theorem boot_len : bootBuiltins "len" = some (.builtin "len") := by decide +kernel
end Z
namespace Z
open PySem PySem.Spec PyProof.Rows L2
variable {c : Cz} {Γ : Gm} {M : Mem} {k : D → Mem → Prop} {ta : TE}
/-- a value handed on: a changing list of Mem changes no more, any other value as it is -/
theorem z_fz2 (h : ZE c ta Γ M fun d M1 => (∃ a i ds, d = .at a ∧ M1[i]? = some (a, .lst ds) ∧ k (.lst ds) (M1.eraseIdx i)) ∨ k d M1) : ZE c (fz ta) Γ M k := fun R F σ H Q hs L X q =>
  h R F σ H Q hs L X fun v F1 H1 M1 d e1 L1 r1 h1 => by
    rcases h1 with ⟨a, i, ds, rfl, hi, hk⟩ | hk
    · have hl : i < M1.length := (List.getElem?_eq_some_iff.mp hi).1
      have hi' : (M1 ++ R)[i]? = some (a, .lst ds) := by rw [List.getElem?_append_left hl]; exact hi
      obtain ⟨vs, hv, rv⟩ := L1.at_ hi'
      obtain ⟨L2, e2⟩ := L1.frz hi' hv
      rw [List.eraseIdx_append_of_lt_length hl] at L2
      rw [r1.of_at]
      exact q (.ref a) _ H1 _ (.lst ds) (e1.trans e2) L2 (.mk_lst upd_same (rv.mono e2)) hk
    · exact q v F1 H1 M1 d e1 L1 r1 hk
end Z
set_option Elab.async false
set_option linter.all false
set_option maxRecDepth 100000
set_option maxHeartbeats 4000000
/-! ZDeep: == and != of data at any depth. -/
namespace Z
open PySem PySem.Spec PyProof.Rows L2
mutual
inductive Pd (M : Mem) : D → PyData → Prop
  | non : Pd M .non .none
  | bl (b : Bool) : Pd M (.bl b) (.bool b)
  | int (i : Int) : Pd M (.int i) (.int i)
  | str (x : Str) : Pd M (.str x) (.str x)
  | tup {ds : List D} {es : List PyData} : PdAll M ds es → Pd M (.tup ds) (.tuple es)
  | lst {ds : List D} {es : List PyData} : PdAll M ds es → Pd M (.lst ds) (.list es)
  | scr {ds : List D} {es : List PyData} : PdAll M ds es → Pd M (.scr ds) (.list es)
  | «at» {a : Addr} {i : Nat} {ds : List D} {es : List PyData} : M[i]? = some (a, .lst ds) → PdAll M ds es → Pd M (.at a) (.list es)
inductive PdAll (M : Mem) : List D → List PyData → Prop
  | nil : PdAll M [] []
  | cons {d : D} {ds : List D} {e : PyData} {es : List PyData} : Pd M d e → PdAll M ds es → PdAll M (d :: ds) (e :: es)
end
section
variable {K : Fg} {F H : Hp} {M R : Mem}
mutual
theorem Pd.dp (L : Lay K F (M ++ R) H) : ∀ (e : PyData) (d : D) (v : V), Pd M d e → Rp K F v d → L2.Dp K H v e
  | .none, _, _, h, r => by cases h; rw [r.of_non]; exact .non
  | .bool b, _, _, h, r => by cases h; rw [r.of_bl]; exact .bl _
  | .int i, _, _, h, r => by cases h; rw [r.of_int]; exact .int _
  | .str x, _, _, h, r => by cases h; rw [r.of_str]; exact .str _
  | .tuple es, _, _, h, r => by
    cases h with
    | tup h =>
      obtain ⟨a, vs, rfl, q, rr⟩ := r.of_tup
      exact .tup (ex_t L.fr q) (Pd.dpAll L es _ _ h rr)
  | .list es, _, _, h, r => by
    cases h with
    | lst h =>
      obtain ⟨a, vs, rfl, q, rr⟩ := r.of_lst
      exact .lst (.inl (.inl (L.fr _ _ q))) (Pd.dpAll L es _ _ h rr)
    | scr h =>
      obtain ⟨a, vs, rfl, q, rr⟩ := r.of_scr
      exact .lst (ex_l L.fr q) (Pd.dpAll L es _ _ h rr)
    | «at» hi h =>
      rw [r.of_at]
      have hl := (List.getElem?_eq_some_iff.mp hi).1
      obtain ⟨vs, q, rr⟩ := L.at_ (by rw [List.getElem?_append_left hl]; exact hi)
      exact .lst (.inl (.inl q)) (Pd.dpAll L es _ _ h rr)
  | .dict es, _, _, h, r => by cases h
theorem Pd.dpAll (L : Lay K F (M ++ R) H) : ∀ (es : List PyData) (ds : List D) (vs : List V), PdAll M ds es → Rps K F vs ds → L2.DpAll K H vs es
  | [], _, _, h, r => by cases h; rw [r.unnil]; exact .nil
  | e :: es, _, _, h, r => by
    cases h with
    | cons h1 h2 =>
      obtain ⟨v, vs', rfl, r1, r2⟩ := r.uncons
      exact .cons (Pd.dp L e _ _ h1 r1) (Pd.dpAll L es _ _ h2 r2)
end
end
variable {c : Cz} {M : Mem} {k : D → Mem → Prop} {x y : D} {d e : PyData}
theorem zr_eqD (h1 : Pd M x d) (h2 : Pd M y e) (s1 : SeqAt.shaped d = true) (s2 : SeqAt.shaped e = true) (h : k (.bl (PyData.eqv d e)) M) : ZR c (rEqZ c.K) x y M k := fun R F H v w Q L r1 r2 q =>
  .inr ⟨d, e, Pd.dp L d x v h1 r1, Pd.dp L e y w h2 r2, s1, s2, q _ F H M _ (Ex.refl F) L (.bl _) h⟩
theorem zr_neD (h1 : Pd M x d) (h2 : Pd M y e) (s1 : SeqAt.shaped d = true) (s2 : SeqAt.shaped e = true) (h : k (.bl (!PyData.eqv d e)) M) : ZR c (rNeZ c.K) x y M k := fun R F H v w Q L r1 r2 q =>
  .inr ⟨d, e, Pd.dp L d x v h1 r1, Pd.dp L e y w h2 r2, s1, s2, q _ F H M _ (Ex.refl F) L (.bl _) h⟩
/-- rows of ints as data -/
theorem PdAll.ints {M : Mem} : ∀ (r : List Int), PdAll M (r.map D.int) (r.map PyData.int)
  | [] => .nil
  | x :: r => .cons (.int x) (PdAll.ints r)
theorem PdAll.map {α : Type} {M : Mem} {f : α → D} {g : α → PyData} (h : ∀ x, Pd M (f x) (g x)) : ∀ (r : List α), PdAll M (r.map f) (r.map g)
  | [] => .nil
  | x :: r => .cons (h x) (PdAll.map h r)
theorem canLay_map {α : Type} {g : α → PyData} (h : ∀ x, (g x).canLay0 = true) : ∀ r : List α, PyData.canLayAll0 (r.map g) = true
  | [] => rfl
  | x :: r => by rw [List.map_cons]; show (_ && _) = true; rw [h x, canLay_map h r]; rfl
theorem depth_map {α : Type} {g : α → PyData} {n : Nat} (h : ∀ x, (g x).depth ≤ n) : ∀ r : List α, PyData.depthAll (r.map g) ≤ n
  | [] => Nat.zero_le _
  | x :: r => by rw [List.map_cons]; exact Nat.max_le.mpr ⟨h x, depth_map h r⟩
end Z
set_option Elab.async false
set_option linter.all false
set_option maxRecDepth 100000
set_option maxHeartbeats 4000000
/-! ZSort: sorted() of ints, and of (int, thing) pairs whose ints are all unlike. -/
namespace Z
open PySem PySem.Spec PyProof.Rows L2 SrtO
section
variable {prog : Program} {w : World} {A : Around} {E : Value → Shared → Prop} {s : Shared}
/-- a tuple of an int and a reference -/
def IsIR (h : Heap) (v : Value) (x : Int) (r : Addr) : Prop := ∃ a o t n, v = .ref a ∧ h.get? a = some o ∧ o.cls = .type "tuple" ∧ o.data = .seq #[.int x t, .ref r] n
theorem IsIR.keeps {h h' : Heap} {v : Value} {x : Int} {r : Addr} (p : IsIR h v x r) (k : ∀ b o, h.get? b = some o → o.cls = .type "tuple" → h'.get? b = some o) : IsIR h' v x r := by
  obtain ⟨a, o, t, n, e, ho, hc, hd⟩ := p
  exact ⟨a, o, t, n, e, k _ _ ho hc, hc, hd⟩
theorem ir_cmp {vs : List Value} {k : Value → Int} {rf : Value → Addr} (hp : ∀ v ∈ vs, IsIR s.heap v (k v) (rf v)) (hk : ∀ v ∈ vs, ∀ u ∈ vs, k v = k u → rf v = rf u) : Cmp prog w A s (tuples' true) (fun p => p.1 ∈ vs) (lt2 fun v u => decide (k v < k u)) := by
  intro p q hm hm'
  have h1 := hp _ hm
  have h2 := hp _ hm'
  have h3 := hk _ hm _ hm'
  show wpAny (model prog w) A (keyLt' (tuples' true) p.1 q.1) (fun r s' => s' = s ∧ r = decide (k p.1 < k q.1)) (fun _ _ => False) s
  generalize k p.1 = x at h1 h3 ⊢
  generalize rf p.1 = y at h1 h3 ⊢
  generalize k q.1 = x' at h2 h3 ⊢
  generalize rf q.1 = y' at h2 h3 ⊢
  obtain ⟨a, o, t, n, e, ho, hc, hd⟩ := h1
  obtain ⟨a', o', t', n', e', ho', hc', hd'⟩ := h2
  rw [e, e']
  refine PySem.W.kat_lt ho hd ho' hd' ?_
  show PySem.W.KatLex prog w A true (decide (2 < 2)) _ [(.int x t, .int x' t'), (.ref y, .ref y')] 0 s
  refine PySem.W.kat_cons (SeqAt.EqAt.int_int x t x' t' prog w _ _ ?_)
  refine PySem.W.kat_go (fun e1 => ?_) (fun e1 => ?_)
  · have ex : x = x' := by simpa using e1
    have ey : y = y' := h3 ex
    subst ex ey
    refine PySem.W.kat_yes (PySem.W.kat_cons (SeqAt.EqAt.same _ prog w _ _ ?_))
    refine PySem.W.kat_go (fun e2 => ?_) (fun e2 => absurd e2 (by decide))
    exact PySem.W.kat_yes (PySem.W.kat_nil ⟨rfl, (decide_eq_false (Int.lt_irrefl _)).symm⟩)
  · exact PySem.W.kat_no (oneLt_int ⟨rfl, rfl⟩)
theorem ir_firsts {h : Heap} : ∀ {vs : List Value}, (∀ v ∈ vs, ∃ x r, IsIR h v x r) → ∃ fs : List Value, PySem.W.KatTups h vs fs ∧ fs.length = vs.length ∧ ∀ f ∈ fs, ∃ x t, f = Value.int x t
  | [], _ => ⟨[], PySem.W.KatTups.nil, rfl, fun _ hm => by simp at hm⟩
  | v :: vs, hp => by
    obtain ⟨fs, h1, h2, h3⟩ := ir_firsts (vs := vs) fun v' hm => hp v' (List.mem_cons_of_mem _ hm)
    obtain ⟨x, r, a, o, t, n, e, ho, hc, hd⟩ := hp v (List.mem_cons_self ..)
    subst e
    refine ⟨.int x t :: fs, PySem.W.KatTups.cons ho hc hd rfl h1, by rw [List.length_cons, List.length_cons, h2], fun f hm => ?_⟩
    rcases List.mem_cons.mp hm with rfl | hm
    · exact ⟨x, t, rfl⟩
    · exact h3 f hm
theorem ir_sortable {a : Addr} {vs : List Value} {k : Value → Int} {rf : Value → Addr} (h0 : 0 < vs.length) (hp : ∀ v ∈ vs, IsIR s.heap v (k v) (rf v)) (hk : ∀ v ∈ vs, ∀ u ∈ vs, k v = k u → rf v = rf u) (ha : ∀ o, s.heap.get? a = some o → o.cls ≠ .type "tuple") : SortableO prog w A s a vs fun v u => decide (k v < k u) := by
  intro h' keep
  have hp' : ∀ v ∈ vs, IsIR h' v (k v) (rf v) := fun v hm => (hp v hm).keeps fun b o e c => keep b o (fun z => by subst z; exact ha o e c) e
  obtain ⟨fs, h1, h2, h3⟩ := ir_firsts fun v hm => ⟨_, _, hp' v hm⟩
  refine ⟨tuples' true, fun Q E hq => ?_, ir_cmp hp' hk⟩
  refine PySem.W.kat_kind (T := .type "int") h1 (by omega) (fun f hm => ?_) (by rfl) ?_
  · obtain ⟨x, t, rfl⟩ := h3 f hm
    exact PySem.W.Looks.now
  · have e : (Value.type "int" != Value.type "tuple") = true := by first | decide +kernel | rfl | decide
    rw [e]
    exact hq
theorem swo_key (k : Value → Int) : Swo fun v u => decide (k v < k u) := by
  refine ⟨fun x y h => ?_, fun x y z h1 h2 => ?_⟩
  · have := of_decide_eq_true h
    exact decide_eq_false (by omega)
  · have a := of_decide_eq_false h1
    have b := of_decide_eq_false h2
    exact decide_eq_false (by omega)
theorem sorted_ir {l : Addr} {vs : List Value} {k : Value → Int} {rf : Value → Addr} {Q : Value → Shared → Prop} (hl : s.heap.IsList l vs.toArray) (hz : vs.length ≤ sizeLine) (hp : ∀ v ∈ vs, IsIR s.heap v (k v) (rf v)) (hk : ∀ v ∈ vs, ∀ u ∈ vs, k v = k u → rf v = rf u)
    (h : ∀ (h' : Heap) (d : Addr) (out : List Value), Srtd (fun v u => decide (k v < k u)) out → out.Perm vs → (∀ b o, s.heap.get? b = some o → h'.get? b = some o) → s.heap.objs.size ≤ d → (∃ n, h'.get? d = some (seqObj "list" out.toArray n)) → Q (.ref d) { s with heap := h' }) :
    wpAny (model prog w) A (call (.builtin "sorted") [.ref l]) Q E s := by
  refine sorted_ord (swo_key k) hl hz (fun h2 h₁ a ha kk => ?_) fun out hs hb => ?_
  · refine ir_sortable (s := { s with heap := h₁ }) (by omega) (fun v hm => (hp v hm).keeps fun b o e _ => (kk b o e).2) hk fun o e => ?_
    have e' : some o = some (seqObj "list" vs.toArray 0) := e.symm.trans ha
    cases e'
    intro c
    exact absurd (Value.type.inj c) (by decide)
  · exact h _ _ out hs hb.perm (fun b o e => sortedAll_old e) (Nat.le_succ _) (sortedAll_at s.heap vs out.toArray)
end

/-! ### over the layer, on data -/
abbrev IR := Addr × Int × Addr
def irV (p : IR) : V := .ref p.1
def rSortF (K : Fg) : List V → Hp → VK → Prop := fun vs H Q => ∃ (a : Addr) (ps : List IR), vs = [.ref a] ∧ SqL K H a (ps.map irV) ∧ (∀ p ∈ ps, SqT K H p.1 [.int p.2.1, .ref p.2.2]) ∧ (ps.map (·.2.1)).Nodup ∧
  ∀ (ps' : List IR) (p : Addr), ps'.Perm ps → ps'.Pairwise (fun x y => x.2.1 ≤ y.2.1) → H p = none → Q (.ref p) (upd H p (.lst (ps'.map irV)))
theorem nodup_key {ps : List IR} (h : (ps.map (·.2.1)).Nodup) : ∀ p ∈ ps, ∀ q ∈ ps, p.2.1 = q.2.1 → p = q := by
  induction ps with
  | nil => intro p hp; cases hp
  | cons x ps ih =>
    rw [List.map_cons, List.nodup_cons] at h
    intro p hp q hq e
    rcases List.mem_cons.mp hp with e1 | hp1
    · rcases List.mem_cons.mp hq with e2 | hq1
      · rw [e1, e2]
      · rw [e1] at e
        exact absurd (List.mem_map.mpr ⟨q, hq1, e.symm⟩) h.1
    · rcases List.mem_cons.mp hq with e2 | hq1
      · rw [e2] at e
        exact absurd (List.mem_map.mpr ⟨p, hp1, e⟩) h.1
      · exact ih h.2 p hp1 q hq1 e
theorem cr_sortF {X : Cx} : CallR X (.builtin "sorted") (rSortF X.K) := by
  intro pins s σ H vs us Q I r h
  obtain ⟨a, ps, rfl, hs, hx, hnd, q⟩ := h
  obtain ⟨its, rv, hl, hz⟩ := I.list hs
  obtain ⟨u, rfl, ru⟩ := vals1 r
  obtain rfl : u = Value.ref a := ru
  have hits : its = ps.map fun p => Value.ref p.1 := by
    have key : ∀ (ps : List IR) (its : List Value), Vals (ps.map irV) its → its = ps.map fun p => Value.ref p.1 := by
      intro ps
      induction ps with
      | nil => intro its h; cases h; rfl
      | cons p ps ih =>
        intro its h
        cases h with
        | cons h1 h2 => rw [List.map_cons, ← ih _ h2]; exact congrArg (· :: _) h1
    exact key ps its rv
  let g : Value → IR := fun v => match v with
    | .ref t => (ps.find? fun p => decide (p.1 = t)).getD (0, 0, 0)
    | _ => (0, 0, 0)
  have huniq : ∀ p ∈ ps, ∀ p' ∈ ps, p'.1 = p.1 → p' = p := fun p hp p' hp' e => by
    have h1 := hx p hp
    have h2 := hx p' hp'
    rw [e] at h2
    have := I.tuple_inj h1 h2
    simp at this
    exact nodup_key hnd p' hp' p hp this.1.symm
  have hg : ∀ p ∈ ps, g (.ref p.1) = p := fun p hp => by
    show (ps.find? fun q => decide (q.1 = p.1)).getD (0, 0, 0) = p
    cases e : ps.find? fun q => decide (q.1 = p.1) with
    | none => have := List.find?_eq_none.mp e p hp; simp at this
    | some p' =>
      have h1 := List.mem_of_find?_eq_some e
      have h2 := List.find?_some e
      exact huniq p hp p' h1 (of_decide_eq_true h2)
  refine sorted_ir (k := fun v => (g v).2.1) (rf := fun v => (g v).2.2) hl.isList (by rw [← rv.length]; exact hz) (fun v hv => ?_) (fun v hv u hu e => ?_) fun h' d out hsrt hperm kp hd hn => ?_
  · rw [hits] at hv
    obtain ⟨p, hp, rfl⟩ := List.mem_map.mp hv
    rw [hg p hp]
    obtain ⟨its2, r2, ⟨o, ho, hc, n, hd⟩, _⟩ := I.tuple (hx p hp)
    obtain ⟨u1, u2, rfl, ri, rj⟩ := vals2 r2
    obtain ⟨t1, rfl⟩ := ri
    obtain rfl : u2 = Value.ref p.2.2 := rj
    exact ⟨p.1, o, t1, n, rfl, ho, hc, hd⟩
  · rw [hits] at hv hu
    obtain ⟨p, hp, rfl⟩ := List.mem_map.mp hv
    obtain ⟨p', hp', rfl⟩ := List.mem_map.mp hu
    rw [hg p hp, hg p' hp'] at e ⊢
    rw [nodup_key hnd p hp p' hp' e]
  · obtain ⟨n, hn⟩ := hn
    have hback : ∀ v ∈ out, Value.ref (g v).1 = v ∧ g v ∈ ps := fun v hv => by
      have hv := hperm.mem_iff.mp hv
      rw [hits] at hv
      obtain ⟨p, hp, rfl⟩ := List.mem_map.mp hv
      rw [hg p hp]; exact ⟨rfl, hp⟩
    have hp2 : (out.map g).Perm ps := by
      have := hperm.map g
      rw [hits, List.map_map] at this
      have e : ps.map (g ∘ fun p => Value.ref p.1) = ps := by
        have e2 : ps.map (g ∘ fun p => Value.ref p.1) = ps.map id := List.map_congr_left fun p hp => hg p hp
        rw [e2, List.map_id]
      rwa [e] at this
    have hvals : Vals ((out.map g).map irV) out := by
      rw [List.map_map]
      have key : ∀ l : List Value, (∀ v ∈ l, Value.ref (g v).1 = v) → Vals (l.map (irV ∘ g)) l := by
        intro l
        induction l with
        | nil => intro _; exact .nil
        | cons v l ih => intro h; exact .cons (h v List.mem_cons_self).symm (ih fun u hu => h u (List.mem_cons_of_mem _ hu))
      exact key out fun v hv => (hback v hv).1
    have hsl : ((out.map g).map irV).length ≤ sizeLine := by
      rw [List.length_map, hp2.length_eq]
      rw [List.length_map] at hz; exact hz
    refine ⟨.ref d, upd H d (.lst ((out.map g).map irV)), I.laid (t' := s.toks) kp hd ⟨hsl, out, n, hvals, hn⟩, rfl, q _ d hp2 ?_ (I.hok.fresh hd)⟩
    refine List.pairwise_map.mpr (hsrt.imp fun h => ?_)
    have := of_decide_eq_false h
    omega
def rSortZ (K : Fg) : List V → Hp → VK → Prop := fun vs H Q => rSortedI K vs H Q ∨ rSortF K vs H Q
theorem cz_sorted {X : Cx} : CallR X (.builtin "sorted") (rSortZ X.K) := cr_sortedI.or cr_sortF
variable {c : Cz} {M : Mem} {k : D → Mem → Prop} {d : D}
theorem zc_sortI {ns : List Int} (s : Sl M d (ns.map D.int)) (h : ∀ ns' : List Int, ns'.Perm ns → ns'.Pairwise (· ≤ ·) → k (.lst (ns'.map D.int)) M) : ZC c (rSortZ c.K) [d] M k := fun R F H vs Q L r q => by
  obtain ⟨v, rfl, r1⟩ := r.one1
  obtain ⟨a, vs, rfl, p, rr⟩ := s.read L r1
  rw [rr.ints] at p
  refine .inl ⟨a, ns, rfl, p, fun ns' l h1 h2 hl => q _ _ _ M _ (ex_upd (L.free hl)) (L.new hl) (.mk_lst upd_same (Rps.of_map fun x _ => .int x)) (h ns' h1 h2)⟩
abbrev irD (p : Int × List D) : D := .tup [.int p.1, .tup p.2]
theorem zc_sortF {ps : List (Int × List D)} (s : Sl M d (ps.map irD)) (hnd : (ps.map (·.1)).Nodup) (h : ∀ ps' : List (Int × List D), ps'.Perm ps → ps'.Pairwise (fun x y => x.1 ≤ y.1) → k (.lst (ps'.map irD)) M) : ZC c (rSortZ c.K) [d] M k := fun R F H vs Q L r q => by
  obtain ⟨v, rfl, r1⟩ := r.one1
  obtain ⟨a, vs, rfl, p, rr⟩ := s.read L r1
  -- each item's two refs
  have hits : ∀ (ps : List (Int × List D)) (vs : List V), Rps c.K F vs (ps.map irD) → ∃ qs : List (IR × List D), vs = qs.map (fun q => irV q.1) ∧ ps = qs.map (fun q => (q.1.2.1, q.2)) ∧ ∀ q ∈ qs, SqT c.K H q.1.1 [.int q.1.2.1, .ref q.1.2.2] ∧ Rp c.K F (irV q.1) (irD (q.1.2.1, q.2)) := by
    intro ps
    induction ps with
    | nil => intro vs r; rw [r.unnil]; exact ⟨[], rfl, rfl, fun q h => by cases h⟩
    | cons p ps ih =>
      intro vs r
      obtain ⟨v, vs', rfl, r1, r2⟩ := r.uncons
      obtain ⟨qs, e1, e2, e3⟩ := ih vs' r2
      obtain ⟨t, ws, rfl, ht, rw_⟩ := r1.of_tup
      obtain ⟨v1, v2, rfl, s1, s2⟩ := rw_.two
      have hv1 := s1.of_int
      obtain ⟨t2, ws2, rfl, _, _⟩ := s2.of_tup
      subst hv1
      refine ⟨((t, p.1, t2), p.2) :: qs, by rw [e1]; rfl, by rw [List.map_cons, ← e2], fun q hq => ?_⟩
      rcases List.mem_cons.mp hq with rfl | hq
      · exact ⟨ex_t L.fr ht, r1⟩
      · exact e3 q hq
  obtain ⟨qs, rfl, rfl, h3⟩ := hits ps vs rr
  refine .inr ⟨a, qs.map (·.1), rfl, by rw [List.map_map]; exact p, fun x hx => ?_, ?_, fun ps' l h1 h2 hl => ?_⟩
  · obtain ⟨z, hz, rfl⟩ := List.mem_map.mp hx
    exact (h3 z hz).1
  · rw [List.map_map] at hnd ⊢; exact hnd
  · -- the order carried to the data
    have hnd2 : (qs.map fun q => q.1.2.1).Nodup := by rw [List.map_map] at hnd; exact hnd
    let g : IR → List D := fun p => ((qs.find? fun q => decide (q.1.2.1 = p.2.1)).map (·.2)).getD []
    have hg : ∀ z ∈ qs, g z.1 = z.2 := fun z hz => by
      have key : ∀ (qs : List (IR × List D)), (qs.map fun q => q.1.2.1).Nodup → ∀ z ∈ qs, (qs.find? fun q => decide (q.1.2.1 = z.1.2.1)) = some z := by
        intro qs
        induction qs with
        | nil => intro _ z hz; cases hz
        | cons y qs ih =>
          intro hn z hz
          rw [List.map_cons, List.nodup_cons] at hn
          rw [List.find?_cons]
          rcases List.mem_cons.mp hz with rfl | hz
          · simp
          · have hne : ¬ y.1.2.1 = z.1.2.1 := fun e => hn.1 (List.mem_map.mpr ⟨z, hz, e.symm⟩)
            rw [decide_eq_false hne]; exact ih hn.2 z hz
      show ((qs.find? fun q => decide (q.1.2.1 = z.1.2.1)).map (·.2)).getD [] = z.2
      rw [key qs hnd2 z hz]; rfl
    have hm : ∀ x ∈ ps', ∃ z ∈ qs, z.1 = x := fun x hx => by
      obtain ⟨z, hz, e⟩ := List.mem_map.mp (h1.mem_iff.mp hx)
      exact ⟨z, hz, e⟩
    have hperm : (ps'.map fun x => (x.2.1, g x)).Perm (qs.map fun q => (q.1.2.1, q.2)) := by
      have := h1.map fun x : IR => (x.2.1, g x)
      rw [List.map_map] at this
      have e : qs.map ((fun x : IR => (x.2.1, g x)) ∘ (·.1)) = qs.map fun q => (q.1.2.1, q.2) := List.map_congr_left fun z hz => by
        show (z.1.2.1, g z.1) = _
        rw [hg z hz]
      rwa [e] at this
    have hk := h (ps'.map fun x => (x.2.1, g x)) hperm (List.pairwise_map.mpr (h2.imp fun h => h))
    refine q _ _ _ M _ (ex_upd (L.free hl)) (L.new hl) (.mk_lst upd_same ((?_ : Rps c.K F (ps'.map irV) _).mono (ex_upd (L.free hl)))) hk
    rw [List.map_map]
    refine Rps.of_map fun x hx => ?_
    obtain ⟨z, hz, rfl⟩ := hm x hx
    show Rp c.K F (irV z.1) (irD (z.1.2.1, g z.1))
    rw [hg z hz]; exact (h3 z hz).2
section
variable {P : Program} {w : World} {K : Fg} {mg : Str → Option Value} {base : Heap} {x qual : Str} {params : Arguments} {body : List Stmt} {scope : Scope} {dvs : List V} {kws : List (Str × V)} {f : Addr} {fd : FuncData} {ps : List Str} {k : Nat}
/-- a def with defaults is called with all its arguments -/
theorem fnz_dfl {S : ZSp} (F : FunD K x qual params body scope dvs kws f fd) (G : FnOk P w K mg base CX0 k f fd ps (toSp K S)) (hm : mg x = some (.ref f)) (hb : ∃ ds, Vals [] ds ∧ Binds K fd ps ds) : FnZ P w K mg base x k S := by
  obtain ⟨ds, hd, hb⟩ := hb
  exact ⟨f, fd, ps, toSp K S, ds, [], G, hm, F.kp, hb, hd, fun vs H Q ⟨R, F, M, ds, kk, L, r, s, q⟩ => by rw [List.append_nil]; exact ⟨R, F, M, ds, kk, L, r, s, q⟩⟩
end
end Z
set_option Elab.async false
set_option linter.all false
set_option maxRecDepth 100000
set_option maxHeartbeats 4000000
/-! Printed by gen.py: the readings of the defs. -/
namespace Qk02
open PySem PySem.Spec PyProof.Rows L2 StX Z
def topS (i : Nat) : Stmt := PySem.Challenge.pw_leaprungs_k02_combination_of_rows.main.body.getD i (.Pass ⟨0, 0, 0, 0⟩)
structure Txt (K : Fg) (mg : Str → Option Value) : Prop where
  n_abs : mg "abs" = none
  n_bool : mg "bool" = none
  n_enumerate : mg "enumerate" = none
  n_int : mg "int" = none
  n_isinstance : mg "isinstance" = none
  n_len : mg "len" = none
  n_list : mg "list" = none
  n_max : mg "max" = none
  n_min : mg "min" = none
  n_range : mg "range" = none
  n_sorted : mg "sorted" = none
  n_sum : mg "sum" = none
  n_tuple : mg "tuple" = none
  n_zip : mg "zip" = none
  b_gcd : mg "gcd" = some (.builtin "math.gcd")
section
variable {P : Program} {w : World} {K : Fg} {mg : Str → Option Value} {base : Heap}
-- ZeroDivisor_init: not printed: call Attribute(value=Call(func=Name(id='super', ctx=Load()), args
/-! fraction -/
abbrev s_fraction : Stmt := topS 5
abbrev N_fraction : List Str := ["top", "bottom", "divisor"]
theorem sc_fraction : FnScope N_fraction ["top", "bottom"] (defScope s_fraction) := ⟨rfl, rfl, rfl, by decide +kernel, rfl, by decide +kernel, by decide +kernel⟩
def t_fraction (K : Fg) : TS :=
    (tSeq (tIfS (tTest (tOp (rEqZ K) (tVar 1) (tC (.int 0)))) tNever tNext)
    (tSeq (tAsg (tCB rGcdZ (tCons (tVar 0) (tCons (tVar 1) tNil))) (gName 2))
    (tSeq (tIfS (tTest (tOp rLtZ (tVar 1) (tC (.int 0)))) (tAsg (tUn uNegZ (tVar 2)) (gName 2)) tNext)
    (tRet (tTup (tCons (tOp rDivZ (tVar 0) (tVar 2)) (tCons (tOp rDivZ (tVar 1) (tVar 2)) tNil)))))))
theorem red_fraction (T : Txt K mg) (f : Addr) (cdv : Value) (A : Around) (outer : List Env) (s : Shared) (H : Hp) (E : XK) (hr : Room 0 (A.deeper (envOfC "fraction" (defScope s_fraction) s.heap.objs.size f cdv))) :
    PSs (cxOf CX0 P w K mg base N_fraction "fraction" (defScope s_fraction) f cdv A outer s H E).nox (defBody s_fraction) (t_fraction K) :=
    (pss_cons (ps_if (q_eq (Room.units hr) (pv 1) pe_int) (pss_one ps_never) pss_nil)
    (pss_cons (ps_set (i := 2) sc_fraction.nd rfl (by first | exact Or.inl rfl | exact Or.inr rfl) (pe_callBfun cz_gcd (by rfl) T.b_gcd (pa_cons (pv 0) (pa_cons (pv 1) pa_nil))))
    (pss_cons (ps_if (q_lt (pv 1) pe_int) (pss_one (ps_set (i := 2) sc_fraction.nd rfl (by first | exact Or.inl rfl | exact Or.inr rfl) (p_neg (pv 2)))) pss_nil)
    (pss_one (ps_ret (pe_tup (pa_cons (p_fdiv (pv 0) (pv 2)) (pa_cons (p_fdiv (pv 1) (pv 2)) pa_nil))))))))
/-! primitive -/
abbrev s_primitive : Stmt := topS 7
abbrev N_primitive : List Str := ["row", "divisor", "entry"]
theorem sc_primitive : FnScope N_primitive ["row"] (defScope s_primitive) := ⟨rfl, rfl, rfl, by decide +kernel, rfl, by decide +kernel, by decide +kernel⟩
def t_primitive (K : Fg) : TS :=
    (tSeq (tAsg (tC (.int 0)) (gName 1))
    (tSeq (tFor (iSeqZ K (tVar 0)) (gName 2) (tSeq (tAsg (tCB rGcdZ (tCons (tVar 1) (tCons (tVar 2) tNil))) (gName 1))
    (tIfS (tTest (tOp (rEqZ K) (tVar 1) (tC (.int 1)))) (tRet (tCB (rTupZ K) (tCons (tVar 0) tNil))) tNext)))
    (tSeq (tIfS (tTest (tOp (rEqZ K) (tVar 1) (tC (.int 0)))) (tRet (tCB (rTupZ K) (tCons (tVar 0) tNil))) tNext)
    (tRet (tCB (rTupZ K) (tCons (tLc (iSeqZ K (tVar 0)) (gName 2) tYes (tOp rDivZ (tVar 2) (tVar 1)) [2]) tNil))))))
theorem red_primitive (T : Txt K mg) (f : Addr) (cdv : Value) (A : Around) (outer : List Env) (s : Shared) (H : Hp) (E : XK) (hr : Room 0 (A.deeper (envOfC "primitive" (defScope s_primitive) s.heap.objs.size f cdv))) :
    PSs (cxOf CX0 P w K mg base N_primitive "primitive" (defScope s_primitive) f cdv A outer s H E).nox (defBody s_primitive) (t_primitive K) :=
    (pss_cons (ps_set (i := 1) sc_primitive.nd rfl (by first | exact Or.inl rfl | exact Or.inr rfl) pe_int)
    (pss_cons (ps_for PassesOwn.never rfl (pi_seqZ (pv 0)) (pg_name (i := 2) sc_primitive.nd rfl (by first | exact Or.inl rfl | exact Or.inr rfl)) (pss_cons (ps_set (i := 1) sc_primitive.nd rfl (by first | exact Or.inl rfl | exact Or.inr rfl) (pe_callBfun cz_gcd (by rfl) T.b_gcd (pa_cons (pv 1) (pa_cons (pv 2) pa_nil))))
    (pss_one (ps_if (q_eq (Room.units hr) (pv 1) pe_int) (pss_one (ps_ret (pe_callTy cz_tuple (by rfl) T.n_tuple Z.boot_tuple (pa_cons (pv 0) pa_nil)))) pss_nil))))
    (pss_cons (ps_if (q_eq (Room.units hr) (pv 1) pe_int) (pss_one (ps_ret (pe_callTy cz_tuple (by rfl) T.n_tuple Z.boot_tuple (pa_cons (pv 0) pa_nil)))) pss_nil)
    (pss_one (ps_ret (pe_callTy cz_tuple (by rfl) T.n_tuple Z.boot_tuple (pa_cons (pe_lc (own := [("entry", 2)]) rfl sc_primitive.nd (pi_seqZ (pv 0)) (blkOk_by (by kernel_rfl)) (fun _ _ _ _ _ => (pg_name (i := 2) sc_primitive.nd rfl (by first | exact Or.inl rfl | exact Or.inr rfl))) (fun _ _ _ _ _ => pts_nil) (fun _ _ _ _ _ => (p_fdiv (pv 2) (pv 1)))) pa_nil)))))))
/-! combination -/
abbrev s_combination : Stmt := topS 8
abbrev N_combination : List Str := ["rows", "target", "size", "solved", "at", "equation"]
theorem sc_combination : FnScope N_combination ["rows", "target"] (defScope s_combination) := ⟨rfl, rfl, rfl, by decide +kernel, rfl, by decide +kernel, by decide +kernel⟩
def t_combination (K : Fg) (S_eliminated : ZSp) (S_is_regular : ZSp) (S_fraction : ZSp) : TS :=
    (tSeq (tAsg (tCB (rLenZ K) (tCons (tVar 0) tNil)) (gName 2))
    (tSeq (tAsg (tCB (zcall K S_eliminated) (tCons (tZipL K (tStar K (tVar 0) (tCons (tVar 1) tNil))) tNil)) (gName 3))
    (tSeq (tIfS (tNot (tTruZ K (tCB (zcall K S_is_regular) (tCons (tVar 3) (tCons (tVar 2) tNil))))) (tRet (tC .non)) tNext)
    (tRet (tCB (rTupZ K) (tCons (tLc (iSeqZ K (tCB (rSortZ K) (tCons (tVar 3) tNil))) (gTup K 2 (gCons (gName 4) (gCons (gName 5) gNil))) tYes (tCB (zcall K S_fraction) (tCons (tOp (rIxZ K) (tVar 5) (tVar 2)) (tCons (tOp (rIxZ K) (tVar 5) (tVar 4)) tNil))) [4, 5]) tNil))))))
theorem red_combination (T : Txt K mg) (S_eliminated : ZSp) (S_is_regular : ZSp) (S_fraction : ZSp)
    (G_eliminated : FnZ P w K mg base "_eliminated" 3 S_eliminated)
    (G_is_regular : FnZ P w K mg base "_is_regular" 1 S_is_regular)
    (G_fraction : FnZ P w K mg base "fraction" 1 S_fraction) (f : Addr) (cdv : Value) (A : Around) (outer : List Env) (s : Shared) (H : Hp) (E : XK) (hr : Room 3 (A.deeper (envOfC "combination" (defScope s_combination) s.heap.objs.size f cdv))) :
    PSs (cxOf CX0 P w K mg base N_combination "combination" (defScope s_combination) f cdv A outer s H E).nox (defBody s_combination) (t_combination K S_eliminated S_is_regular S_fraction) :=
    (pss_cons (ps_set (i := 2) sc_combination.nd rfl (by first | exact Or.inl rfl | exact Or.inr rfl) (pe_callB cz_len (by rfl) T.n_len Z.boot_len (pa_cons (pv 0) pa_nil)))
    (pss_cons (ps_set (i := 3) sc_combination.nd rfl (by first | exact Or.inl rfl | exact Or.inr rfl) (p_call G_eliminated hr (pa_cons (p_zipS1 rfl (by rfl) T.n_list Z.boot_list (by rfl) T.n_zip Z.boot_zip (pa_star (pv 0) (pa_cons (pv 1) pa_nil))) pa_nil)))
    (pss_cons (ps_if (pt_not (q_truth (p_call G_is_regular hr (pa_cons (pv 3) (pa_cons (pv 2) pa_nil))))) (pss_one (ps_ret pe_non)) pss_nil)
    (pss_one (ps_ret (pe_callTy cz_tuple (by rfl) T.n_tuple Z.boot_tuple (pa_cons (pe_lc (own := [("at", 4), ("equation", 5)]) rfl sc_combination.nd (pi_seqZ (pe_callB cz_sorted (by rfl) T.n_sorted Z.boot_sorted (pa_cons (pv 3) pa_nil))) (blkOk_by (by kernel_rfl)) (fun _ _ _ _ _ => (pg_tup rfl (pgs_cons (pg_name (i := 4) sc_combination.nd rfl (by first | exact Or.inl rfl | exact Or.inr rfl)) (pgs_cons (pg_name (i := 5) sc_combination.nd rfl (by first | exact Or.inl rfl | exact Or.inr rfl)) pgs_nil)))) (fun _ _ _ _ _ => pts_nil) (fun _ _ _ _ _ => (p_call G_fraction hr (pa_cons (p_ix (pv 5) (pv 2)) (pa_cons (p_ix (pv 5) (pv 4)) pa_nil))))) pa_nil)))))))
/-! _is_regular -/
abbrev s_is_regular : Stmt := topS 9
abbrev N_is_regular : List Str := ["solved", "size", "at", "_"]
theorem sc_is_regular : FnScope N_is_regular ["solved", "size"] (defScope s_is_regular) := ⟨rfl, rfl, rfl, by decide +kernel, rfl, by decide +kernel, by decide +kernel⟩
def t_is_regular (K : Fg) : TS :=
    (tRet (tOp (rEqZ K) (tCB (rSortZ K) (tCons (tLc (iSeqZ K (tVar 0)) (gTup K 2 (gCons (gName 2) (gCons (gName 3) gNil))) tYes (tVar 2) [2, 3]) tNil)) (tLstRg (tRg1 (tVar 1)))))
theorem red_is_regular (T : Txt K mg) (f : Addr) (cdv : Value) (A : Around) (outer : List Env) (s : Shared) (H : Hp) (E : XK) (hr : Room 0 (A.deeper (envOfC "_is_regular" (defScope s_is_regular) s.heap.objs.size f cdv))) :
    PSs (cxOf CX0 P w K mg base N_is_regular "_is_regular" (defScope s_is_regular) f cdv A outer s H E).nox (defBody s_is_regular) (t_is_regular K) :=
    (pss_one (ps_ret (p_eq (Room.units hr) (pe_callB cz_sorted (by rfl) T.n_sorted Z.boot_sorted (pa_cons (pe_lc (own := [("at", 2), ("_", 3)]) rfl sc_is_regular.nd (pi_seqZ (pv 0)) (blkOk_by (by kernel_rfl)) (fun _ _ _ _ _ => (pg_tup rfl (pgs_cons (pg_name (i := 2) sc_is_regular.nd rfl (by first | exact Or.inl rfl | exact Or.inr rfl)) (pgs_cons (pg_name (i := 3) sc_is_regular.nd rfl (by first | exact Or.inl rfl | exact Or.inr rfl)) pgs_nil)))) (fun _ _ _ _ _ => pts_nil) (fun _ _ _ _ _ => (pv 2))) pa_nil)) (pe_listRg rfl (by rfl) T.n_list (prg_1 (by rfl) T.n_range (pv 1))))))
/-! _eliminated -/
abbrev s_eliminated : Stmt := topS 10
abbrev N_eliminated : List Str := ["equations", "solved", "equation", "rest", "at", "other", "pivot"]
theorem sc_eliminated : FnScope N_eliminated ["equations"] (defScope s_eliminated) := ⟨rfl, rfl, rfl, by decide +kernel, rfl, by decide +kernel, by decide +kernel⟩
def t_eliminated (K : Fg) (S_cleared : ZSp) (S_first_nonzero : ZSp) : TS :=
    (tSeq (tAsg (mk (tLst tNil)) (gName 1))
    (tSeq (tFor (iSeqZ K (tVar 0)) (gName 2) (tSeq (tAsg (tVar 2) (gName 3))
    (tSeq (tFor (iSeqZ K (tVar 1)) (gTup K 2 (gCons (gName 4) (gCons (gName 5) gNil))) (tAsg (tCB (zcall K S_cleared) (tCons (tVar 3) (tCons (tVar 4) (tCons (tVar 5) tNil)))) (gName 3)))
    (tSeq (tAsg (tCB (zcall K S_first_nonzero) (tCons (tVar 3) tNil)) (gName 6))
    (tIfS (tTest (tOp rNotNZ (tVar 6) (tC .non))) (tSeq (tAsg (mk (tLc (iSeqZ K (tVar 1)) (gTup K 2 (gCons (gName 4) (gCons (gName 5) gNil))) tYes (tTup (tCons (tVar 4) (tCons (tCB (zcall K S_cleared) (tCons (tVar 5) (tCons (tVar 6) (tCons (tVar 3) tNil)))) tNil))) [4, 5])) (gName 1))
    (tDrop (tBM K "list" rAppend (tVar 1) (tCons (tTup (tCons (tVar 6) (tCons (tVar 3) tNil))) tNil)))) tNext)))))
    (tRet (fz (tVar 1)))))
theorem red_eliminated (T : Txt K mg) (S_cleared : ZSp) (S_first_nonzero : ZSp)
    (G_cleared : FnZ P w K mg base "_cleared" 2 S_cleared)
    (G_first_nonzero : FnZ P w K mg base "_first_nonzero" 1 S_first_nonzero) (f : Addr) (cdv : Value) (A : Around) (outer : List Env) (s : Shared) (H : Hp) (E : XK) (hr : Room 2 (A.deeper (envOfC "_eliminated" (defScope s_eliminated) s.heap.objs.size f cdv))) :
    PSs (cxOf CX0 P w K mg base N_eliminated "_eliminated" (defScope s_eliminated) f cdv A outer s H E).nox (defBody s_eliminated) (t_eliminated K S_cleared S_first_nonzero) :=
    (pss_cons (ps_set (i := 1) sc_eliminated.nd rfl (by first | exact Or.inl rfl | exact Or.inr rfl) (p_mk (pe_lst pa_nil)))
    (pss_cons (ps_for PassesOwn.never rfl (pi_seqZ (pv 0)) (pg_name (i := 2) sc_eliminated.nd rfl (by first | exact Or.inl rfl | exact Or.inr rfl)) (pss_cons (ps_set (i := 3) sc_eliminated.nd rfl (by first | exact Or.inl rfl | exact Or.inr rfl) (pv 2))
    (pss_cons (ps_for PassesOwn.never rfl (pi_seqZ (pv 1)) (pg_tup rfl (pgs_cons (pg_name (i := 4) sc_eliminated.nd rfl (by first | exact Or.inl rfl | exact Or.inr rfl)) (pgs_cons (pg_name (i := 5) sc_eliminated.nd rfl (by first | exact Or.inl rfl | exact Or.inr rfl)) pgs_nil))) (pss_one (ps_set (i := 3) sc_eliminated.nd rfl (by first | exact Or.inl rfl | exact Or.inr rfl) (p_call G_cleared hr (pa_cons (pv 3) (pa_cons (pv 4) (pa_cons (pv 5) pa_nil)))))))
    (pss_cons (ps_set (i := 6) sc_eliminated.nd rfl (by first | exact Or.inl rfl | exact Or.inr rfl) (p_call G_first_nonzero hr (pa_cons (pv 3) pa_nil)))
    (pss_one (ps_if (q_notN (pv 6) pe_non) (pss_cons (ps_setLc (i := 1) (own := [("at", 4), ("other", 5)]) rfl sc_eliminated.nd rfl (by rfl) (sw_true rfl rfl rfl (by decide +kernel)) (pi_seqZ (pv 1)) (blkOk_by (by kernel_rfl)) (fun _ _ _ _ _ => (pg_tup rfl (pgs_cons (pg_name (i := 4) sc_eliminated.nd rfl (by first | exact Or.inl rfl | exact Or.inr rfl)) (pgs_cons (pg_name (i := 5) sc_eliminated.nd rfl (by first | exact Or.inl rfl | exact Or.inr rfl)) pgs_nil)))) (fun _ _ _ _ _ => pts_nil) (fun _ _ _ _ _ => (pe_tup (pa_cons (pv 4) (pa_cons (p_call G_cleared hr (pa_cons (pv 5) (pa_cons (pv 6) (pa_cons (pv 3) pa_nil)))) pa_nil)))))
    (pss_one (ps_expr (pe_bm PySem.F.plainAttrs_list PySem.F.slot_list_append PySem.F.type_list_append mt_append (pv 1) (pa_cons (pe_tup (pa_cons (pv 6) (pa_cons (pv 3) pa_nil))) pa_nil))))) pss_nil))))))
    (pss_one (ps_ret (p_fz (pv 1))))))
/-! _cleared -/
abbrev s_cleared : Stmt := topS 11
abbrev N_cleared : List Str := ["equation", "pivot", "other", "factor", "scale", "entry", "other_entry"]
theorem sc_cleared : FnScope N_cleared ["equation", "pivot", "other"] (defScope s_cleared) := ⟨rfl, rfl, rfl, by decide +kernel, rfl, by decide +kernel, by decide +kernel⟩
def t_cleared (K : Fg) (S_primitive : ZSp) : TS :=
    (tSeq (tAsg (tOp (rIxZ K) (tVar 0) (tVar 1)) (gName 3))
    (tSeq (tIfS (tTest (tOp (rEqZ K) (tVar 3) (tC (.int 0)))) (tRet (tVar 0)) tNext)
    (tSeq (tAsg (tOp (rIxZ K) (tVar 2) (tVar 1)) (gName 4))
    (tRet (tCB (zcall K S_primitive) (tCons (tLc (iZipZ K (tCons (tVar 0) (tCons (tVar 2) tNil))) (gTup K 2 (gCons (gName 5) (gCons (gName 6) gNil))) tYes (tOp rSubZ (tOp rMulZ (tVar 4) (tVar 5)) (tOp rMulZ (tVar 3) (tVar 6))) [5, 6]) tNil))))))
theorem red_cleared (T : Txt K mg) (S_primitive : ZSp)
    (G_primitive : FnZ P w K mg base "primitive" 1 S_primitive) (f : Addr) (cdv : Value) (A : Around) (outer : List Env) (s : Shared) (H : Hp) (E : XK) (hr : Room 1 (A.deeper (envOfC "_cleared" (defScope s_cleared) s.heap.objs.size f cdv))) :
    PSs (cxOf CX0 P w K mg base N_cleared "_cleared" (defScope s_cleared) f cdv A outer s H E).nox (defBody s_cleared) (t_cleared K S_primitive) :=
    (pss_cons (ps_set (i := 3) sc_cleared.nd rfl (by first | exact Or.inl rfl | exact Or.inr rfl) (p_ix (pv 0) (pv 1)))
    (pss_cons (ps_if (q_eq (Room.units hr) (pv 3) pe_int) (pss_one (ps_ret (pv 0))) pss_nil)
    (pss_cons (ps_set (i := 4) sc_cleared.nd rfl (by first | exact Or.inl rfl | exact Or.inr rfl) (p_ix (pv 2) (pv 1)))
    (pss_one (ps_ret (p_call G_primitive hr (pa_cons (pe_lc (own := [("entry", 5), ("other_entry", 6)]) rfl sc_cleared.nd (pi_zipZ (by rfl) T.n_zip (pa_cons (pv 0) (pa_cons (pv 2) pa_nil))) (blkOk_by (by kernel_rfl)) (fun _ _ _ _ _ => (pg_tup rfl (pgs_cons (pg_name (i := 5) sc_cleared.nd rfl (by first | exact Or.inl rfl | exact Or.inr rfl)) (pgs_cons (pg_name (i := 6) sc_cleared.nd rfl (by first | exact Or.inl rfl | exact Or.inr rfl)) pgs_nil)))) (fun _ _ _ _ _ => pts_nil) (fun _ _ _ _ _ => (p_sub (p_mul (pv 4) (pv 5)) (p_mul (pv 3) (pv 6))))) pa_nil)))))))
/-! _first_nonzero -/
abbrev s_first_nonzero : Stmt := topS 12
abbrev N_first_nonzero : List Str := ["row", "at", "entry"]
theorem sc_first_nonzero : FnScope N_first_nonzero ["row"] (defScope s_first_nonzero) := ⟨rfl, rfl, rfl, by decide +kernel, rfl, by decide +kernel, by decide +kernel⟩
def t_first_nonzero (K : Fg) : TS :=
    (tSeq (tFor (iEnumZ K (tCons (tVar 0) tNil)) (gTup K 2 (gCons (gName 1) (gCons (gName 2) gNil))) (tIfS (tTest (tOp (rNeZ K) (tVar 2) (tC (.int 0)))) (tRet (tVar 1)) tNext))
    (tRet (tC .non)))
theorem red_first_nonzero (T : Txt K mg) (f : Addr) (cdv : Value) (A : Around) (outer : List Env) (s : Shared) (H : Hp) (E : XK) (hr : Room 0 (A.deeper (envOfC "_first_nonzero" (defScope s_first_nonzero) s.heap.objs.size f cdv))) :
    PSs (cxOf CX0 P w K mg base N_first_nonzero "_first_nonzero" (defScope s_first_nonzero) f cdv A outer s H E).nox (defBody s_first_nonzero) (t_first_nonzero K) :=
    (pss_cons (ps_for PassesOwn.never rfl (pi_enumZ (by rfl) T.n_enumerate (pa_cons (pv 0) pa_nil)) (pg_tup rfl (pgs_cons (pg_name (i := 1) sc_first_nonzero.nd rfl (by first | exact Or.inl rfl | exact Or.inr rfl)) (pgs_cons (pg_name (i := 2) sc_first_nonzero.nd rfl (by first | exact Or.inl rfl | exact Or.inr rfl)) pgs_nil))) (pss_one (ps_if (q_ne (Room.units hr) (pv 2) pe_int) (pss_one (ps_ret (pv 1))) pss_nil)))
    (pss_one (ps_ret pe_non)))
/-! _law_is_integer -/
abbrev s_law_is_integer : Stmt := topS 14
abbrev N_law_is_integer : List Str := ["_law_actual"]
theorem sc_law_is_integer : FnScope N_law_is_integer ["_law_actual"] (defScope s_law_is_integer) := ⟨rfl, rfl, rfl, by decide +kernel, rfl, by decide +kernel, by decide +kernel⟩
def t_law_is_integer (K : Fg) : TS :=
    (tRet (tAndV (tCB (rIsiZ K) (tCons (tVar 0) (tCons (tC (.ty "int")) tNil))) (tNotV (tCB (rIsiZ K) (tCons (tVar 0) (tCons (tC (.ty "bool")) tNil))))))
theorem red_law_is_integer (T : Txt K mg) (f : Addr) (cdv : Value) (A : Around) (outer : List Env) (s : Shared) (H : Hp) (E : XK) (hr : Room 0 (A.deeper (envOfC "_law_is_integer" (defScope s_law_is_integer) s.heap.objs.size f cdv))) :
    PSs (cxOf CX0 P w K mg base N_law_is_integer "_law_is_integer" (defScope s_law_is_integer) f cdv A outer s H E).nox (defBody s_law_is_integer) (t_law_is_integer K) :=
    (pss_one (ps_ret (pe_and (pe_callB cz_isi (by rfl) T.n_isinstance Z.boot_isinstance (pa_cons (pv 0) (pa_cons (pe_bltn (by rfl) T.n_int Z.boot_int rfl) pa_nil))) (pe_one (pe_not (pe_callB cz_isi (by rfl) T.n_isinstance Z.boot_isinstance (pa_cons (pv 0) (pa_cons (pe_bltn (by rfl) T.n_bool Z.boot_bool rfl) pa_nil))))))))
/-! _law_box -/
abbrev s_law_box : Stmt := topS 15
abbrev N_law_box : List Str := ["_law_script", "_law_k", "_law_cell"]
theorem sc_law_box : FnScope N_law_box ["_law_script", "_law_k"] (defScope s_law_box) := ⟨rfl, rfl, rfl, by decide +kernel, rfl, by decide +kernel, by decide +kernel⟩
def t_law_box (K : Fg) : TS :=
    (tSeq (tAsg (tOp (rAddZ K) (tOp (rAddZ K) (tOp rMulZ (tC (.int 1009)) (tVar 1)) (tC (.int 77))) (tOp rModZ (tCB (rIntZ) (tCons (tCB (rSumZ K) (tCons (tSl (rSlZ K) (tVar 0) tNoPart (tPart (tC (.int 1)))) tNil)) tNil)) (tC (.int 1000003)))) (gName 2))
    (tSeq (tIfS (tTest (tOp rLtZ (tVar 1) (tCB (rLenZ K) (tCons (tVar 0) tNil)))) (tAsg (tOp (rIxZ K) (tVar 0) (tVar 1)) (gName 2)) tNext)
    (tSeq (tIfS (tTest (tOp rLtZ (tVar 2) (tC (.int 0)))) (tAsg (tOp rSubZ (tC (.int 5)) (tOp rMulZ (tC (.int 2)) (tVar 2))) (gName 2)) tNext)
    (tSeq (tIfS (tTest (tOp rGeZ (tVar 2) (tOp rPowZ (tC (.int 10)) (tC (.int 18))))) (tRet (mk (tLst (tCons (tVar 2) (tCons (tOp rModZ (tCB (rIntZ) (tCons (tVar 2) tNil)) (tC (.int 2147483647))) (tCons (tC (.int 0)) tNil)))))) tNext)
    (tRet (mk (tLst (tCons (tC (.int 0)) (tCons (tOp rModZ (tCB (rIntZ) (tCons (tVar 2) tNil)) (tC (.int 2147483647))) (tCons (tC (.int 0)) tNil))))))))))
theorem red_law_box (T : Txt K mg) (f : Addr) (cdv : Value) (A : Around) (outer : List Env) (s : Shared) (H : Hp) (E : XK) (hr : Room 0 (A.deeper (envOfC "_law_box" (defScope s_law_box) s.heap.objs.size f cdv))) :
    PSs (cxOf CX0 P w K mg base N_law_box "_law_box" (defScope s_law_box) f cdv A outer s H E).nox (defBody s_law_box) (t_law_box K) :=
    (pss_cons (ps_set (i := 2) sc_law_box.nd rfl (by first | exact Or.inl rfl | exact Or.inr rfl) (p_add (p_add (p_mul pe_int (pv 1)) pe_int) (p_mod (pe_callTy cz_int (by rfl) T.n_int Z.boot_int (pa_cons (pe_callB (cz_sum rfl) (by rfl) T.n_sum Z.boot_sum (pa_cons (p_sl (pv 0) po_none (po_some pe_int)) pa_nil)) pa_nil)) pe_int)))
    (pss_cons (ps_if (q_lt (pv 1) (pe_callB cz_len (by rfl) T.n_len Z.boot_len (pa_cons (pv 0) pa_nil))) (pss_one (ps_set (i := 2) sc_law_box.nd rfl (by first | exact Or.inl rfl | exact Or.inr rfl) (p_ix (pv 0) (pv 1)))) pss_nil)
    (pss_cons (ps_if (q_lt (pv 2) pe_int) (pss_one (ps_set (i := 2) sc_law_box.nd rfl (by first | exact Or.inl rfl | exact Or.inr rfl) (p_sub pe_int (p_mul pe_int (pv 2))))) pss_nil)
    (pss_cons (ps_if (q_ge (pv 2) (p_pow pe_int pe_int)) (pss_one (ps_ret (p_mk (pe_lst (pa_cons (pv 2) (pa_cons (p_mod (pe_callTy cz_int (by rfl) T.n_int Z.boot_int (pa_cons (pv 2) pa_nil)) pe_int) (pa_cons pe_int pa_nil))))))) pss_nil)
    (pss_one (ps_ret (p_mk (pe_lst (pa_cons pe_int (pa_cons (p_mod (pe_callTy cz_int (by rfl) T.n_int Z.boot_int (pa_cons (pv 2) pa_nil)) pe_int) (pa_cons pe_int pa_nil)))))))))))
/-! _law_take -/
abbrev s_law_take : Stmt := topS 16
abbrev N_law_take : List Str := ["_law_box_here", "_law_many", "_law_digit", "_law_once", "_law_twice"]
theorem sc_law_take : FnScope N_law_take ["_law_box_here", "_law_many"] (defScope s_law_take) := ⟨rfl, rfl, rfl, by decide +kernel, rfl, by decide +kernel, by decide +kernel⟩
def t_law_take (K : Fg) : TS :=
    (tSeq (tIfS (tTest (tOp rGtZ (tOp (rIxZ K) (tVar 0) (tC (.int 0))) (tC (.int 0)))) (tSeq (tAsg (tOp rModZ (tCB (rIntZ) (tCons (tOp (rIxZ K) (tVar 0) (tC (.int 0))) tNil)) (tVar 1)) (gName 2))
    (tSeq (tAsg (tOp rDivZ (tOp (rIxZ K) (tVar 0) (tC (.int 0))) (tVar 1)) (gSub (tVar 0) (tC (.int 0)) rSetL))
    (tRet (tVar 2)))) tNext)
    (tSeq (tAsg (tOp (rAddZ K) (tOp (rIxZ K) (tVar 0) (tC (.int 2))) (tC (.int 1))) (gSub (tVar 0) (tC (.int 2)) rSetL))
    (tSeq (tAsg (tOp rModZ (tCB (rIntZ) (tCons (tOp (rAddZ K) (tOp (rAddZ K) (tOp rMulZ (tOp (rIxZ K) (tVar 0) (tC (.int 1))) (tC (.int 48271))) (tOp rMulZ (tOp (rIxZ K) (tVar 0) (tC (.int 2))) (tC (.int 69621)))) (tC (.int 12345))) tNil)) (tC (.int 2147483647))) (gName 3))
    (tSeq (tAsg (tOp rModZ (tCB (rIntZ) (tCons (tOp (rAddZ K) (tOp (rAddZ K) (tOp rMulZ (tVar 3) (tVar 3)) (tOp rMulZ (tOp (rIxZ K) (tVar 0) (tC (.int 1))) (tC (.int 40692)))) (tOp rMulZ (tOp (rIxZ K) (tVar 0) (tC (.int 2))) (tC (.int 16807)))) tNil)) (tC (.int 2147483629))) (gName 4))
    (tRet (tOp rModZ (tCB (rIntZ) (tCons (tVar 4) tNil)) (tVar 1)))))))
theorem red_law_take (T : Txt K mg) (f : Addr) (cdv : Value) (A : Around) (outer : List Env) (s : Shared) (H : Hp) (E : XK) (hr : Room 0 (A.deeper (envOfC "_law_take" (defScope s_law_take) s.heap.objs.size f cdv))) :
    PSs (cxOf CX0 P w K mg base N_law_take "_law_take" (defScope s_law_take) f cdv A outer s H E).nox (defBody s_law_take) (t_law_take K) :=
    (pss_cons (ps_if (q_gt (p_ix (pv 0) pe_int) pe_int) (pss_cons (ps_set (i := 2) sc_law_take.nd rfl (by first | exact Or.inl rfl | exact Or.inr rfl) (p_mod (pe_callTy cz_int (by rfl) T.n_int Z.boot_int (pa_cons (p_ix (pv 0) pe_int) pa_nil)) (pv 1)))
    (pss_cons (ps_asg (p_fdiv (p_ix (pv 0) pe_int) (pv 1)) (pg_sub (pv 0) pe_int set_list))
    (pss_one (ps_ret (pv 2))))) pss_nil)
    (pss_cons (ps_asg (p_add (p_ix (pv 0) pe_int) pe_int) (pg_sub (pv 0) pe_int set_list))
    (pss_cons (ps_set (i := 3) sc_law_take.nd rfl (by first | exact Or.inl rfl | exact Or.inr rfl) (p_mod (pe_callTy cz_int (by rfl) T.n_int Z.boot_int (pa_cons (p_add (p_add (p_mul (p_ix (pv 0) pe_int) pe_int) (p_mul (p_ix (pv 0) pe_int) pe_int)) pe_int) pa_nil)) pe_int))
    (pss_cons (ps_set (i := 4) sc_law_take.nd rfl (by first | exact Or.inl rfl | exact Or.inr rfl) (p_mod (pe_callTy cz_int (by rfl) T.n_int Z.boot_int (pa_cons (p_add (p_add (p_mul (pv 3) (pv 3)) (p_mul (p_ix (pv 0) pe_int) pe_int)) (p_mul (p_ix (pv 0) pe_int) pe_int)) pa_nil)) pe_int))
    (pss_one (ps_ret (p_mod (pe_callTy cz_int (by rfl) T.n_int Z.boot_int (pa_cons (pv 4) pa_nil)) (pv 1))))))))
/-! _law_divisor -/
abbrev s_law_divisor : Stmt := topS 17
abbrev N_law_divisor : List Str := ["_law_high", "_law_low", "_law_rest"]
theorem sc_law_divisor : FnScope N_law_divisor ["_law_high", "_law_low"] (defScope s_law_divisor) := ⟨rfl, rfl, rfl, by decide +kernel, rfl, by decide +kernel, by decide +kernel⟩
def t_law_divisor (K : Fg) : TS :=
    (tSeq (tWhile (tTest (tOp (rNeZ K) (tVar 1) (tC (.int 0)))) (tSeq (tAsg (tOp rModZ (tCB (rIntZ) (tCons (tVar 0) tNil)) (tVar 1)) (gName 2))
    (tSeq (tAsg (tVar 1) (gName 0))
    (tAsg (tVar 2) (gName 1)))))
    (tRet (tVar 0)))
theorem red_law_divisor (T : Txt K mg) (f : Addr) (cdv : Value) (A : Around) (outer : List Env) (s : Shared) (H : Hp) (E : XK) (hr : Room 0 (A.deeper (envOfC "_law_divisor" (defScope s_law_divisor) s.heap.objs.size f cdv))) :
    PSs (cxOf CX0 P w K mg base N_law_divisor "_law_divisor" (defScope s_law_divisor) f cdv A outer s H E).nox (defBody s_law_divisor) (t_law_divisor K) :=
    (pss_cons (ps_while PassesOwn.never (q_ne (Room.units hr) (pv 1) pe_int) (pss_cons (ps_set (i := 2) sc_law_divisor.nd rfl (by first | exact Or.inl rfl | exact Or.inr rfl) (p_mod (pe_callTy cz_int (by rfl) T.n_int Z.boot_int (pa_cons (pv 0) pa_nil)) (pv 1)))
    (pss_cons (ps_set (i := 0) sc_law_divisor.nd rfl (by first | exact Or.inl rfl | exact Or.inr rfl) (pv 1))
    (pss_one (ps_set (i := 1) sc_law_divisor.nd rfl (by first | exact Or.inl rfl | exact Or.inr rfl) (pv 2))))))
    (pss_one (ps_ret (pv 0))))
/-! _law_lowered -/
abbrev s_law_lowered : Stmt := topS 18
abbrev N_law_lowered : List Str := ["_law_row_here", "_law_common", "_law_entry_here"]
theorem sc_law_lowered : FnScope N_law_lowered ["_law_row_here"] (defScope s_law_lowered) := ⟨rfl, rfl, rfl, by decide +kernel, rfl, by decide +kernel, by decide +kernel⟩
def t_law_lowered (K : Fg) (S_law_divisor : ZSp) : TS :=
    (tSeq (tAsg (tC (.int 0)) (gName 1))
    (tSeq (tFor (iSeqZ K (tVar 0)) (gName 2) (tAsg (tCB (zcall K S_law_divisor) (tCons (tVar 1) (tCons (tCB (rAbsZ) (tCons (tVar 2) tNil)) tNil))) (gName 1)))
    (tSeq (tIfS (tTest (tOp (rEqZ K) (tVar 1) (tC (.int 0)))) (tRet (tVar 0)) tNext)
    (tRet (tLc (iSeqZ K (tVar 0)) (gName 2) tYes (tOp rDivZ (tVar 2) (tVar 1)) [2])))))
theorem red_law_lowered (T : Txt K mg) (S_law_divisor : ZSp)
    (G_law_divisor : FnZ P w K mg base "_law_divisor" 1 S_law_divisor) (f : Addr) (cdv : Value) (A : Around) (outer : List Env) (s : Shared) (H : Hp) (E : XK) (hr : Room 1 (A.deeper (envOfC "_law_lowered" (defScope s_law_lowered) s.heap.objs.size f cdv))) :
    PSs (cxOf CX0 P w K mg base N_law_lowered "_law_lowered" (defScope s_law_lowered) f cdv A outer s H E).nox (defBody s_law_lowered) (t_law_lowered K S_law_divisor) :=
    (pss_cons (ps_set (i := 1) sc_law_lowered.nd rfl (by first | exact Or.inl rfl | exact Or.inr rfl) pe_int)
    (pss_cons (ps_for PassesOwn.never rfl (pi_seqZ (pv 0)) (pg_name (i := 2) sc_law_lowered.nd rfl (by first | exact Or.inl rfl | exact Or.inr rfl)) (pss_one (ps_set (i := 1) sc_law_lowered.nd rfl (by first | exact Or.inl rfl | exact Or.inr rfl) (p_call G_law_divisor hr (pa_cons (pv 1) (pa_cons (pe_callB cz_abs (by rfl) T.n_abs Z.boot_abs (pa_cons (pv 2) pa_nil)) pa_nil))))))
    (pss_cons (ps_if (q_eq (Room.units hr) (pv 1) pe_int) (pss_one (ps_ret (pv 0))) pss_nil)
    (pss_one (ps_ret (pe_lc (own := [("_law_entry_here", 2)]) rfl sc_law_lowered.nd (pi_seqZ (pv 0)) (blkOk_by (by kernel_rfl)) (fun _ _ _ _ _ => (pg_name (i := 2) sc_law_lowered.nd rfl (by first | exact Or.inl rfl | exact Or.inr rfl))) (fun _ _ _ _ _ => pts_nil) (fun _ _ _ _ _ => (p_fdiv (pv 2) (pv 1)))))))))
/-! _law_cleared -/
abbrev s_law_cleared : Stmt := topS 19
abbrev N_law_cleared : List Str := ["_law_row_here", "_law_lead", "_law_column", "_law_k"]
theorem sc_law_cleared : FnScope N_law_cleared ["_law_row_here", "_law_lead", "_law_column"] (defScope s_law_cleared) := ⟨rfl, rfl, rfl, by decide +kernel, rfl, by decide +kernel, by decide +kernel⟩
def t_law_cleared (K : Fg) (S_law_lowered : ZSp) : TS :=
    (tSeq (tIfS (tTest (tOp (rEqZ K) (tOp (rIxZ K) (tVar 0) (tVar 2)) (tC (.int 0)))) (tRet (tVar 0)) tNext)
    (tRet (tCB (zcall K S_law_lowered) (tCons (tLc (iRng1 (tCons (tCB (rLenZ K) (tCons (tVar 0) tNil)) tNil)) (gName 3) tYes (tOp rSubZ (tOp rMulZ (tOp (rIxZ K) (tVar 0) (tVar 3)) (tOp (rIxZ K) (tVar 1) (tVar 2))) (tOp rMulZ (tOp (rIxZ K) (tVar 1) (tVar 3)) (tOp (rIxZ K) (tVar 0) (tVar 2)))) [3]) tNil))))
theorem red_law_cleared (T : Txt K mg) (S_law_lowered : ZSp)
    (G_law_lowered : FnZ P w K mg base "_law_lowered" 2 S_law_lowered) (f : Addr) (cdv : Value) (A : Around) (outer : List Env) (s : Shared) (H : Hp) (E : XK) (hr : Room 2 (A.deeper (envOfC "_law_cleared" (defScope s_law_cleared) s.heap.objs.size f cdv))) :
    PSs (cxOf CX0 P w K mg base N_law_cleared "_law_cleared" (defScope s_law_cleared) f cdv A outer s H E).nox (defBody s_law_cleared) (t_law_cleared K S_law_lowered) :=
    (pss_cons (ps_if (q_eq (Room.units hr) (p_ix (pv 0) (pv 2)) pe_int) (pss_one (ps_ret (pv 0))) pss_nil)
    (pss_one (ps_ret (p_call G_law_lowered hr (pa_cons (pe_lc (own := [("_law_k", 3)]) rfl sc_law_cleared.nd (pi_range1 (by rfl) T.n_range (pa_cons (pe_callB cz_len (by rfl) T.n_len Z.boot_len (pa_cons (pv 0) pa_nil)) pa_nil)) (blkOk_by (by kernel_rfl)) (fun _ _ _ _ _ => (pg_name (i := 3) sc_law_cleared.nd rfl (by first | exact Or.inl rfl | exact Or.inr rfl))) (fun _ _ _ _ _ => pts_nil) (fun _ _ _ _ _ => (p_sub (p_mul (p_ix (pv 0) (pv 3)) (p_ix (pv 1) (pv 2))) (p_mul (p_ix (pv 1) (pv 3)) (p_ix (pv 0) (pv 2)))))) pa_nil)))))
/-! _law_rank -/
abbrev s_law_rank : Stmt := topS 20
abbrev N_law_rank : List Str := ["_law_rows", "_law_width", "_law_left", "_law_row_here", "_law_found", "_law_column", "_law_spot", "_law_k", "_law_lead", "_law_rest"]
theorem sc_law_rank : FnScope N_law_rank ["_law_rows", "_law_width"] (defScope s_law_rank) := ⟨rfl, rfl, rfl, by decide +kernel, rfl, by decide +kernel, by decide +kernel⟩
def t_law_rank (K : Fg) (S_law_cleared : ZSp) : TS :=
    (tSeq (tAsg (tLc (iSeqZ K (tVar 0)) (gName 3) tYes (tCB (rListZ K) (tCons (tVar 3) tNil)) [3]) (gName 2))
    (tSeq (tAsg (tC (.int 0)) (gName 4))
    (tSeq (tFor (iRng1 (tCons (tVar 1) tNil)) (gName 5) (tSeq (tAsg (tUn uNegZ (tC (.int 1))) (gName 6))
    (tSeq (tFor (iRng1 (tCons (tCB (rLenZ K) (tCons (tVar 2) tNil)) tNil)) (gName 7) (tIfS (tAnd (tTest (tOp rLtZ (tVar 6) (tC (.int 0)))) (tTest (tOp (rNeZ K) (tOp (rIxZ K) (tOp (rIxZ K) (tVar 2) (tVar 7)) (tVar 5)) (tC (.int 0))))) (tAsg (tVar 7) (gName 6)) tNext))
    (tIfS (tTest (tOp rGeZ (tVar 6) (tC (.int 0)))) (tSeq (tAsg (tOp (rIxZ K) (tVar 2) (tVar 6)) (gName 8))
    (tSeq (tAsg (tLc (iRng1 (tCons (tCB (rLenZ K) (tCons (tVar 2) tNil)) tNil)) (gName 7) (tTest (tOp (rNeZ K) (tVar 7) (tVar 6))) (tOp (rIxZ K) (tVar 2) (tVar 7)) [7]) (gName 9))
    (tSeq (tAsg (tLc (iSeqZ K (tVar 9)) (gName 3) tYes (tCB (zcall K S_law_cleared) (tCons (tVar 3) (tCons (tVar 8) (tCons (tVar 5) tNil)))) [3]) (gName 2))
    (tAsg (tOp (rAddZ K) (tVar 4) (tC (.int 1))) (gName 4))))) tNext))))
    (tRet (tVar 4)))))
theorem red_law_rank (T : Txt K mg) (S_law_cleared : ZSp)
    (G_law_cleared : FnZ P w K mg base "_law_cleared" 3 S_law_cleared) (f : Addr) (cdv : Value) (A : Around) (outer : List Env) (s : Shared) (H : Hp) (E : XK) (hr : Room 3 (A.deeper (envOfC "_law_rank" (defScope s_law_rank) s.heap.objs.size f cdv))) :
    PSs (cxOf CX0 P w K mg base N_law_rank "_law_rank" (defScope s_law_rank) f cdv A outer s H E).nox (defBody s_law_rank) (t_law_rank K S_law_cleared) :=
    (pss_cons (ps_set (i := 2) sc_law_rank.nd rfl (by first | exact Or.inl rfl | exact Or.inr rfl) (pe_lc (own := [("_law_row_here", 3)]) rfl sc_law_rank.nd (pi_seqZ (pv 0)) (blkOk_by (by kernel_rfl)) (fun _ _ _ _ _ => (pg_name (i := 3) sc_law_rank.nd rfl (by first | exact Or.inl rfl | exact Or.inr rfl))) (fun _ _ _ _ _ => pts_nil) (fun _ _ _ _ _ => (pe_callTy cz_list (by rfl) T.n_list Z.boot_list (pa_cons (pv 3) pa_nil)))))
    (pss_cons (ps_set (i := 4) sc_law_rank.nd rfl (by first | exact Or.inl rfl | exact Or.inr rfl) pe_int)
    (pss_cons (ps_for PassesOwn.never rfl (pi_range1 (by rfl) T.n_range (pa_cons (pv 1) pa_nil)) (pg_name (i := 5) sc_law_rank.nd rfl (by first | exact Or.inl rfl | exact Or.inr rfl)) (pss_cons (ps_set (i := 6) sc_law_rank.nd rfl (by first | exact Or.inl rfl | exact Or.inr rfl) (p_neg pe_int))
    (pss_cons (ps_for PassesOwn.never rfl (pi_range1 (by rfl) T.n_range (pa_cons (pe_callB cz_len (by rfl) T.n_len Z.boot_len (pa_cons (pv 2) pa_nil)) pa_nil)) (pg_name (i := 7) sc_law_rank.nd rfl (by first | exact Or.inl rfl | exact Or.inr rfl)) (pss_one (ps_if (PW.pt (pw_and (q_lt (pv 6) pe_int) (pw_and1 (q_ne (Room.units hr) (p_ix (p_ix (pv 2) (pv 7)) (pv 5)) pe_int)))) (pss_one (ps_set (i := 6) sc_law_rank.nd rfl (by first | exact Or.inl rfl | exact Or.inr rfl) (pv 7))) pss_nil)))
    (pss_one (ps_if (q_ge (pv 6) pe_int) (pss_cons (ps_set (i := 8) sc_law_rank.nd rfl (by first | exact Or.inl rfl | exact Or.inr rfl) (p_ix (pv 2) (pv 6)))
    (pss_cons (ps_setLc (i := 9) (own := [("_law_k", 7)]) rfl sc_law_rank.nd rfl (by rfl) (sw_true rfl rfl rfl (by decide +kernel)) (pi_range1 (by rfl) T.n_range (pa_cons (pe_callB cz_len (by rfl) T.n_len Z.boot_len (pa_cons (pv 2) pa_nil)) pa_nil)) (blkOk_by (by kernel_rfl)) (fun _ _ _ _ _ => (pg_name (i := 7) sc_law_rank.nd rfl (by first | exact Or.inl rfl | exact Or.inr rfl))) (fun _ _ _ _ _ => (pts_one (q_ne (Room.units hr) (pv 7) (pv 6)))) (fun _ _ _ _ _ => (p_ix (pv 2) (pv 7))))
    (pss_cons (ps_set (i := 2) sc_law_rank.nd rfl (by first | exact Or.inl rfl | exact Or.inr rfl) (pe_lc (own := [("_law_row_here", 3)]) rfl sc_law_rank.nd (pi_seqZ (pv 9)) (blkOk_by (by kernel_rfl)) (fun _ _ _ _ _ => (pg_name (i := 3) sc_law_rank.nd rfl (by first | exact Or.inl rfl | exact Or.inr rfl))) (fun _ _ _ _ _ => pts_nil) (fun _ _ _ _ _ => (p_call G_law_cleared hr (pa_cons (pv 3) (pa_cons (pv 8) (pa_cons (pv 5) pa_nil)))))))
    (pss_one (ps_set (i := 4) sc_law_rank.nd rfl (by first | exact Or.inl rfl | exact Or.inr rfl) (p_add (pv 4) pe_int)))))) pss_nil)))))
    (pss_one (ps_ret (pv 4))))))
/-! _law_entry -/
abbrev s_law_entry : Stmt := topS 21
abbrev N_law_entry : List Str := ["_law_box_here", "_law_size"]
theorem sc_law_entry : FnScope N_law_entry ["_law_box_here", "_law_size"] (defScope s_law_entry) := ⟨rfl, rfl, rfl, by decide +kernel, rfl, by decide +kernel, by decide +kernel⟩
def t_law_entry (K : Fg) (S_law_take : ZSp) : TS :=
    (tRet (tOp rSubZ (tCB (zcall K S_law_take) (tCons (tVar 0) (tCons (tOp (rAddZ K) (tOp rMulZ (tC (.int 2)) (tVar 1)) (tC (.int 1))) tNil))) (tVar 1)))
theorem red_law_entry (T : Txt K mg) (S_law_take : ZSp)
    (G_law_take : FnZ P w K mg base "_law_take" 1 S_law_take) (f : Addr) (cdv : Value) (A : Around) (outer : List Env) (s : Shared) (H : Hp) (E : XK) (hr : Room 1 (A.deeper (envOfC "_law_entry" (defScope s_law_entry) s.heap.objs.size f cdv))) :
    PSs (cxOf CX0 P w K mg base N_law_entry "_law_entry" (defScope s_law_entry) f cdv A outer s H E).nox (defBody s_law_entry) (t_law_entry K S_law_take) :=
    (pss_one (ps_ret (p_sub (p_call G_law_take hr (pa_cons (pv 0) (pa_cons (p_add (p_mul pe_int (pv 1)) pe_int) pa_nil))) (pv 1))))
/-! _law_row -/
abbrev s_law_row : Stmt := topS 22
abbrev N_law_row : List Str := ["_law_box_here", "_law_width", "_law_size", "_law_k"]
theorem sc_law_row : FnScope N_law_row ["_law_box_here", "_law_width", "_law_size"] (defScope s_law_row) := ⟨rfl, rfl, rfl, by decide +kernel, rfl, by decide +kernel, by decide +kernel⟩
def t_law_row (K : Fg) (S_law_entry : ZSp) : TS :=
    (tRet (tLc (iRng1 (tCons (tVar 1) tNil)) (gName 3) tYes (tCB (zcall K S_law_entry) (tCons (tVar 0) (tCons (tVar 2) tNil))) [3]))
theorem red_law_row (T : Txt K mg) (S_law_entry : ZSp)
    (G_law_entry : FnZ P w K mg base "_law_entry" 2 S_law_entry) (f : Addr) (cdv : Value) (A : Around) (outer : List Env) (s : Shared) (H : Hp) (E : XK) (hr : Room 2 (A.deeper (envOfC "_law_row" (defScope s_law_row) s.heap.objs.size f cdv))) :
    PSs (cxOf CX0 P w K mg base N_law_row "_law_row" (defScope s_law_row) f cdv A outer s H E).nox (defBody s_law_row) (t_law_row K S_law_entry) :=
    (pss_one (ps_ret (pe_lc (own := [("_law_k", 3)]) rfl sc_law_row.nd (pi_range1 (by rfl) T.n_range (pa_cons (pv 1) pa_nil)) (blkOk_by (by kernel_rfl)) (fun _ _ _ _ _ => (pg_name (i := 3) sc_law_row.nd rfl (by first | exact Or.inl rfl | exact Or.inr rfl))) (fun _ _ _ _ _ => pts_nil) (fun _ _ _ _ _ => (p_call G_law_entry hr (pa_cons (pv 0) (pa_cons (pv 2) pa_nil)))))))
/-! _law_factor -/
abbrev s_law_factor : Stmt := topS 23
abbrev N_law_factor : List Str := ["_law_box_here", "_law_factor_here"]
theorem sc_law_factor : FnScope N_law_factor ["_law_box_here"] (defScope s_law_factor) := ⟨rfl, rfl, rfl, by decide +kernel, rfl, by decide +kernel, by decide +kernel⟩
def t_law_factor (K : Fg) (S_law_take : ZSp) : TS :=
    (tSeq (tIfS (tTest (tOp (rEqZ K) (tCB (zcall K S_law_take) (tCons (tVar 0) (tCons (tC (.int 2)) tNil))) (tC (.int 0)))) (tRet (tC (.int 1))) tNext)
    (tSeq (tAsg (tOp (rAddZ K) (tC (.int 1)) (tCB (zcall K S_law_take) (tCons (tVar 0) (tCons (tC (.int 9)) tNil)))) (gName 1))
    (tSeq (tIfS (tTest (tOp (rEqZ K) (tCB (zcall K S_law_take) (tCons (tVar 0) (tCons (tC (.int 2)) tNil))) (tC (.int 0)))) (tRet (tUn uNegZ (tVar 1))) tNext)
    (tRet (tVar 1)))))
theorem red_law_factor (T : Txt K mg) (S_law_take : ZSp)
    (G_law_take : FnZ P w K mg base "_law_take" 1 S_law_take) (f : Addr) (cdv : Value) (A : Around) (outer : List Env) (s : Shared) (H : Hp) (E : XK) (hr : Room 1 (A.deeper (envOfC "_law_factor" (defScope s_law_factor) s.heap.objs.size f cdv))) :
    PSs (cxOf CX0 P w K mg base N_law_factor "_law_factor" (defScope s_law_factor) f cdv A outer s H E).nox (defBody s_law_factor) (t_law_factor K S_law_take) :=
    (pss_cons (ps_if (q_eq (Room.units hr) (p_call G_law_take hr (pa_cons (pv 0) (pa_cons pe_int pa_nil))) pe_int) (pss_one (ps_ret pe_int)) pss_nil)
    (pss_cons (ps_set (i := 1) sc_law_factor.nd rfl (by first | exact Or.inl rfl | exact Or.inr rfl) (p_add pe_int (p_call G_law_take hr (pa_cons (pv 0) (pa_cons pe_int pa_nil)))))
    (pss_cons (ps_if (q_eq (Room.units hr) (p_call G_law_take hr (pa_cons (pv 0) (pa_cons pe_int pa_nil))) pe_int) (pss_one (ps_ret (p_neg (pv 1)))) pss_nil)
    (pss_one (ps_ret (pv 1))))))
/-! _law_is_fraction -/
abbrev s_law_is_fraction : Stmt := topS 24
abbrev N_law_is_fraction : List Str := ["_law_actual"]
theorem sc_law_is_fraction : FnScope N_law_is_fraction ["_law_actual"] (defScope s_law_is_fraction) := ⟨rfl, rfl, rfl, by decide +kernel, rfl, by decide +kernel, by decide +kernel⟩
def t_law_is_fraction (K : Fg) (S_law_is_integer : ZSp) (S_law_divisor : ZSp) : TS :=
    (tSeq (tIfS (tOr (tNot (tTruZ K (tCB (rIsiZ K) (tCons (tVar 0) (tCons (tC (.ty "tuple")) tNil))))) (tTest (tOp (rNeZ K) (tCB (rLenZ K) (tCons (tVar 0) tNil)) (tC (.int 2))))) (tRet (tC (.bl false))) tNext)
    (tSeq (tIfS (tOr (tNot (tTruZ K (tCB (zcall K S_law_is_integer) (tCons (tOp (rIxZ K) (tVar 0) (tC (.int 0))) tNil)))) (tNot (tTruZ K (tCB (zcall K S_law_is_integer) (tCons (tOp (rIxZ K) (tVar 0) (tC (.int 1))) tNil))))) (tRet (tC (.bl false))) tNext)
    (tRet (tAndV (tOp rGeZ (tOp (rIxZ K) (tVar 0) (tC (.int 1))) (tC (.int 1))) (tOp (rEqZ K) (tCB (zcall K S_law_divisor) (tCons (tCB (rAbsZ) (tCons (tOp (rIxZ K) (tVar 0) (tC (.int 0))) tNil)) (tCons (tOp (rIxZ K) (tVar 0) (tC (.int 1))) tNil))) (tC (.int 1)))))))
theorem red_law_is_fraction (T : Txt K mg) (S_law_is_integer : ZSp) (S_law_divisor : ZSp)
    (G_law_is_integer : FnZ P w K mg base "_law_is_integer" 1 S_law_is_integer)
    (G_law_divisor : FnZ P w K mg base "_law_divisor" 1 S_law_divisor) (f : Addr) (cdv : Value) (A : Around) (outer : List Env) (s : Shared) (H : Hp) (E : XK) (hr : Room 1 (A.deeper (envOfC "_law_is_fraction" (defScope s_law_is_fraction) s.heap.objs.size f cdv))) :
    PSs (cxOf CX0 P w K mg base N_law_is_fraction "_law_is_fraction" (defScope s_law_is_fraction) f cdv A outer s H E).nox (defBody s_law_is_fraction) (t_law_is_fraction K S_law_is_integer S_law_divisor) :=
    (pss_cons (ps_if (PW.pt (pw_or (pt_not (q_truth (pe_callB cz_isi (by rfl) T.n_isinstance Z.boot_isinstance (pa_cons (pv 0) (pa_cons (pe_bltn (by rfl) T.n_tuple Z.boot_tuple rfl) pa_nil))))) (pw_or1 (q_ne (Room.units hr) (pe_callB cz_len (by rfl) T.n_len Z.boot_len (pa_cons (pv 0) pa_nil)) pe_int)))) (pss_one (ps_ret pe_bl)) pss_nil)
    (pss_cons (ps_if (PW.pt (pw_or (pt_not (q_truth (p_call G_law_is_integer hr (pa_cons (p_ix (pv 0) pe_int) pa_nil)))) (pw_or1 (pt_not (q_truth (p_call G_law_is_integer hr (pa_cons (p_ix (pv 0) pe_int) pa_nil))))))) (pss_one (ps_ret pe_bl)) pss_nil)
    (pss_one (ps_ret (pe_and (p_ge (p_ix (pv 0) pe_int) pe_int) (pe_one (p_eq (Room.units hr) (p_call G_law_divisor hr (pa_cons (pe_callB cz_abs (by rfl) T.n_abs Z.boot_abs (pa_cons (p_ix (pv 0) pe_int) pa_nil)) (pa_cons (p_ix (pv 0) pe_int) pa_nil))) pe_int)))))))
/-! _law_problem -/
abbrev s_law_problem : Stmt := topS 25
abbrev N_law_problem : List Str := ["_law_box_here", "_law_width", "_law_many", "_law_size", "_law_base", "_law_k", "_law_reach", "_law_target", "_law_row_here", "_law_weight"]
theorem sc_law_problem : FnScope N_law_problem ["_law_box_here"] (defScope s_law_problem) := ⟨rfl, rfl, rfl, by decide +kernel, rfl, by decide +kernel, by decide +kernel⟩
def t_law_problem (K : Fg) (S_law_take : ZSp) (S_law_row : ZSp) (S_law_entry : ZSp) : TS :=
    (tSeq (tAsg (tCB (zcall K S_law_take) (tCons (tVar 0) (tCons (tC (.int 6)) tNil))) (gName 1))
    (tSeq (tIfS (tTest (tOp (rEqZ K) (tCB (zcall K S_law_take) (tCons (tVar 0) (tCons (tC (.int 12)) tNil))) (tC (.int 0)))) (tAsg (tOp (rAddZ K) (tC (.int 6)) (tCB (zcall K S_law_take) (tCons (tVar 0) (tCons (tC (.int 3)) tNil)))) (gName 1)) tNext)
    (tSeq (tAsg (tCB rMax2Z (tCons (tCB (zcall K S_law_take) (tCons (tVar 0) (tCons (tOp (rAddZ K) (tVar 1) (tC (.int 2))) tNil))) (tCons (tCB (zcall K S_law_take) (tCons (tVar 0) (tCons (tOp (rAddZ K) (tVar 1) (tC (.int 1))) tNil))) tNil))) (gName 2))
    (tSeq (tAsg (tOp (rIxZ K) (tLst (tCons (tC (.int 1)) (tCons (tC (.int 2)) (tCons (tC (.int 9)) (tCons (tC (.int 100)) tNil))))) (tCB (zcall K S_law_take) (tCons (tVar 0) (tCons (tC (.int 4)) tNil)))) (gName 3))
    (tSeq (tAsg (tLc (iRng1 (tCons (tVar 2) tNil)) (gName 5) tYes (tCB (zcall K S_law_row) (tCons (tVar 0) (tCons (tVar 1) (tCons (tVar 3) tNil)))) [5]) (gName 4))
    (tSeq (tAsg (tC (.int 9)) (gName 6))
    (tSeq (tIfS (tTest (tOp (rEqZ K) (tVar 3) (tC (.int 100)))) (tAsg (tC (.int 1)) (gName 6)) tNext)
    (tSeq (tAsg (tLc (iRng1 (tCons (tVar 1) tNil)) (gName 5) tYes (tC (.int 0)) [5]) (gName 7))
    (tSeq (tFor (iSeqZ K (tVar 4)) (gName 8) (tSeq (tAsg (tCB (zcall K S_law_entry) (tCons (tVar 0) (tCons (tVar 6) tNil))) (gName 9))
    (tAsg (tLc (iRng1 (tCons (tVar 1) tNil)) (gName 5) tYes (tOp (rAddZ K) (tOp (rIxZ K) (tVar 7) (tVar 5)) (tOp rMulZ (tVar 9) (tOp (rIxZ K) (tVar 8) (tVar 5)))) [5]) (gName 7))))
    (tRet (tTup (tCons (tVar 4) (tCons (tVar 1) (tCons (tVar 7) tNil))))))))))))))
theorem red_law_problem (T : Txt K mg) (S_law_take : ZSp) (S_law_row : ZSp) (S_law_entry : ZSp)
    (G_law_take : FnZ P w K mg base "_law_take" 1 S_law_take)
    (G_law_row : FnZ P w K mg base "_law_row" 3 S_law_row)
    (G_law_entry : FnZ P w K mg base "_law_entry" 2 S_law_entry) (f : Addr) (cdv : Value) (A : Around) (outer : List Env) (s : Shared) (H : Hp) (E : XK) (hr : Room 3 (A.deeper (envOfC "_law_problem" (defScope s_law_problem) s.heap.objs.size f cdv))) :
    PSs (cxOf CX0 P w K mg base N_law_problem "_law_problem" (defScope s_law_problem) f cdv A outer s H E).nox (defBody s_law_problem) (t_law_problem K S_law_take S_law_row S_law_entry) :=
    (pss_cons (ps_set (i := 1) sc_law_problem.nd rfl (by first | exact Or.inl rfl | exact Or.inr rfl) (p_call G_law_take hr (pa_cons (pv 0) (pa_cons pe_int pa_nil))))
    (pss_cons (ps_if (q_eq (Room.units hr) (p_call G_law_take hr (pa_cons (pv 0) (pa_cons pe_int pa_nil))) pe_int) (pss_one (ps_set (i := 1) sc_law_problem.nd rfl (by first | exact Or.inl rfl | exact Or.inr rfl) (p_add pe_int (p_call G_law_take hr (pa_cons (pv 0) (pa_cons pe_int pa_nil)))))) pss_nil)
    (pss_cons (ps_set (i := 2) sc_law_problem.nd rfl (by first | exact Or.inl rfl | exact Or.inr rfl) (pe_callB (cz_max2 rfl) (by rfl) T.n_max Z.boot_max (pa_cons (p_call G_law_take hr (pa_cons (pv 0) (pa_cons (p_add (pv 1) pe_int) pa_nil))) (pa_cons (p_call G_law_take hr (pa_cons (pv 0) (pa_cons (p_add (pv 1) pe_int) pa_nil))) pa_nil))))
    (pss_cons (ps_set (i := 3) sc_law_problem.nd rfl (by first | exact Or.inl rfl | exact Or.inr rfl) (p_ix (pe_lst (pa_cons pe_int (pa_cons pe_int (pa_cons pe_int (pa_cons pe_int pa_nil))))) (p_call G_law_take hr (pa_cons (pv 0) (pa_cons pe_int pa_nil)))))
    (pss_cons (ps_setLc (i := 4) (own := [("_law_k", 5)]) rfl sc_law_problem.nd rfl (by rfl) (sw_true rfl rfl rfl (by decide +kernel)) (pi_range1 (by rfl) T.n_range (pa_cons (pv 2) pa_nil)) (blkOk_by (by kernel_rfl)) (fun _ _ _ _ _ => (pg_name (i := 5) sc_law_problem.nd rfl (by first | exact Or.inl rfl | exact Or.inr rfl))) (fun _ _ _ _ _ => pts_nil) (fun _ _ _ _ _ => (p_call G_law_row hr (pa_cons (pv 0) (pa_cons (pv 1) (pa_cons (pv 3) pa_nil))))))
    (pss_cons (ps_set (i := 6) sc_law_problem.nd rfl (by first | exact Or.inl rfl | exact Or.inr rfl) pe_int)
    (pss_cons (ps_if (q_eq (Room.units hr) (pv 3) pe_int) (pss_one (ps_set (i := 6) sc_law_problem.nd rfl (by first | exact Or.inl rfl | exact Or.inr rfl) pe_int)) pss_nil)
    (pss_cons (ps_set (i := 7) sc_law_problem.nd rfl (by first | exact Or.inl rfl | exact Or.inr rfl) (pe_lc (own := [("_law_k", 5)]) rfl sc_law_problem.nd (pi_range1 (by rfl) T.n_range (pa_cons (pv 1) pa_nil)) (blkOk_by (by kernel_rfl)) (fun _ _ _ _ _ => (pg_name (i := 5) sc_law_problem.nd rfl (by first | exact Or.inl rfl | exact Or.inr rfl))) (fun _ _ _ _ _ => pts_nil) (fun _ _ _ _ _ => pe_int)))
    (pss_cons (ps_for PassesOwn.never rfl (pi_seqZ (pv 4)) (pg_name (i := 8) sc_law_problem.nd rfl (by first | exact Or.inl rfl | exact Or.inr rfl)) (pss_cons (ps_set (i := 9) sc_law_problem.nd rfl (by first | exact Or.inl rfl | exact Or.inr rfl) (p_call G_law_entry hr (pa_cons (pv 0) (pa_cons (pv 6) pa_nil))))
    (pss_one (ps_set (i := 7) sc_law_problem.nd rfl (by first | exact Or.inl rfl | exact Or.inr rfl) (pe_lc (own := [("_law_k", 5)]) rfl sc_law_problem.nd (pi_range1 (by rfl) T.n_range (pa_cons (pv 1) pa_nil)) (blkOk_by (by kernel_rfl)) (fun _ _ _ _ _ => (pg_name (i := 5) sc_law_problem.nd rfl (by first | exact Or.inl rfl | exact Or.inr rfl))) (fun _ _ _ _ _ => pts_nil) (fun _ _ _ _ _ => (p_add (p_ix (pv 7) (pv 5)) (p_mul (pv 9) (p_ix (pv 8) (pv 5))))))))))
    (pss_one (ps_ret (pe_tup (pa_cons (pv 4) (pa_cons (pv 1) (pa_cons (pv 7) pa_nil)))))))))))))))
/-! _law_bent_rows -/
abbrev s_law_bent_rows : Stmt := topS 26
abbrev N_law_bent_rows : List Str := ["_law_box_here", "_law_way", "_law_base", "_law_width", "_law_rows", "_law_row_here", "_law_factor_here", "_law_entry_here", "_law_spot", "_law_first", "_law_second", "_law_k"]
theorem sc_law_bent_rows : FnScope N_law_bent_rows ["_law_box_here", "_law_way", "_law_base", "_law_width"] (defScope s_law_bent_rows) := ⟨rfl, rfl, rfl, by decide +kernel, rfl, by decide +kernel, by decide +kernel⟩
def t_law_bent_rows (K : Fg) (S_law_factor : ZSp) (S_law_take : ZSp) (S_law_entry : ZSp) (S_law_row : ZSp) : TS :=
    (tSeq (tAsg (mk (tLst tNil)) (gName 4))
    (tSeq (tFor (iSeqZ K (tVar 2)) (gName 5) (tSeq (tAsg (tCB (zcall K S_law_factor) (tCons (tVar 0) tNil)) (gName 6))
    (tDrop (tBM K "list" rAppend (tVar 4) (tCons (tLc (iSeqZ K (tVar 5)) (gName 7) tYes (tOp rMulZ (tVar 7) (tVar 6)) [7]) tNil)))))
    (tSeq (tIfS (tTest (tOp (rEqZ K) (tVar 2) (tLst tNil))) (tRet (fz (tVar 4))) tNext)
    (tSeq (tAsg (tCB (zcall K S_law_take) (tCons (tVar 0) (tCons (tCB (rLenZ K) (tCons (tVar 2) tNil)) tNil))) (gName 8))
    (tSeq (tAsg (tOp (rIxZ K) (tVar 2) (tCB (zcall K S_law_take) (tCons (tVar 0) (tCons (tCB (rLenZ K) (tCons (tVar 2) tNil)) tNil)))) (gName 9))
    (tSeq (tAsg (tOp (rIxZ K) (tVar 2) (tCB (zcall K S_law_take) (tCons (tVar 0) (tCons (tCB (rLenZ K) (tCons (tVar 2) tNil)) tNil)))) (gName 10))
    (tSeq (tIfS (tTest (tOp (rEqZ K) (tVar 1) (tC (.int 2)))) (tSeq (tAsg (tCB (zcall K S_law_entry) (tCons (tVar 0) (tCons (tC (.int 9)) tNil))) (gName 6))
    (tAsg (tLc (iSeqZ K (tVar 9)) (gName 7) tYes (tOp rMulZ (tVar 7) (tVar 6)) [7]) (gSub (tVar 4) (tVar 8) rSetL))) tNext)
    (tSeq (tIfS (tTest (tOp (rEqZ K) (tVar 1) (tC (.int 3)))) (tAsg (tLc (iRng1 (tCons (tVar 3) tNil)) (gName 11) tYes (tOp (rAddZ K) (tOp (rIxZ K) (tVar 9) (tVar 11)) (tOp (rIxZ K) (tVar 10) (tVar 11))) [11]) (gSub (tVar 4) (tVar 8) rSetL)) tNext)
    (tSeq (tIfS (tTest (tOp (rEqZ K) (tVar 1) (tC (.int 4)))) (tAsg (mk (tLc (iSeqZ K (tVar 2)) (gName 5) tYes (tCB (zcall K S_law_row) (tCons (tVar 0) (tCons (tVar 3) (tCons (tC (.int 1000)) tNil)))) [5])) (gName 4)) tNext)
    (tRet (fz (tVar 4))))))))))))
theorem red_law_bent_rows (T : Txt K mg) (S_law_factor : ZSp) (S_law_take : ZSp) (S_law_entry : ZSp) (S_law_row : ZSp)
    (G_law_factor : FnZ P w K mg base "_law_factor" 2 S_law_factor)
    (G_law_take : FnZ P w K mg base "_law_take" 1 S_law_take)
    (G_law_entry : FnZ P w K mg base "_law_entry" 2 S_law_entry)
    (G_law_row : FnZ P w K mg base "_law_row" 3 S_law_row) (f : Addr) (cdv : Value) (A : Around) (outer : List Env) (s : Shared) (H : Hp) (E : XK) (hr : Room 3 (A.deeper (envOfC "_law_bent_rows" (defScope s_law_bent_rows) s.heap.objs.size f cdv))) :
    PSs (cxOf CX0 P w K mg base N_law_bent_rows "_law_bent_rows" (defScope s_law_bent_rows) f cdv A outer s H E).nox (defBody s_law_bent_rows) (t_law_bent_rows K S_law_factor S_law_take S_law_entry S_law_row) :=
    (pss_cons (ps_set (i := 4) sc_law_bent_rows.nd rfl (by first | exact Or.inl rfl | exact Or.inr rfl) (p_mk (pe_lst pa_nil)))
    (pss_cons (ps_for PassesOwn.never rfl (pi_seqZ (pv 2)) (pg_name (i := 5) sc_law_bent_rows.nd rfl (by first | exact Or.inl rfl | exact Or.inr rfl)) (pss_cons (ps_set (i := 6) sc_law_bent_rows.nd rfl (by first | exact Or.inl rfl | exact Or.inr rfl) (p_call G_law_factor hr (pa_cons (pv 0) pa_nil)))
    (pss_one (ps_expr (pe_bm PySem.F.plainAttrs_list PySem.F.slot_list_append PySem.F.type_list_append mt_append (pv 4) (pa_cons (pe_lc (own := [("_law_entry_here", 7)]) rfl sc_law_bent_rows.nd (pi_seqZ (pv 5)) (blkOk_by (by kernel_rfl)) (fun _ _ _ _ _ => (pg_name (i := 7) sc_law_bent_rows.nd rfl (by first | exact Or.inl rfl | exact Or.inr rfl))) (fun _ _ _ _ _ => pts_nil) (fun _ _ _ _ _ => (p_mul (pv 7) (pv 6)))) pa_nil))))))
    (pss_cons (ps_if (q_eq (Room.units hr) (pv 2) (pe_lst pa_nil)) (pss_one (ps_ret (p_fz (pv 4)))) pss_nil)
    (pss_cons (ps_set (i := 8) sc_law_bent_rows.nd rfl (by first | exact Or.inl rfl | exact Or.inr rfl) (p_call G_law_take hr (pa_cons (pv 0) (pa_cons (pe_callB cz_len (by rfl) T.n_len Z.boot_len (pa_cons (pv 2) pa_nil)) pa_nil))))
    (pss_cons (ps_set (i := 9) sc_law_bent_rows.nd rfl (by first | exact Or.inl rfl | exact Or.inr rfl) (p_ix (pv 2) (p_call G_law_take hr (pa_cons (pv 0) (pa_cons (pe_callB cz_len (by rfl) T.n_len Z.boot_len (pa_cons (pv 2) pa_nil)) pa_nil)))))
    (pss_cons (ps_set (i := 10) sc_law_bent_rows.nd rfl (by first | exact Or.inl rfl | exact Or.inr rfl) (p_ix (pv 2) (p_call G_law_take hr (pa_cons (pv 0) (pa_cons (pe_callB cz_len (by rfl) T.n_len Z.boot_len (pa_cons (pv 2) pa_nil)) pa_nil)))))
    (pss_cons (ps_if (q_eq (Room.units hr) (pv 1) pe_int) (pss_cons (ps_set (i := 6) sc_law_bent_rows.nd rfl (by first | exact Or.inl rfl | exact Or.inr rfl) (p_call G_law_entry hr (pa_cons (pv 0) (pa_cons pe_int pa_nil))))
    (pss_one (ps_asg (pe_lc (own := [("_law_entry_here", 7)]) rfl sc_law_bent_rows.nd (pi_seqZ (pv 9)) (blkOk_by (by kernel_rfl)) (fun _ _ _ _ _ => (pg_name (i := 7) sc_law_bent_rows.nd rfl (by first | exact Or.inl rfl | exact Or.inr rfl))) (fun _ _ _ _ _ => pts_nil) (fun _ _ _ _ _ => (p_mul (pv 7) (pv 6)))) (pg_sub (pv 4) (pv 8) set_list)))) pss_nil)
    (pss_cons (ps_if (q_eq (Room.units hr) (pv 1) pe_int) (pss_one (ps_asg (pe_lc (own := [("_law_k", 11)]) rfl sc_law_bent_rows.nd (pi_range1 (by rfl) T.n_range (pa_cons (pv 3) pa_nil)) (blkOk_by (by kernel_rfl)) (fun _ _ _ _ _ => (pg_name (i := 11) sc_law_bent_rows.nd rfl (by first | exact Or.inl rfl | exact Or.inr rfl))) (fun _ _ _ _ _ => pts_nil) (fun _ _ _ _ _ => (p_add (p_ix (pv 9) (pv 11)) (p_ix (pv 10) (pv 11))))) (pg_sub (pv 4) (pv 8) set_list))) pss_nil)
    (pss_cons (ps_if (q_eq (Room.units hr) (pv 1) pe_int) (pss_one (ps_setLc (i := 4) (own := [("_law_row_here", 5)]) rfl sc_law_bent_rows.nd rfl (by rfl) (sw_true rfl rfl rfl (by decide +kernel)) (pi_seqZ (pv 2)) (blkOk_by (by kernel_rfl)) (fun _ _ _ _ _ => (pg_name (i := 5) sc_law_bent_rows.nd rfl (by first | exact Or.inl rfl | exact Or.inr rfl))) (fun _ _ _ _ _ => pts_nil) (fun _ _ _ _ _ => (p_call G_law_row hr (pa_cons (pv 0) (pa_cons (pv 3) (pa_cons pe_int pa_nil))))))) pss_nil)
    (pss_one (ps_ret (p_fz (pv 4)))))))))))))
/-! _law_bent_target -/
abbrev s_law_bent_target : Stmt := topS 27
abbrev N_law_bent_target : List Str := ["_law_box_here", "_law_way", "_law_target", "_law_width", "_law_k", "_law_spot"]
theorem sc_law_bent_target : FnScope N_law_bent_target ["_law_box_here", "_law_way", "_law_target", "_law_width"] (defScope s_law_bent_target) := ⟨rfl, rfl, rfl, by decide +kernel, rfl, by decide +kernel, by decide +kernel⟩
def t_law_bent_target (K : Fg) (S_law_row : ZSp) (S_law_take : ZSp) : TS :=
    (tSeq (tIfS (tOr (tTest (tOp (rEqZ K) (tVar 1) (tC (.int 0)))) (tTest (tOp (rEqZ K) (tVar 1) (tC (.int 4))))) (tRet (tCB (zcall K S_law_row) (tCons (tVar 0) (tCons (tVar 3) (tCons (tC (.int 1000)) tNil))))) tNext)
    (tSeq (tIfS (tTest (tOp (rEqZ K) (tVar 1) (tC (.int 5)))) (tRet (tLc (iRng1 (tCons (tVar 3) tNil)) (gName 4) tYes (tC (.int 0)) [4])) tNext)
    (tSeq (tIfS (tOr (tTest (tOp (rNeZ K) (tVar 1) (tC (.int 1)))) (tTest (tOp (rEqZ K) (tVar 3) (tC (.int 0))))) (tRet (tVar 2)) tNext)
    (tSeq (tAsg (tCB (zcall K S_law_take) (tCons (tVar 0) (tCons (tVar 3) tNil))) (gName 5))
    (tRet (tLc (iRng1 (tCons (tVar 3) tNil)) (gName 4) tYes (tOp (rAddZ K) (tOp (rIxZ K) (tVar 2) (tVar 4)) (tCB (rIntZ) (tCons (tOp (rEqZ K) (tVar 4) (tVar 5)) tNil))) [4]))))))
theorem red_law_bent_target (T : Txt K mg) (S_law_row : ZSp) (S_law_take : ZSp)
    (G_law_row : FnZ P w K mg base "_law_row" 3 S_law_row)
    (G_law_take : FnZ P w K mg base "_law_take" 1 S_law_take) (f : Addr) (cdv : Value) (A : Around) (outer : List Env) (s : Shared) (H : Hp) (E : XK) (hr : Room 3 (A.deeper (envOfC "_law_bent_target" (defScope s_law_bent_target) s.heap.objs.size f cdv))) :
    PSs (cxOf CX0 P w K mg base N_law_bent_target "_law_bent_target" (defScope s_law_bent_target) f cdv A outer s H E).nox (defBody s_law_bent_target) (t_law_bent_target K S_law_row S_law_take) :=
    (pss_cons (ps_if (PW.pt (pw_or (q_eq (Room.units hr) (pv 1) pe_int) (pw_or1 (q_eq (Room.units hr) (pv 1) pe_int)))) (pss_one (ps_ret (p_call G_law_row hr (pa_cons (pv 0) (pa_cons (pv 3) (pa_cons pe_int pa_nil)))))) pss_nil)
    (pss_cons (ps_if (q_eq (Room.units hr) (pv 1) pe_int) (pss_one (ps_ret (pe_lc (own := [("_law_k", 4)]) rfl sc_law_bent_target.nd (pi_range1 (by rfl) T.n_range (pa_cons (pv 3) pa_nil)) (blkOk_by (by kernel_rfl)) (fun _ _ _ _ _ => (pg_name (i := 4) sc_law_bent_target.nd rfl (by first | exact Or.inl rfl | exact Or.inr rfl))) (fun _ _ _ _ _ => pts_nil) (fun _ _ _ _ _ => pe_int)))) pss_nil)
    (pss_cons (ps_if (PW.pt (pw_or (q_ne (Room.units hr) (pv 1) pe_int) (pw_or1 (q_eq (Room.units hr) (pv 3) pe_int)))) (pss_one (ps_ret (pv 2))) pss_nil)
    (pss_cons (ps_set (i := 5) sc_law_bent_target.nd rfl (by first | exact Or.inl rfl | exact Or.inr rfl) (p_call G_law_take hr (pa_cons (pv 0) (pa_cons (pv 3) pa_nil))))
    (pss_one (ps_ret (pe_lc (own := [("_law_k", 4)]) rfl sc_law_bent_target.nd (pi_range1 (by rfl) T.n_range (pa_cons (pv 3) pa_nil)) (blkOk_by (by kernel_rfl)) (fun _ _ _ _ _ => (pg_name (i := 4) sc_law_bent_target.nd rfl (by first | exact Or.inl rfl | exact Or.inr rfl))) (fun _ _ _ _ _ => pts_nil) (fun _ _ _ _ _ => (p_add (p_ix (pv 2) (pv 4)) (pe_callTy cz_int (by rfl) T.n_int Z.boot_int (pa_cons (p_eq (Room.units hr) (pv 4) (pv 5)) pa_nil)))))))))))
/-! _law_adds_up -/
abbrev s_law_adds_up : Stmt := topS 28
abbrev N_law_adds_up : List Str := ["_law_rows", "_law_weights", "_law_target", "_law_common", "_law_weight", "_law_shares", "_law_column", "_law_gained", "_law_k"]
theorem sc_law_adds_up : FnScope N_law_adds_up ["_law_rows", "_law_weights", "_law_target"] (defScope s_law_adds_up) := ⟨rfl, rfl, rfl, by decide +kernel, rfl, by decide +kernel, by decide +kernel⟩
def t_law_adds_up (K : Fg) : TS :=
    (tSeq (tAsg (tC (.int 1)) (gName 3))
    (tSeq (tFor (iSeqZ K (tVar 1)) (gName 4) (tAsg (tOp rMulZ (tVar 3) (tOp (rIxZ K) (tVar 4) (tC (.int 1)))) (gName 3)))
    (tSeq (tAsg (tLc (iSeqZ K (tVar 1)) (gName 4) tYes (tOp rMulZ (tOp (rIxZ K) (tVar 4) (tC (.int 0))) (tOp rDivZ (tVar 3) (tOp (rIxZ K) (tVar 4) (tC (.int 1))))) [4]) (gName 5))
    (tSeq (tFor (iRng1 (tCons (tCB (rLenZ K) (tCons (tVar 2) tNil)) tNil)) (gName 6) (tSeq (tAsg (tCB (rSumZ K) (tCons (tLc (iRng1 (tCons (tCB (rLenZ K) (tCons (tVar 0) tNil)) tNil)) (gName 8) tYes (tOp rMulZ (tOp (rIxZ K) (tVar 5) (tVar 8)) (tOp (rIxZ K) (tOp (rIxZ K) (tVar 0) (tVar 8)) (tVar 6))) [8]) tNil)) (gName 7))
    (tIfS (tTest (tOp (rNeZ K) (tVar 7) (tOp rMulZ (tOp (rIxZ K) (tVar 2) (tVar 6)) (tVar 3)))) (tRet (tC (.bl false))) tNext)))
    (tRet (tC (.bl true)))))))
theorem red_law_adds_up (T : Txt K mg) (f : Addr) (cdv : Value) (A : Around) (outer : List Env) (s : Shared) (H : Hp) (E : XK) (hr : Room 0 (A.deeper (envOfC "_law_adds_up" (defScope s_law_adds_up) s.heap.objs.size f cdv))) :
    PSs (cxOf CX0 P w K mg base N_law_adds_up "_law_adds_up" (defScope s_law_adds_up) f cdv A outer s H E).nox (defBody s_law_adds_up) (t_law_adds_up K) :=
    (pss_cons (ps_set (i := 3) sc_law_adds_up.nd rfl (by first | exact Or.inl rfl | exact Or.inr rfl) pe_int)
    (pss_cons (ps_for PassesOwn.never rfl (pi_seqZ (pv 1)) (pg_name (i := 4) sc_law_adds_up.nd rfl (by first | exact Or.inl rfl | exact Or.inr rfl)) (pss_one (ps_set (i := 3) sc_law_adds_up.nd rfl (by first | exact Or.inl rfl | exact Or.inr rfl) (p_mul (pv 3) (p_ix (pv 4) pe_int)))))
    (pss_cons (ps_set (i := 5) sc_law_adds_up.nd rfl (by first | exact Or.inl rfl | exact Or.inr rfl) (pe_lc (own := [("_law_weight", 4)]) rfl sc_law_adds_up.nd (pi_seqZ (pv 1)) (blkOk_by (by kernel_rfl)) (fun _ _ _ _ _ => (pg_name (i := 4) sc_law_adds_up.nd rfl (by first | exact Or.inl rfl | exact Or.inr rfl))) (fun _ _ _ _ _ => pts_nil) (fun _ _ _ _ _ => (p_mul (p_ix (pv 4) pe_int) (p_fdiv (pv 3) (p_ix (pv 4) pe_int))))))
    (pss_cons (ps_for PassesOwn.never rfl (pi_range1 (by rfl) T.n_range (pa_cons (pe_callB cz_len (by rfl) T.n_len Z.boot_len (pa_cons (pv 2) pa_nil)) pa_nil)) (pg_name (i := 6) sc_law_adds_up.nd rfl (by first | exact Or.inl rfl | exact Or.inr rfl)) (pss_cons (ps_set (i := 7) sc_law_adds_up.nd rfl (by first | exact Or.inl rfl | exact Or.inr rfl) (pe_callB (cz_sum rfl) (by rfl) T.n_sum Z.boot_sum (pa_cons (pe_lc (own := [("_law_k", 8)]) rfl sc_law_adds_up.nd (pi_range1 (by rfl) T.n_range (pa_cons (pe_callB cz_len (by rfl) T.n_len Z.boot_len (pa_cons (pv 0) pa_nil)) pa_nil)) (blkOk_by (by kernel_rfl)) (fun _ _ _ _ _ => (pg_name (i := 8) sc_law_adds_up.nd rfl (by first | exact Or.inl rfl | exact Or.inr rfl))) (fun _ _ _ _ _ => pts_nil) (fun _ _ _ _ _ => (p_mul (p_ix (pv 5) (pv 8)) (p_ix (p_ix (pv 0) (pv 8)) (pv 6))))) pa_nil)))
    (pss_one (ps_if (q_ne (Room.units hr) (pv 7) (p_mul (p_ix (pv 2) (pv 6)) (pv 3))) (pss_one (ps_ret pe_bl)) pss_nil))))
    (pss_one (ps_ret pe_bl))))))
/-! _law_right -/
abbrev s_law_right : Stmt := topS 29
abbrev N_law_right : List Str := ["_law_rows", "_law_width", "_law_target", "_law_told", "_law_found", "_law_weight"]
theorem sc_law_right : FnScope N_law_right ["_law_rows", "_law_width", "_law_target"] (defScope s_law_right) := ⟨rfl, rfl, rfl, by decide +kernel, rfl, by decide +kernel, by decide +kernel⟩
def t_law_right (K : Fg) (S_combination : ZSp) (S_law_rank : ZSp) (S_law_is_fraction : ZSp) (S_law_adds_up : ZSp) : TS :=
    (tSeq (tAsg (tCB (zcall K S_combination) (tCons (tVar 0) (tCons (tVar 2) tNil))) (gName 3))
    (tSeq (tAsg (tCB (zcall K S_law_rank) (tCons (tVar 0) (tCons (tVar 1) tNil))) (gName 4))
    (tSeq (tIfS (tOr (tTest (tOp rLtZ (tVar 4) (tCB (rLenZ K) (tCons (tVar 0) tNil)))) (tTest (tOp rGtZ (tCB (zcall K S_law_rank) (tCons (tOp (rAddZ K) (tCB (rListZ K) (tCons (tVar 0) tNil)) (tLst (tCons (tVar 2) tNil))) (tCons (tVar 1) tNil))) (tVar 4)))) (tRet (tOp rIsNZ (tVar 3) (tC .non))) tNext)
    (tSeq (tIfS (tOr (tNot (tTruZ K (tCB (rIsiZ K) (tCons (tVar 3) (tCons (tC (.ty "tuple")) tNil))))) (tTest (tOp (rNeZ K) (tCB (rLenZ K) (tCons (tVar 3) tNil)) (tCB (rLenZ K) (tCons (tVar 0) tNil))))) (tRet (tC (.bl false))) tNext)
    (tSeq (tFor (iSeqZ K (tVar 3)) (gName 5) (tIfS (tNot (tTruZ K (tCB (zcall K S_law_is_fraction) (tCons (tVar 5) tNil)))) (tRet (tC (.bl false))) tNext))
    (tRet (tCB (zcall K S_law_adds_up) (tCons (tVar 0) (tCons (tVar 3) (tCons (tVar 2) tNil))))))))))
theorem red_law_right (T : Txt K mg) (S_combination : ZSp) (S_law_rank : ZSp) (S_law_is_fraction : ZSp) (S_law_adds_up : ZSp)
    (G_combination : FnZ P w K mg base "combination" 4 S_combination)
    (G_law_rank : FnZ P w K mg base "_law_rank" 4 S_law_rank)
    (G_law_is_fraction : FnZ P w K mg base "_law_is_fraction" 2 S_law_is_fraction)
    (G_law_adds_up : FnZ P w K mg base "_law_adds_up" 1 S_law_adds_up) (f : Addr) (cdv : Value) (A : Around) (outer : List Env) (s : Shared) (H : Hp) (E : XK) (hr : Room 4 (A.deeper (envOfC "_law_right" (defScope s_law_right) s.heap.objs.size f cdv))) :
    PSs (cxOf CX0 P w K mg base N_law_right "_law_right" (defScope s_law_right) f cdv A outer s H E).nox (defBody s_law_right) (t_law_right K S_combination S_law_rank S_law_is_fraction S_law_adds_up) :=
    (pss_cons (ps_set (i := 3) sc_law_right.nd rfl (by first | exact Or.inl rfl | exact Or.inr rfl) (p_call G_combination hr (pa_cons (pv 0) (pa_cons (pv 2) pa_nil))))
    (pss_cons (ps_set (i := 4) sc_law_right.nd rfl (by first | exact Or.inl rfl | exact Or.inr rfl) (p_call G_law_rank hr (pa_cons (pv 0) (pa_cons (pv 1) pa_nil))))
    (pss_cons (ps_if (PW.pt (pw_or (q_lt (pv 4) (pe_callB cz_len (by rfl) T.n_len Z.boot_len (pa_cons (pv 0) pa_nil))) (pw_or1 (q_gt (p_call G_law_rank hr (pa_cons (p_add (pe_callTy cz_list (by rfl) T.n_list Z.boot_list (pa_cons (pv 0) pa_nil)) (pe_lst (pa_cons (pv 2) pa_nil))) (pa_cons (pv 1) pa_nil))) (pv 4))))) (pss_one (ps_ret (p_isN (pv 3) pe_non))) pss_nil)
    (pss_cons (ps_if (PW.pt (pw_or (pt_not (q_truth (pe_callB cz_isi (by rfl) T.n_isinstance Z.boot_isinstance (pa_cons (pv 3) (pa_cons (pe_bltn (by rfl) T.n_tuple Z.boot_tuple rfl) pa_nil))))) (pw_or1 (q_ne (Room.units hr) (pe_callB cz_len (by rfl) T.n_len Z.boot_len (pa_cons (pv 3) pa_nil)) (pe_callB cz_len (by rfl) T.n_len Z.boot_len (pa_cons (pv 0) pa_nil)))))) (pss_one (ps_ret pe_bl)) pss_nil)
    (pss_cons (ps_for PassesOwn.never rfl (pi_seqZ (pv 3)) (pg_name (i := 5) sc_law_right.nd rfl (by first | exact Or.inl rfl | exact Or.inr rfl)) (pss_one (ps_if (pt_not (q_truth (p_call G_law_is_fraction hr (pa_cons (pv 5) pa_nil)))) (pss_one (ps_ret pe_bl)) pss_nil)))
    (pss_one (ps_ret (p_call G_law_adds_up hr (pa_cons (pv 0) (pa_cons (pv 3) (pa_cons (pv 2) pa_nil)))))))))))
/-! law -/
abbrev s_law : Stmt := topS 30
abbrev N_law : List Str := ["_law_script", "_law_k", "_law_box_here", "_law_base", "_law_width", "_law_target", "_law_way", "_law_rows", "_law_bent", "_law_row_here"]
theorem sc_law : FnScope N_law ["_law_script"] (defScope s_law) := ⟨rfl, rfl, rfl, by decide +kernel, rfl, by decide +kernel, by decide +kernel⟩
def t_law (K : Fg) (S_law_box : ZSp) (S_law_problem : ZSp) (S_law_take : ZSp) (S_law_bent_rows : ZSp) (S_law_bent_target : ZSp) (S_law_right : ZSp) : TS :=
    (tSeq (tFor (iRng1 (tCons (tCB rMax2Z (tCons (tC (.int 2)) (tCons (tCB rMin2Z (tCons (tC (.int 6)) (tCons (tCB (rLenZ K) (tCons (tVar 0) tNil)) tNil))) tNil))) tNil)) (gName 1) (tSeq (tAsg (fz (tCB (zcall K S_law_box) (tCons (tVar 0) (tCons (tVar 1) tNil)))) (gName 2))
    (tSeq (tAsg (tCB (zcall K S_law_problem) (tCons (tVar 2) tNil)) (gTup K 3 (gCons (gName 3) (gCons (gName 4) (gCons (gName 5) gNil)))))
    (tSeq (tAsg (tCB (zcall K S_law_take) (tCons (tVar 2) (tCons (tC (.int 10)) tNil))) (gName 6))
    (tSeq (tAsg (tCB (zcall K S_law_bent_rows) (tCons (tVar 2) (tCons (tVar 6) (tCons (tVar 3) (tCons (tVar 4) tNil))))) (gName 7))
    (tSeq (tAsg (tCB (zcall K S_law_bent_target) (tCons (tVar 2) (tCons (tVar 6) (tCons (tVar 5) (tCons (tVar 4) tNil))))) (gName 8))
    (tIfS (tNot (tTruZ K (tCB (zcall K S_law_right) (tCons (tCB (rTupZ K) (tCons (tLc (iSeqZ K (tVar 7)) (gName 9) tYes (tCB (rTupZ K) (tCons (tVar 9) tNil)) [9]) tNil)) (tCons (tVar 4) (tCons (tCB (rTupZ K) (tCons (tVar 8) tNil)) tNil)))))) (tRet (tC (.bl false))) tNext)))))))
    (tRet (tC (.bl true))))
theorem red_law (T : Txt K mg) (S_law_box : ZSp) (S_law_problem : ZSp) (S_law_take : ZSp) (S_law_bent_rows : ZSp) (S_law_bent_target : ZSp) (S_law_right : ZSp)
    (G_law_box : FnZ P w K mg base "_law_box" 1 S_law_box)
    (G_law_problem : FnZ P w K mg base "_law_problem" 4 S_law_problem)
    (G_law_take : FnZ P w K mg base "_law_take" 1 S_law_take)
    (G_law_bent_rows : FnZ P w K mg base "_law_bent_rows" 4 S_law_bent_rows)
    (G_law_bent_target : FnZ P w K mg base "_law_bent_target" 4 S_law_bent_target)
    (G_law_right : FnZ P w K mg base "_law_right" 5 S_law_right) (f : Addr) (cdv : Value) (A : Around) (outer : List Env) (s : Shared) (H : Hp) (E : XK) (hr : Room 5 (A.deeper (envOfC "law" (defScope s_law) s.heap.objs.size f cdv))) :
    PSs (cxOf CX0 P w K mg base N_law "law" (defScope s_law) f cdv A outer s H E).nox (defBody s_law) (t_law K S_law_box S_law_problem S_law_take S_law_bent_rows S_law_bent_target S_law_right) :=
    (pss_cons (ps_for PassesOwn.never rfl (pi_range1 (by rfl) T.n_range (pa_cons (pe_callB (cz_max2 rfl) (by rfl) T.n_max Z.boot_max (pa_cons pe_int (pa_cons (pe_callB (cz_min2 rfl) (by rfl) T.n_min Z.boot_min (pa_cons pe_int (pa_cons (pe_callB cz_len (by rfl) T.n_len Z.boot_len (pa_cons (pv 0) pa_nil)) pa_nil))) pa_nil))) pa_nil)) (pg_name (i := 1) sc_law.nd rfl (by first | exact Or.inl rfl | exact Or.inr rfl)) (pss_cons (ps_set (i := 2) sc_law.nd rfl (by first | exact Or.inl rfl | exact Or.inr rfl) (p_fz (p_call G_law_box hr (pa_cons (pv 0) (pa_cons (pv 1) pa_nil)))))
    (pss_cons (ps_asg (p_call G_law_problem hr (pa_cons (pv 2) pa_nil)) (pg_tup rfl (pgs_cons (pg_name (i := 3) sc_law.nd rfl (by first | exact Or.inl rfl | exact Or.inr rfl)) (pgs_cons (pg_name (i := 4) sc_law.nd rfl (by first | exact Or.inl rfl | exact Or.inr rfl)) (pgs_cons (pg_name (i := 5) sc_law.nd rfl (by first | exact Or.inl rfl | exact Or.inr rfl)) pgs_nil)))))
    (pss_cons (ps_set (i := 6) sc_law.nd rfl (by first | exact Or.inl rfl | exact Or.inr rfl) (p_call G_law_take hr (pa_cons (pv 2) (pa_cons pe_int pa_nil))))
    (pss_cons (ps_set (i := 7) sc_law.nd rfl (by first | exact Or.inl rfl | exact Or.inr rfl) (p_call G_law_bent_rows hr (pa_cons (pv 2) (pa_cons (pv 6) (pa_cons (pv 3) (pa_cons (pv 4) pa_nil))))))
    (pss_cons (ps_set (i := 8) sc_law.nd rfl (by first | exact Or.inl rfl | exact Or.inr rfl) (p_call G_law_bent_target hr (pa_cons (pv 2) (pa_cons (pv 6) (pa_cons (pv 5) (pa_cons (pv 4) pa_nil))))))
    (pss_one (ps_if (pt_not (q_truth (p_call G_law_right hr (pa_cons (pe_callTy cz_tuple (by rfl) T.n_tuple Z.boot_tuple (pa_cons (pe_lc (own := [("_law_row_here", 9)]) rfl sc_law.nd (pi_seqZ (pv 7)) (blkOk_by (by kernel_rfl)) (fun _ _ _ _ _ => (pg_name (i := 9) sc_law.nd rfl (by first | exact Or.inl rfl | exact Or.inr rfl))) (fun _ _ _ _ _ => pts_nil) (fun _ _ _ _ _ => (pe_callTy cz_tuple (by rfl) T.n_tuple Z.boot_tuple (pa_cons (pv 9) pa_nil)))) pa_nil)) (pa_cons (pv 4) (pa_cons (pe_callTy cz_tuple (by rfl) T.n_tuple Z.boot_tuple (pa_cons (pv 8) pa_nil)) pa_nil)))))) (pss_one (ps_ret pe_bl)) pss_nil))))))))
    (pss_one (ps_ret pe_bl)))
end
end Qk02
set_option Elab.async false
set_option linter.all false
set_option maxRecDepth 100000
set_option maxHeartbeats 4000000
namespace Qk02
open PySem PySem.Spec PyProof.Rows L2 StX Z
local macro_rules | `(tactic| walk_at "z") => `(tactic| first
  | with_reducible refine zs_seq ?_
  | with_reducible refine zs_nil ?_
  | with_reducible refine zs_asg ?_
  | with_reducible refine zg_name ?_
  | (with_reducible refine z_var (d := ?zd) ?zh ?zk); (case zh => rfl)
  | with_reducible refine z_int ?_
  | with_reducible refine z_bl ?_
  | with_reducible refine z_non ?_
  | with_reducible refine z_ty ?_
  | with_reducible refine z_op ?_
  | with_reducible refine z_un ?_
  | with_reducible refine za_nil ?_
  | with_reducible refine za_cons ?_
  | with_reducible refine z_cb ?_
  | with_reducible refine z_tup ?_
  | with_reducible refine z_lst ?_
  | with_reducible refine z_lstM ?_
  | with_reducible refine zs_drop ?_
  | with_reducible refine zs_ret ?_
  | with_reducible refine zs_retN ?_
  | with_reducible refine zs_if ?_
  | with_reducible refine zt_test ?_
  | with_reducible refine zt_not ?_
  | with_reducible refine zt_truth ?_
  | with_reducible refine zr_addI ?_
  | with_reducible refine zr_sub ?_
  | with_reducible refine zr_lt ?_
  | with_reducible refine zr_le ?_
  | with_reducible refine zr_gt ?_
  | with_reducible refine zr_ge ?_
  | with_reducible refine zr_eqI ?_
  | with_reducible refine zr_neI ?_
  | with_reducible refine zr_isN ?_
  | with_reducible refine zr_notN ?_
  | with_reducible refine zu_neg ?_
  | with_reducible refine zc_abs ?_
  | with_reducible refine zc_gcd ?_
  | with_reducible refine zc_int ?_
  | with_reducible refine zc_max2 ?_
  | with_reducible refine zc_min2 ?_
  | with_reducible refine zg_tup rfl ?_
  | with_reducible refine zgs_cons ?_
  | with_reducible refine zgs_nil ?_
  | with_reducible refine ⟨_, rfl, ?_⟩
  | with_reducible refine zt_yes ?_
  | (with_reducible refine And.intro ?zl ?zk); (case zl => exact Nat.le_of_ble_eq_true rfl))

def zI (r : List Int) : List D := r.map D.int
def gcdL (r : List Int) : Nat := r.foldl (fun g e => Nat.gcd g e.natAbs) 0
def prim (r : List Int) : List Int := if gcdL r = 0 then r else r.map (· / (gcdL r : Int))
def Bd (n : Nat) (r : List Int) : Prop := ∀ e ∈ r, e.natAbs < 2 ^ n
theorem zI_get {r : List Int} {i : Nat} {d : D} (h : (zI r)[i]? = some d) : ∃ e, r[i]? = some e ∧ d = .int e := by
  unfold zI at h; rw [List.getElem?_map] at h
  obtain ⟨e, he, rfl⟩ := Option.map_eq_some_iff.mp h
  exact ⟨e, he, rfl⟩
theorem gcdL_snoc {r : List Int} {e : Int} : gcdL (r ++ [e]) = Nat.gcd (gcdL r) e.natAbs := by simp [gcdL]
theorem take_snoc {α : Type} {r : List α} {i : Nat} {e : α} (h : r[i]? = some e) : r.take (i + 1) = r.take i ++ [e] := by
  rw [List.take_add_one, h]; rfl
theorem gcdL_dvd : ∀ (r : List Int) (e : Int), e ∈ r → (gcdL r : Nat) ∣ e.natAbs := by
  have key : ∀ (r : List Int) (g : Nat), (r.foldl (fun g e => Nat.gcd g e.natAbs) g ∣ g) ∧ ∀ e ∈ r, (r.foldl (fun g e => Nat.gcd g e.natAbs) g) ∣ e.natAbs := by
    intro r
    induction r with
    | nil => intro g; exact ⟨Nat.dvd_refl _, fun e h => by cases h⟩
    | cons x r ih =>
      intro g
      obtain ⟨h1, h2⟩ := ih (Nat.gcd g x.natAbs)
      refine ⟨Nat.dvd_trans h1 (Nat.gcd_dvd_left _ _), fun e he => ?_⟩
      rcases List.mem_cons.mp he with rfl | he
      · exact Nat.dvd_trans h1 (Nat.gcd_dvd_right _ _)
      · exact h2 e he
  intro r e he
  exact (key r 0).2 e he
theorem gcdL_take_dvd {r : List Int} {i : Nat} : gcdL r ∣ gcdL (r.take i) := by
  have key : ∀ (r : List Int) (g : Nat), (r.foldl (fun g e => Nat.gcd g e.natAbs) g ∣ g) := by
    intro r
    induction r with
    | nil => intro g; exact Nat.dvd_refl _
    | cons x r ih => intro g; exact Nat.dvd_trans (ih _) (Nat.gcd_dvd_left _ _)
  have e : gcdL r = (r.drop i).foldl (fun g e => Nat.gcd g e.natAbs) (gcdL (r.take i)) := by
    unfold gcdL; rw [← List.foldl_append, List.take_append_drop]
  rw [e]; exact key _ _
theorem prim_one {r : List Int} (h : gcdL r = 1) : prim r = r := by
  unfold prim; rw [h]; simp
theorem prim_zero {r : List Int} (h : gcdL r = 0) : prim r = r := by
  unfold prim; rw [if_pos h]
theorem log2_bd {n m : Nat} (h : n < 2 ^ m) (hm : 0 < m) : n.log2 < m := by
  by_cases h0 : n = 0
  · subst h0; simpa using hm
  · exact (Nat.log2_lt h0).mpr h

def S_primitive : ZSp := fun ds M k => ∃ d r, ds = [d] ∧ (d = .tup (zI r) ∨ d = .lst (zI r)) ∧ r.length ≤ sizeLine ∧ Bd 9000 r ∧ k (.tup (zI (prim r))) M

section
variable {K : Fg} {c : Cz}
theorem sf_of {d : D} {ds : List D} (h : d = .tup ds ∨ d = .lst ds) : Sf d ds := by rcases h with rfl | rfl; exact .tup; exact .lst
theorem tup_of {c : Cz} {d : D} {ds : List D} {M : Mem} {k : D → Mem → Prop} (h : d = .tup ds ∨ d = .lst ds) (hk : k (.tup ds) M) : ZC c (rTupZ c.K) [d] M k := by
  rcases h with rfl | rfl
  · exact zc_tupleT hk
  · exact zc_tuple .lst hk
theorem div_ok {e : Int} {g : Nat} (hg : 0 < g) (he : e.natAbs < 2 ^ 9000) (hd : g ∣ e.natAbs) : Builtin.divisionGoesByPylong e g = false := by
  by_cases h0 : e = 0
  · subst h0
    unfold Builtin.divisionGoesByPylong
    simp
  · have h1 : g ≤ e.natAbs := Nat.le_of_dvd (by omega) hd
    exact PyProof.noPylong_of_log2 (by rw [Int.natAbs_natCast]; exact log2_bd (Nat.lt_of_le_of_lt h1 he) (by decide))
theorem z_primitive {kk : D → Mem → Prop} {ds : List D} {M : Mem} (h : S_primitive ds M kk) : ZS { K := K } (t_primitive K) (startD N_primitive ds) M { nx := fun _ M' => kk .non M', rt := kk } := by
  obtain ⟨d, r, rfl, hd, hl, hb, hk⟩ := h
  unfold t_primitive
  repeat walk_at "z"
  refine zs_for (zi_seq ?_)
  repeat walk_at "z"
  refine ⟨_, sf_of hd, fun i Γ M' => M' = M ∧ ∃ o, Γ = [some d, some (.int (gcdL (r.take i) : Nat)), o], ⟨rfl, none, rfl⟩, ?_, ?_⟩
  · rintro i x Γ1 M1 hx ⟨rfl, o, rfl⟩
    obtain ⟨e, he, rfl⟩ := zI_get hx
    have hg : Nat.gcd (gcdL (r.take i)) e.natAbs = gcdL (r.take (i + 1)) := by rw [take_snoc he, gcdL_snoc]
    repeat walk_at "z"
    rw [Int.natAbs_natCast, hg]
    refine ⟨fun h => ?_, fun h => ?_⟩
    · have h1 : gcdL (r.take (i + 1)) = 1 := by have := of_decide_eq_true h; omega
      have h2 : gcdL r = 1 := Nat.dvd_one.mp (h1 ▸ gcdL_take_dvd)
      repeat walk_at "z"
      refine tup_of hd ?_
      rw [prim_one h2] at hk; exact hk
    · repeat walk_at "z"
      exact ⟨rfl, _, rfl⟩
  · rintro Γ1 M1 ⟨rfl, o, rfl⟩
    have hll : (zI r).length = r.length := List.length_map ..
    rw [hll, List.take_length]
    repeat walk_at "z"
    refine ⟨fun h => ?_, fun h => ?_⟩
    · have h1 : gcdL r = 0 := by have := of_decide_eq_true h; omega
      repeat walk_at "z"
      refine tup_of hd ?_
      rw [prim_zero h1] at hk; exact hk
    · have h1 : 0 < gcdL r := by have := of_decide_eq_false h; omega
      repeat walk_at "z"
      refine z_lc (own_name (by decide)) (zi_seq ?_)
      repeat walk_at "z"
      refine ⟨_, sf_of hd, LcK.map (fun x => match x with | .int e => .int (e / (gcdL r : Int)) | x => x) (by rw [hll]; exact hl) ?_ ?_⟩
      · intro i x hx
        obtain ⟨e, he, rfl⟩ := zI_get hx
        have hm := List.mem_of_getElem? he
        repeat walk_at "z"
        exact zr_divP (by omega) (div_ok h1 (hb e hm) (gcdL_dvd r e hm)) ⟨rfl, rfl⟩
      · repeat walk_at "z"
        refine zc_tuple .lst ?_
        have : (zI r).map (fun x => match x with | .int e => .int (e / (gcdL r : Int)) | x => x) = zI (prim r) := by
          unfold prim zI; rw [if_neg (by omega), List.map_map, List.map_map]; rfl
        rw [this]; exact hk

def gI (r : List Int) (i : Nat) : Int := r[i]?.getD 0
theorem gI_of {r : List Int} {i : Nat} {e : Int} (h : r[i]? = some e) : gI r i = e := by unfold gI; rw [h]; rfl
theorem gI_some {r : List Int} {i : Nat} (h : i < r.length) : r[i]? = some (gI r i) := by unfold gI; rw [List.getElem?_eq_getElem h]; rfl
theorem atI_nat {α : Type} {xs : List α} {i : Nat} (h : i < xs.length) : L2.atI xs (i : Int) = xs[i]? := by
  unfold L2.atI L2.ixN
  rw [if_pos (by omega), if_pos (by omega)]; simp
theorem zI_len (r : List Int) : (zI r).length = r.length := List.length_map ..
theorem zI_at {r : List Int} {i : Nat} (h : i < r.length) : L2.atI (zI r) (i : Int) = some (.int (gI r i)) := by
  rw [atI_nat (by rw [zI_len]; exact h)]; unfold zI; rw [List.getElem?_map, gI_some h]; rfl
def clr (eq : List Int) (p : Nat) (oth : List Int) : List Int := if gI eq p = 0 then eq else prim (List.zipWith (fun e o => gI oth p * e - gI eq p * o) eq oth)
def S_cleared : ZSp := fun ds M k => ∃ eq p oth, ds = [.tup (zI eq), .int (p : Nat), .tup (zI oth)] ∧ eq.length = oth.length ∧ p < eq.length ∧ eq.length ≤ sizeLine ∧ Bd 4000 eq ∧ Bd 4000 oth ∧ k (.tup (zI (clr eq p oth))) M
theorem Bd.get {n : Nat} {r : List Int} (h : Bd n r) {i : Nat} (hi : i < r.length) : (gI r i).natAbs < 2 ^ n := h _ (List.mem_of_getElem? (gI_some hi))
theorem mul_bd {a b : Int} {n m : Nat} (ha : a.natAbs < 2 ^ n) (hb : b.natAbs < 2 ^ m) : (a * b).natAbs < 2 ^ (n + m) := by
  rw [Int.natAbs_mul, Nat.pow_add]
  exact Nat.mul_lt_mul_of_lt_of_lt ha hb
theorem mul_ok {a b : Int} (ha : a.natAbs < 2 ^ 4000) (hb : b.natAbs < 2 ^ 4000) : MulOk a b := by
  have h1 := log2_bd ha (by decide)
  have h2 := log2_bd hb (by decide)
  exact MulOk.of (by omega)
theorem sub_bd {a b : Int} {n : Nat} (ha : a.natAbs < 2 ^ n) (hb : b.natAbs < 2 ^ n) : (a - b).natAbs < 2 ^ (n + 1) := by
  rw [Nat.pow_succ]; omega
theorem bd_mono {a : Int} {n m : Nat} (h : a.natAbs < 2 ^ n) (hm : n ≤ m) : a.natAbs < 2 ^ m := Nat.lt_of_lt_of_le h (Nat.pow_le_pow_right (by decide) hm)
theorem zipD_I (a b : List Int) : zipD (zI a) (zI b) = List.zipWith (fun e o => D.tup [.int e, .int o]) a b := by
  unfold zipD zI; rw [List.zipWith_map]
theorem z_cleared {S_primitive' : ZSp} (hS : S_primitive' = S_primitive) {kk : D → Mem → Prop} {ds : List D} {M : Mem} (h : S_cleared ds M kk) : ZS { K := K } (t_cleared K S_primitive') (startD N_cleared ds) M { nx := fun _ M' => kk .non M', rt := kk } := by
  obtain ⟨eq, p, oth, rfl, hl, hp, hsz, b1, b2, hk⟩ := h
  subst hS
  unfold t_cleared
  repeat walk_at "z"
  refine zr_ix .tup (zI_at hp) ?_
  repeat walk_at "z"
  refine ⟨fun h => ?_, fun h => ?_⟩
  · have h1 : gI eq p = 0 := of_decide_eq_true h
    repeat walk_at "z"
    unfold clr at hk; rw [if_pos h1] at hk; exact hk
  · have h1 : ¬ gI eq p = 0 := of_decide_eq_false h
    repeat walk_at "z"
    refine zr_ix .tup (zI_at (by rw [← hl]; exact hp)) ?_
    repeat walk_at "z"
    have hg := b1.get hp
    have ho := b2.get (i := p) (by omega)
    refine z_lc (own_tup (owns_cons mono_name (mono_cons mono_name mono_nil) (own_name (by decide)) (owns_cons mono_name mono_nil (own_name (by decide)) owns_nil))) (zi_zipT ?_)
    repeat walk_at "z"
    refine ⟨_, _, rfl, ?_⟩
    rw [zipD_I]
    refine LcK.map (fun x => match x with | .tup [.int e, .int o] => .int (gI oth p * e - gI eq p * o) | x => x) (by simp; omega) ?_ ?_
    · intro i x hx
      obtain ⟨e, o, he, ho', rfl⟩ := List.getElem?_zipWith_eq_some.mp hx
      have he1 := b1 e (List.mem_of_getElem? he)
      have ho1 := b2 o (List.mem_of_getElem? ho')
      repeat walk_at "z"
      refine zr_mulI (mul_ok ho he1) ?_
      repeat walk_at "z"
      refine zr_mulI (mul_ok hg ho1) ?_
      repeat walk_at "z"
      exact ⟨rfl, rfl⟩
    · repeat walk_at "z"
      refine zc_call ⟨_, List.zipWith (fun e o => gI oth p * e - gI eq p * o) eq oth, rfl, .inr ?_, by simp; omega, ?_, ?_⟩
      · unfold zI; rw [List.map_zipWith, List.map_zipWith]
      · intro z hz
        obtain ⟨i, hi⟩ := List.mem_iff_getElem?.mp hz
        obtain ⟨e, o, he, ho', rfl⟩ := List.getElem?_zipWith_eq_some.mp hi
        exact bd_mono (sub_bd (mul_bd ho (b1 e (List.mem_of_getElem? he))) (mul_bd hg (b2 o (List.mem_of_getElem? ho')))) (by decide)
      · unfold clr at hk; rw [if_neg h1] at hk; exact hk

def fNZ (r : List Int) : Option Nat := r.findIdx? (fun e => decide (e ≠ 0))
def oD : Option Nat → D
  | none => .non
  | some i => .int (i : Nat)
def S_first_nonzero : ZSp := fun ds M k => ∃ r, ds = [.tup (zI r)] ∧ k (oD (fNZ r)) M
theorem enumD_get {ds : List D} {i : Nat} {x : D} (h : (enumD ds)[i]? = some x) : ∃ d, ds[i]? = some d ∧ x = .tup [.int (i : Nat), d] := by
  unfold enumD at h; rw [List.getElem?_mapIdx] at h
  obtain ⟨d, hd, rfl⟩ := Option.map_eq_some_iff.mp h
  exact ⟨d, hd, rfl⟩
theorem z_first_nonzero {kk : D → Mem → Prop} {ds : List D} {M : Mem} (h : S_first_nonzero ds M kk) : ZS { K := K } (t_first_nonzero K) (startD N_first_nonzero ds) M { nx := fun _ M' => kk .non M', rt := kk } := by
  obtain ⟨r, rfl, hk⟩ := h
  unfold t_first_nonzero
  repeat walk_at "z"
  refine zs_for (zi_enum ?_)
  repeat walk_at "z"
  refine ⟨_, _, rfl, .tup, fun i Γ M' => M' = M ∧ (∀ e ∈ r.take i, e = 0) ∧ ∃ o o', Γ = [some (.tup (zI r)), o, o'], ⟨rfl, fun e h => by simp at h, none, none, rfl⟩, ?_, ?_⟩
  · rintro i x Γ1 M1 hx ⟨rfl, hz, o, o', rfl⟩
    obtain ⟨d, hd, rfl⟩ := enumD_get hx
    obtain ⟨e, he, rfl⟩ := zI_get hd
    repeat walk_at "z"
    refine ⟨fun h => ?_, fun h => ?_⟩
    · have h1 : e ≠ 0 := by simpa using h
      repeat walk_at "z"
      have : fNZ r = some i := by
        unfold fNZ
        rw [List.findIdx?_eq_some_iff_getElem]
        have hi : i < r.length := (List.getElem?_eq_some_iff.mp he).1
        have hei : r[i] = e := (List.getElem?_eq_some_iff.mp he).2
        refine ⟨hi, by simp [hei, h1], fun j hj => ?_⟩
        have : r[j] ∈ r.take i := by
          rw [List.mem_take_iff_getElem]; exact ⟨j, by omega, rfl⟩
        simp [hz _ this]
      rw [this] at hk; exact hk
    · have h1 : e = 0 := by simpa using h
      repeat walk_at "z"
      refine ⟨rfl, fun e' h' => ?_, _, _, rfl⟩
      rw [take_snoc he] at h'
      rcases List.mem_append.mp h' with h' | h'
      · exact hz e' h'
      · rw [List.mem_singleton.mp h']; exact h1
  · rintro Γ1 M1 ⟨rfl, hz, o, o', rfl⟩
    repeat walk_at "z"
    have hll : (enumD (zI r)).length = r.length := by unfold enumD; rw [List.length_mapIdx, zI_len]
    rw [hll, List.take_length] at hz
    have : fNZ r = none := by
      unfold fNZ
      rw [List.findIdx?_eq_none_iff]
      intro x hx; simp [hz x hx]
    rw [this] at hk; exact hk

abbrev Sv := List (Nat × List Int)
def redE (s : Sv) (eq : List Int) : List Int := s.foldl (fun r po => clr r po.1 po.2) eq
def stepE (s : Sv) (eq : List Int) : Sv := match fNZ (redE s eq) with
  | none => s
  | some p => s.map (fun po => (po.1, clr po.2 p (redE s eq))) ++ [(p, redE s eq)]
def elim (eqs : List (List Int)) : Sv := eqs.foldl stepE []
abbrev poD (po : Nat × List Int) : D := .tup [.int (po.1 : Nat), .tup (zI po.2)]
def sD (s : Sv) : List D := s.map poD
abbrev rD (r : List Int) : D := .tup (zI r)
def SOk (n : Nat) (s : Sv) : Prop := ∀ po ∈ s, po.1 < n ∧ po.2.length = n ∧ Bd 4000 po.2
structure EOk (n : Nat) (eqs : List (List Int)) : Prop where
  hn : n ≤ sizeLine
  hl : eqs.length ≤ sizeLine
  len : ∀ e ∈ eqs, e.length = n
  ok : ∀ (i : Nat) (eq : List Int), eqs[i]? = some eq → SOk n (elim (eqs.take i)) ∧ ∀ j, j ≤ (elim (eqs.take i)).length → Bd 4000 (redE ((elim (eqs.take i)).take j) eq)
theorem prim_len (r : List Int) : (prim r).length = r.length := by unfold prim; split <;> simp
theorem clr_len {eq oth : List Int} {p : Nat} (h : eq.length = oth.length) : (clr eq p oth).length = eq.length := by
  unfold clr; split
  · rfl
  · rw [prim_len, List.length_zipWith]; omega
theorem redE_len {n : Nat} : ∀ (s : Sv) (eq : List Int), eq.length = n → (∀ po ∈ s, po.2.length = n) → (redE s eq).length = n
  | [], eq, h, _ => h
  | po :: s, eq, h, hs => redE_len s (clr eq po.1 po.2) (by rw [clr_len (by rw [h, hs po List.mem_cons_self])]; exact h) fun q hq => hs q (List.mem_cons_of_mem _ hq)
theorem elim_len (eqs : List (List Int)) : (elim eqs).length ≤ eqs.length := by
  have key : ∀ (eqs : List (List Int)) (s : Sv), (eqs.foldl stepE s).length ≤ s.length + eqs.length := by
    intro eqs
    induction eqs with
    | nil => intro s; exact Nat.le_refl _
    | cons e eqs ih =>
      intro s
      have h1 : (stepE s e).length ≤ s.length + 1 := by
        unfold stepE; split
        · omega
        · simp
      have := ih (stepE s e)
      simp only [List.foldl_cons, List.length_cons]; omega
  have := key eqs []
  simpa [elim] using this
theorem elim_snoc {eqs : List (List Int)} {e : List Int} : elim (eqs ++ [e]) = stepE (elim eqs) e := by simp [elim]
def S_eliminated : ZSp := fun ds M k => ∃ d eqs n, ds = [d] ∧ (d = .tup (eqs.map rD) ∨ d = .lst (eqs.map rD)) ∧ EOk n eqs ∧ k (.lst (sD (elim eqs))) M
theorem map_get {α : Type} {f : α → D} {l : List α} {i : Nat} {d : D} (h : (l.map f)[i]? = some d) : ∃ e, l[i]? = some e ∧ d = f e := by
  rw [List.getElem?_map] at h
  obtain ⟨e, he, rfl⟩ := Option.map_eq_some_iff.mp h
  exact ⟨e, he, rfl⟩
theorem fNZ_lt {r : List Int} {p : Nat} (h : fNZ r = some p) : p < r.length := by
  unfold fNZ at h
  exact (List.findIdx?_eq_some_iff_getElem.mp h).1
theorem own2 {K : Fg} {i j : Nat} {vs : List Nat} (hi : i ∈ vs) (hj : j ∈ vs) : Own (gTup K 2 (gCons (gName i) (gCons (gName j) gNil))) vs :=
  own_tup (owns_cons mono_name (mono_cons mono_name mono_nil) (own_name hi) (owns_cons mono_name mono_nil (own_name hj) owns_nil))
theorem z_eliminated {kk : D → Mem → Prop} {ds : List D} {M : Mem} (h : S_eliminated ds M kk) : ZS { K := K } (t_eliminated K S_cleared S_first_nonzero) (startD N_eliminated ds) M { nx := fun _ M' => kk .non M', rt := kk } := by
  obtain ⟨d, eqs, n, rfl, hd, E, hk⟩ := h
  unfold t_eliminated
  repeat walk_at "z"
  intro p
  repeat walk_at "z"
  refine zs_for (zi_seq ?_)
  repeat walk_at "z"
  refine ⟨_, sf_of hd, fun i Γ M' => ∃ x o2 o3 o4 o5 o6, Γ = [some d, some x, o2, o3, o4, o5, o6] ∧ ((x = .lst (sD (elim (eqs.take i))) ∧ M' = M) ∨ ∃ p, x = .at p ∧ M' = (p, .lst (sD (elim (eqs.take i)))) :: M), ⟨.at p, none, none, none, none, none, rfl, .inr ⟨p, rfl, rfl⟩⟩, ?_, ?_⟩
  · rintro i x Γ1 M1 hx ⟨y, o2, o3, o4, o5, o6, rfl, hy⟩
    obtain ⟨eq, he, rfl⟩ := map_get hx
    have heq : eq.length = n := E.len eq (List.mem_of_getElem? he)
    have hil : i < eqs.length := (List.getElem?_eq_some_iff.mp he).1
    obtain ⟨hS, hR⟩ := E.ok i eq he
    have hE : elim (eqs.take (i + 1)) = stepE (elim (eqs.take i)) eq := by rw [take_snoc he, elim_snoc]
    dsimp only
    rw [hE]
    have hSl : (elim (eqs.take i)).length < sizeLine := by
      have := elim_len (eqs.take i); rw [List.length_take] at this; have := E.hl; omega
    generalize elim (eqs.take i) = S at hy hS hR hSl ⊢
    have body : ∀ (o3 o4 o5 o6 : Option D), ZS { K := K } (tSeq (tAsg (tVar 2) (gName 3))
    (tSeq (tFor (iSeqZ K (tVar 1)) (gTup K 2 (gCons (gName 4) (gCons (gName 5) gNil))) (tAsg (tCB (zcall K S_cleared) (tCons (tVar 3) (tCons (tVar 4) (tCons (tVar 5) tNil)))) (gName 3)))
    (tSeq (tAsg (tCB (zcall K S_first_nonzero) (tCons (tVar 3) tNil)) (gName 6))
    (tIfS (tTest (tOp rNotNZ (tVar 6) (tC .non))) (tSeq (tAsg (mk (tLc (iSeqZ K (tVar 1)) (gTup K 2 (gCons (gName 4) (gCons (gName 5) gNil))) tYes (tTup (tCons (tVar 4) (tCons (tCB (zcall K S_cleared) (tCons (tVar 5) (tCons (tVar 6) (tCons (tVar 3) tNil)))) tNil))) [4, 5])) (gName 1))
    (tDrop (tBM K "list" rAppend (tVar 1) (tCons (tTup (tCons (tVar 6) (tCons (tVar 3) tNil))) tNil)))) tNext)))) [some d, some (.lst (sD S)), some (rD eq), o3, o4, o5, o6] M
        { nx := fun Γ M' => ∃ x o2 o3 o4 o5 o6, Γ = [some d, some x, o2, o3, o4, o5, o6] ∧ ((x = .lst (sD (stepE S eq)) ∧ M' = M) ∨ ∃ p, x = .at p ∧ M' = (p, .lst (sD (stepE S eq))) :: M), rt := kk } := by
      intro o3 o4 o5 o6
      repeat walk_at "z"
      refine zs_for (zi_seq ?_)
      repeat walk_at "z"
      refine ⟨_, .lst, fun j Γ M' => M' = M ∧ ∃ o4 o5, Γ = [some d, some (.lst (sD S)), some (rD eq), some (rD (redE (S.take j) eq)), o4, o5, o6], ⟨rfl, o4, o5, rfl⟩, ?_, ?_⟩
      · rintro j x Γ1 M1 hx ⟨rfl, o4, o5, rfl⟩
        obtain ⟨po, hpo, rfl⟩ := map_get hx
        obtain ⟨p, oth⟩ := po
        obtain ⟨h1, h2, h3⟩ := hS _ (List.mem_of_getElem? hpo)
        have hj : j < S.length := (List.getElem?_eq_some_iff.mp hpo).1
        have hrl : (redE (S.take j) eq).length = n := redE_len _ _ heq fun po h => (hS po (List.mem_of_mem_take h)).2.1
        repeat walk_at "z"
        refine zc_call (S := S_cleared) ⟨redE (S.take j) eq, p, oth, rfl, by rw [hrl]; exact h2.symm, by rw [hrl]; exact h1, by rw [hrl]; exact E.hn, hR j (by omega), h3, ?_⟩
        repeat walk_at "z"
        have : redE (S.take (j + 1)) eq = clr (redE (S.take j) eq) p oth := by
          rw [take_snoc hpo]; simp [redE]
        dsimp only
        rw [this]
        exact ⟨rfl, _, _, rfl⟩
      · rintro Γ1 M1 ⟨rfl, o4, o5, rfl⟩
        have hsl : (sD S).length = S.length := List.length_map ..
        rw [hsl, List.take_length]
        have hrl : (redE S eq).length = n := redE_len _ _ heq fun po h => (hS po h).2.1
        have hrb : Bd 4000 (redE S eq) := by have := hR S.length (Nat.le_refl _); rwa [List.take_length] at this
        repeat walk_at "z"
        refine zc_call (S := S_first_nonzero) ⟨redE S eq, rfl, ?_⟩
        repeat walk_at "z"
        unfold stepE
        refine ⟨fun h => ?_, fun h => ?_⟩
        · cases hp : fNZ (redE S eq) with
          | none => rw [hp] at h; simp [oD, Z.isNon] at h
          | some p =>
            have hpl := fNZ_lt hp
            dsimp only [oD]
            repeat walk_at "z"
            refine z_lcM (own2 (by decide) (by decide)) (zi_seq ?_)
            repeat walk_at "z"
            refine ⟨_, .lst, LcK.map (fun x => match x with | .tup [q, .tup o] => .tup [q, .tup (zI (clr (o.map fun e => match e with | .int i => i | _ => 0) p (redE S eq)))] | x => x) (by rw [hsl]; omega) ?_ ?_⟩
            · intro j x hx
              obtain ⟨⟨q, oth⟩, hpo, rfl⟩ := map_get hx
              obtain ⟨h1, h2, h3⟩ := hS _ (List.mem_of_getElem? hpo)
              repeat walk_at "z"
              refine zc_call (S := S_cleared) ⟨oth, p, redE S eq, rfl, by rw [hrl]; exact h2, by rw [h2, ← hrl]; exact hpl, by rw [h2]; exact E.hn, h3, hrb, ?_⟩
              repeat walk_at "z"
              refine ⟨?_, rfl⟩
              show _ = D.tup [.int (q : Nat), .tup (zI (clr ((zI oth).map _) p (redE S eq)))]
              unfold zI; rw [List.map_map]
              simp [Function.comp_def]
            · intro pp
              repeat walk_at "z"
              refine z_bm ?_
              repeat walk_at "z"
              refine ⟨⟨_, .at 0 rfl⟩, ?_⟩
              repeat walk_at "z"
              refine zm_append (i := 0) rfl (by simp only [List.length_map, sD]; exact hSl) ?_
              refine ⟨_, _, _, _, _, _, rfl, .inr ⟨pp, rfl, ?_⟩⟩
              show [_] ++ M1 = _
              simp only [List.set_cons_zero, List.singleton_append, List.cons.injEq, and_true, Prod.mk.injEq, true_and, MO.lst.injEq, sD, List.map_append, List.map_map, List.map_cons, List.map_nil]
              refine congrArg (· ++ _) (List.map_congr_left fun po hpo => ?_)
              simp [poD, zI, Function.comp_def]
        · cases hp : fNZ (redE S eq) with
          | some p => rw [hp] at h; simp [oD, Z.isNon] at h
          | none =>
            repeat walk_at "z"
            exact ⟨_, _, _, _, _, _, rfl, .inl ⟨rfl, rfl⟩⟩
    rcases hy with ⟨rfl, rfl⟩ | ⟨p, rfl, rfl⟩
    · with_reducible refine zg_name ?_
      exact (body o3 o4 o5 o6).imp (fun _ _ h => h) (fun _ _ h => h) (fun _ _ h => h.elim) (fun _ _ h => h.elim)
    · with_reducible refine zg_name ?_
      refine zs_frz (i := 0) (j := 1) rfl rfl ?_
      exact (body o3 o4 o5 o6).imp (fun _ _ h => h) (fun _ _ h => h) (fun _ _ h => h.elim) (fun _ _ h => h.elim)
  · rintro Γ1 M1 ⟨y, o2, o3, o4, o5, o6, rfl, hy⟩
    have hsl : (eqs.map rD).length = eqs.length := List.length_map ..
    rw [hsl, List.take_length] at hy
    repeat walk_at "z"
    refine z_fz2 ?_
    rcases hy with ⟨rfl, rfl⟩ | ⟨p, rfl, rfl⟩
    · repeat walk_at "z"
      exact .inr hk
    · repeat walk_at "z"
      exact .inl ⟨p, 0, _, rfl, rfl, hk⟩
def colsI (rows : List (List Int)) (n : Nat) : List (List Int) := (List.range n).map fun c => rows.map fun r => gI r c
theorem colsD_I {rows : List (List Int)} {n : Nat} (h : ∀ r ∈ rows, r.length = n) : colsD (rows.map zI) n = (colsI rows n).map zI := by
  unfold colsD colsI
  rw [List.map_map]
  refine List.map_congr_left fun c hc => ?_
  have hc : c < n := List.mem_range.mp hc
  show (rows.map zI).map _ = zI (rows.map _)
  unfold zI
  rw [List.map_map, List.map_map]
  refine List.map_congr_left fun r hr => ?_
  simp only [Function.comp_def, List.getElem?_map, gI_some (show c < r.length by rw [h r hr]; exact hc), Option.map_some, Option.getD_some]
theorem rngD_get {lo : Int} {n i : Nat} {d : D} (h : (rngD lo n)[i]? = some d) : i < n ∧ d = .int (lo + (i : Nat)) := by
  unfold rngD at h
  rw [List.getElem?_map] at h
  obtain ⟨e, he, rfl⟩ := Option.map_eq_some_iff.mp h
  obtain ⟨h1, h2⟩ := List.getElem?_eq_some_iff.mp he
  simp at h1 h2
  exact ⟨h1, by rw [← h2]⟩
theorem rngD_len {lo : Int} {n : Nat} : (rngD lo n).length = n := by simp [rngD]
theorem sD_len (S : Sv) : (sD S).length = S.length := List.length_map ..
end
end Qk02
set_option Elab.async false
set_option linter.all false
set_option maxRecDepth 100000
set_option maxHeartbeats 4000000
namespace Qk02
open PySem PySem.Spec PyProof.Rows L2 StX Z
local macro_rules | `(tactic| walk_at "z") => `(tactic| first
  | with_reducible refine zs_seq ?_
  | with_reducible refine zs_nil ?_
  | with_reducible refine zs_asg ?_
  | with_reducible refine zg_name ?_
  | (with_reducible refine z_var (d := ?zd) ?zh ?zk); (case zh => rfl)
  | with_reducible refine z_int ?_
  | with_reducible refine z_bl ?_
  | with_reducible refine z_non ?_
  | with_reducible refine z_ty ?_
  | with_reducible refine z_op ?_
  | with_reducible refine z_un ?_
  | with_reducible refine za_nil ?_
  | with_reducible refine za_cons ?_
  | with_reducible refine z_cb ?_
  | with_reducible refine z_tup ?_
  | with_reducible refine z_lst ?_
  | with_reducible refine z_lstM ?_
  | with_reducible refine zs_drop ?_
  | with_reducible refine zs_ret ?_
  | with_reducible refine zs_retN ?_
  | with_reducible refine zs_if ?_
  | with_reducible refine zt_test ?_
  | with_reducible refine zt_not ?_
  | with_reducible refine zt_truth ?_
  | with_reducible refine zr_addI ?_
  | with_reducible refine zr_sub ?_
  | with_reducible refine zr_lt ?_
  | with_reducible refine zr_le ?_
  | with_reducible refine zr_gt ?_
  | with_reducible refine zr_ge ?_
  | with_reducible refine zr_eqI ?_
  | with_reducible refine zr_neI ?_
  | with_reducible refine zr_isN ?_
  | with_reducible refine zr_notN ?_
  | with_reducible refine zu_neg ?_
  | with_reducible refine zc_abs ?_
  | with_reducible refine zc_gcd ?_
  | with_reducible refine zc_int ?_
  | with_reducible refine zc_max2 ?_
  | with_reducible refine zc_min2 ?_
  | with_reducible refine zg_tup rfl ?_
  | with_reducible refine zgs_cons ?_
  | with_reducible refine zgs_nil ?_
  | with_reducible refine ⟨_, rfl, ?_⟩
  | with_reducible refine zt_yes ?_
  | (with_reducible refine And.intro ?zl ?zk); (case zl => exact Nat.le_of_ble_eq_true rfl))

section
variable {K : Fg} {c : Cz}
def S_law_is_integer : ZSp := fun ds M k => ∃ i : Int, ds = [.int i] ∧ k (.bl true) M
theorem z_law_is_integer {kk : D → Mem → Prop} {ds : List D} {M : Mem} (h : S_law_is_integer ds M kk) : ZS { K := K } (t_law_is_integer K) (startD N_law_is_integer ds) M { nx := fun _ M' => kk .non M', rt := kk } := by
  obtain ⟨i, rfl, hk⟩ := h
  unfold t_law_is_integer
  repeat walk_at "z"
  refine z_andV ?_
  repeat walk_at "z"
  refine zc_isi (T := "int") rfl kit_ii ?_
  refine ⟨_, rfl, fun _ => ?_, fun h => by cases h⟩
  refine z_notV ?_
  repeat walk_at "z"
  refine zc_isi (T := "int") rfl kit_ib ?_
  exact ⟨_, rfl, hk⟩

def IsBox (M : Mem) (i : Nat) (a : Addr) : Prop := ∃ x y z : Int, M[i]? = some (a, .lst [.int x, .int y, .int z])
def BoxStep (M M' : Mem) (i : Nat) (a : Addr) : Prop := i < M.length ∧ ∃ x y z : Int, M' = M.set i (a, .lst [.int x, .int y, .int z])
theorem BoxStep.box {M M' : Mem} {i : Nat} {a : Addr} (h : BoxStep M M' i a) : IsBox M' i a := by
  obtain ⟨hi, x, y, z, rfl⟩ := h
  exact ⟨x, y, z, List.getElem?_set_self hi⟩
theorem IsBox.refl {M : Mem} {i : Nat} {a : Addr} (h : IsBox M i a) : BoxStep M M i a := by
  obtain ⟨x, y, z, e⟩ := h
  refine ⟨(List.getElem?_eq_some_iff.mp e).1, x, y, z, ?_⟩
  apply List.ext_getElem?
  intro n
  by_cases hn : i = n
  · subst hn; rw [List.getElem?_set_self (List.getElem?_eq_some_iff.mp e).1, e]
  · rw [List.getElem?_set_ne hn]
theorem BoxStep.trans {M M' M'' : Mem} {i : Nat} {a : Addr} (h : BoxStep M M' i a) (h' : BoxStep M' M'' i a) : BoxStep M M'' i a := by
  obtain ⟨hi, x, y, z, rfl⟩ := h
  obtain ⟨_, x', y', z', rfl⟩ := h'
  exact ⟨hi, x', y', z', by rw [List.set_set]⟩
theorem IsBox.cons {M : Mem} {i : Nat} {a : Addr} {m : Addr × MO} (h : IsBox M i a) : IsBox (m :: M) (i + 1) a := h
theorem BoxStep.uncons {M M' : Mem} {i : Nat} {a : Addr} {m : Addr × MO} (h : BoxStep (m :: M) M' (i + 1) a) : ∃ M1, M' = m :: M1 ∧ BoxStep M M1 i a := by
  obtain ⟨hi, x, y, z, rfl⟩ := h
  exact ⟨M.set i (a, .lst [.int x, .int y, .int z]), rfl, by simpa using hi, x, y, z, rfl⟩

def S_law_box : ZSp := fun ds M k => ∃ (ns : List Int) (j : Nat), ds = [.scr (ns.map D.int), .int j] ∧ j < 2 ^ 60 ∧ ns.length ≤ 63 ∧ ∀ p M', IsBox M' 0 p → M' = M'.head?.toList ++ M → k (.at p) M'
theorem z_law_box {kk : D → Mem → Prop} {ds : List D} {M : Mem} (h : S_law_box ds M kk) : ZS { K := K } (t_law_box K) (startD N_law_box ds) M { nx := fun _ M' => kk .non M', rt := kk } := by
  obtain ⟨ns, j, rfl, hj, hl, hk⟩ := h
  have hns : (ns.map D.int).length = ns.length := List.length_map ..
  unfold t_law_box
  repeat walk_at "z"
  refine zr_mulI (.left (by decide)) ?_
  repeat walk_at "z"
  refine z_sl ?_
  repeat walk_at "z"
  refine zo_none (zo_some ?_)
  repeat walk_at "z"
  refine zl_list .scr ?_
  repeat walk_at "z"
  rw [show cutD (ns.map D.int) none (some 1) = (ns.take 1).map D.int by cases ns <;> rfl]
  refine zc_sum .lst ?_
  repeat walk_at "z"
  refine zr_mod (by decide) ?_
  repeat walk_at "z"
  have mid : ∀ cell : Int, ZS { K := K } (tSeq (tIfS (tTest (tOp rLtZ (tVar 2) (tC (.int 0)))) (tAsg (tOp rSubZ (tC (.int 5)) (tOp rMulZ (tC (.int 2)) (tVar 2))) (gName 2)) tNext)
    (tSeq (tIfS (tTest (tOp rGeZ (tVar 2) (tOp rPowZ (tC (.int 10)) (tC (.int 18))))) (tRet (mk (tLst (tCons (tVar 2) (tCons (tOp rModZ (tCB (rIntZ) (tCons (tVar 2) tNil)) (tC (.int 2147483647))) (tCons (tC (.int 0)) tNil)))))) tNext)
    (tRet (mk (tLst (tCons (tC (.int 0)) (tCons (tOp rModZ (tCB (rIntZ) (tCons (tVar 2) tNil)) (tC (.int 2147483647))) (tCons (tC (.int 0)) tNil))))))))
      [some (.scr (ns.map D.int)), some (.int j), some (.int cell)] M { nx := fun _ M' => kk .non M', rt := kk } := by
    intro cell
    have fin : ∀ cell : Int, ZS { K := K } (tSeq (tIfS (tTest (tOp rGeZ (tVar 2) (tOp rPowZ (tC (.int 10)) (tC (.int 18))))) (tRet (mk (tLst (tCons (tVar 2) (tCons (tOp rModZ (tCB (rIntZ) (tCons (tVar 2) tNil)) (tC (.int 2147483647))) (tCons (tC (.int 0)) tNil)))))) tNext)
      (tRet (mk (tLst (tCons (tC (.int 0)) (tCons (tOp rModZ (tCB (rIntZ) (tCons (tVar 2) tNil)) (tC (.int 2147483647))) (tCons (tC (.int 0)) tNil)))))))
        [some (.scr (ns.map D.int)), some (.int j), some (.int cell)] M { nx := fun _ M' => kk .non M', rt := kk } := by
      intro cell
      repeat walk_at "z"
      refine zr_pow (by unfold CPow; decide) ?_
      repeat walk_at "z"
      refine ⟨fun h => ?_, fun h => ?_⟩
      · repeat walk_at "z"
        refine zr_mod (by decide) ?_
        repeat walk_at "z"
        intro p
        exact hk p _ ⟨_, _, _, rfl⟩ rfl
      · repeat walk_at "z"
        refine zr_mod (by decide) ?_
        repeat walk_at "z"
        intro p
        exact hk p _ ⟨_, _, _, rfl⟩ rfl
    repeat walk_at "z"
    refine ⟨fun h => ?_, fun h => ?_⟩
    · repeat walk_at "z"
      refine zr_mulI (.left (by decide)) ?_
      walk_at "z"
      walk_at "z"
      exact fin _
    · walk_at "z"
      exact fin _
  refine zc_len .scr ?_
  rw [hns]
  repeat walk_at "z"
  refine ⟨fun h => ?_, fun h => ?_⟩
  · have h1 : j < ns.length := by have := of_decide_eq_true h; omega
    repeat walk_at "z"
    refine zr_ix .scr (e := .int (gI ns j)) (zI_at h1) ?_
    walk_at "z"
    exact mid _
  · walk_at "z"
    exact mid _

def S_law_take : ZSp := fun ds M k => ∃ (i : Nat) (a : Addr) (many : Int), ds = [.at a, .int many] ∧ 0 < many ∧ many < 2 ^ 60 ∧ IsBox M i a ∧ ∀ v M', 0 ≤ v → v < many → BoxStep M M' i a → k (.int v) M'
theorem div_small {x y : Int} (h0 : 0 < y) (h : y < 2 ^ 60) : DivOk x y := ⟨by omega, PyProof.noPylong_of_log2 (Nat.lt_trans (log2_bd (m := 60) (by omega) (by decide)) (by decide))⟩
theorem z_law_take {kk : D → Mem → Prop} {ds : List D} {M : Mem} (h : S_law_take ds M kk) : ZS { K := K } (t_law_take K) (startD N_law_take ds) M { nx := fun _ M' => kk .non M', rt := kk } := by
  obtain ⟨i, a, many, rfl, h0, h1, ⟨x, y, z, hM⟩, hk⟩ := h
  have hi := (List.getElem?_eq_some_iff.mp hM).1
  unfold t_law_take
  repeat walk_at "z"
  refine zr_ix (.at i hM) (e := .int x) rfl ?_
  repeat walk_at "z"
  refine ⟨fun h => ?_, fun h => ?_⟩
  · repeat walk_at "z"
    refine zr_ix (.at i hM) (e := .int x) rfl ?_
    repeat walk_at "z"
    refine zr_mod h0 ?_
    repeat walk_at "z"
    refine zr_ix (.at i hM) (e := .int x) rfl ?_
    repeat walk_at "z"
    refine zr_div (div_small h0 h1) ?_
    refine zg_setL ?_
    repeat walk_at "z"
    refine ⟨a, i, _, _, 0, rfl, rfl, hM, rfl, ?_⟩
    repeat walk_at "z"
    exact hk _ _ (Int.emod_nonneg _ (by omega)) (Int.emod_lt_of_pos _ h0) ⟨hi, _, _, _, rfl⟩
  · repeat walk_at "z"
    refine zr_ix (.at i hM) (e := .int z) rfl ?_
    repeat walk_at "z"
    refine zg_setL ?_
    repeat walk_at "z"
    refine ⟨a, i, _, _, 2, rfl, rfl, hM, rfl, ?_⟩
    have hM2 : (M.set i (a, MO.lst [.int x, .int y, .int (z + 1)]))[i]? = some (a, .lst [.int x, .int y, .int (z + 1)]) := List.getElem?_set_self hi
    repeat walk_at "z"
    refine zr_ix (.at i hM2) (e := .int y) rfl ?_
    repeat walk_at "z"
    refine zr_mulI (.right (by decide)) ?_
    repeat walk_at "z"
    refine zr_ix (.at i hM2) (e := .int (z + 1)) rfl ?_
    repeat walk_at "z"
    refine zr_mulI (.right (by decide)) ?_
    repeat walk_at "z"
    refine zr_mod (by decide) ?_
    repeat walk_at "z"
    generalize hon : (y * 48271 + (z + 1) * 69621 + 12345) % 2147483647 = once
    have ho1 : 0 ≤ once := by rw [← hon]; exact Int.emod_nonneg _ (by decide)
    have ho2 : once < 2147483647 := by rw [← hon]; exact Int.emod_lt_of_pos _ (by decide)
    refine zr_mulI (.left (by omega)) ?_
    repeat walk_at "z"
    refine zr_ix (.at i hM2) (e := .int y) rfl ?_
    repeat walk_at "z"
    refine zr_mulI (.right (by decide)) ?_
    repeat walk_at "z"
    refine zr_ix (.at i hM2) (e := .int (z + 1)) rfl ?_
    repeat walk_at "z"
    refine zr_mulI (.right (by decide)) ?_
    repeat walk_at "z"
    refine zr_mod (by decide) ?_
    repeat walk_at "z"
    refine zr_mod h0 ?_
    exact hk _ _ (Int.emod_nonneg _ (by omega)) (Int.emod_lt_of_pos _ h0) ⟨hi, _, _, _, rfl⟩

def S_law_divisor : ZSp := fun ds M k => ∃ a b : Nat, ds = [.int a, .int b] ∧ k (.int (Nat.gcd a b : Nat)) M
theorem z_law_divisor {kk : D → Mem → Prop} {ds : List D} {M : Mem} (h : S_law_divisor ds M kk) : ZS { K := K } (t_law_divisor K) (startD N_law_divisor ds) M { nx := fun _ M' => kk .non M', rt := kk } := by
  obtain ⟨a, b, rfl, hk⟩ := h
  unfold t_law_divisor
  walk_at "z"
  refine zs_while (fun m Γ M' => M' = M ∧ ∃ (x y : Nat) (o : Option D), Γ = [some (.int (x : Nat)), some (.int (y : Nat)), o] ∧ m = y ∧ Nat.gcd x y = Nat.gcd a b) b ⟨rfl, a, b, none, rfl, rfl, rfl⟩ ?_
  rintro m Γ1 M1 ⟨rfl, x, y, o, rfl, rfl, hg⟩
  repeat walk_at "z"
  refine ⟨fun h => ?_, fun h => ?_⟩
  · have hy : 0 < m := by have : ¬ ((m : Nat) : Int) = 0 := by simpa using h
                          omega
    repeat walk_at "z"
    refine zr_mod (by omega) ?_
    repeat walk_at "z"
    refine ⟨x % m, Nat.mod_lt _ hy, rfl, m, x % m, _, rfl, rfl, ?_⟩
    rw [← hg, Nat.gcd_comm m, ← Nat.gcd_rec, Nat.gcd_comm]
  · have hy : m = 0 := by have : ((m : Nat) : Int) = 0 := by simpa using h
                          omega
    subst hy
    repeat walk_at "z"
    rw [Nat.gcd_zero_right] at hg
    rw [hg]; exact hk

abbrev lD (r : List Int) : D := .lst (zI r)
def S_law_lowered : ZSp := fun ds M k => ∃ r, ds = [lD r] ∧ r.length ≤ sizeLine ∧ Bd 9000 r ∧ k (lD (prim r)) M
theorem z_law_lowered {kk : D → Mem → Prop} {ds : List D} {M : Mem} (h : S_law_lowered ds M kk) : ZS { K := K } (t_law_lowered K S_law_divisor) (startD N_law_lowered ds) M { nx := fun _ M' => kk .non M', rt := kk } := by
  obtain ⟨r, rfl, hl, hb, hk⟩ := h
  have hll : (zI r).length = r.length := zI_len r
  unfold t_law_lowered
  repeat walk_at "z"
  refine zs_for (zi_seq ?_)
  repeat walk_at "z"
  refine ⟨_, .lst, fun i Γ M' => M' = M ∧ ∃ o, Γ = [some (lD r), some (.int (gcdL (r.take i) : Nat)), o], ⟨rfl, none, rfl⟩, ?_, ?_⟩
  · rintro i x Γ1 M1 hx ⟨rfl, o, rfl⟩
    obtain ⟨e, he, rfl⟩ := zI_get hx
    have hg : Nat.gcd (gcdL (r.take i)) e.natAbs = gcdL (r.take (i + 1)) := by rw [take_snoc he, gcdL_snoc]
    repeat walk_at "z"
    refine zc_call (S := S_law_divisor) ⟨_, _, rfl, ?_⟩
    rw [hg]
    repeat walk_at "z"
    exact ⟨rfl, _, rfl⟩
  · rintro Γ1 M1 ⟨rfl, o, rfl⟩
    rw [hll, List.take_length]
    repeat walk_at "z"
    refine ⟨fun h => ?_, fun h => ?_⟩
    · have h1 : gcdL r = 0 := by have := of_decide_eq_true h; omega
      repeat walk_at "z"
      rw [prim_zero h1] at hk; exact hk
    · have h1 : 0 < gcdL r := by have := of_decide_eq_false h; omega
      repeat walk_at "z"
      refine z_lc (own_name (by decide)) (zi_seq ?_)
      repeat walk_at "z"
      refine ⟨_, .lst, LcK.map (fun x => match x with | .int e => .int (e / (gcdL r : Int)) | x => x) (by rw [hll]; exact hl) ?_ ?_⟩
      · intro i x hx
        obtain ⟨e, he, rfl⟩ := zI_get hx
        have hm := List.mem_of_getElem? he
        repeat walk_at "z"
        exact zr_divP (by omega) (div_ok h1 (hb e hm) (gcdL_dvd r e hm)) ⟨rfl, rfl⟩
      · have : (zI r).map (fun x => match x with | .int e => .int (e / (gcdL r : Int)) | x => x) = zI (prim r) := by
          unfold prim zI; rw [if_neg (by omega), List.map_map, List.map_map]; rfl
        rw [this]; exact hk

def S_law_cleared : ZSp := fun ds M k => ∃ r lead col, ds = [lD r, lD lead, .int (col : Nat)] ∧ r.length = lead.length ∧ col < r.length ∧ r.length ≤ sizeLine ∧ Bd 4000 r ∧ Bd 4000 lead ∧ k (lD (clr r col lead)) M
theorem z_law_cleared {kk : D → Mem → Prop} {ds : List D} {M : Mem} (h : S_law_cleared ds M kk) : ZS { K := K } (t_law_cleared K S_law_lowered) (startD N_law_cleared ds) M { nx := fun _ M' => kk .non M', rt := kk } := by
  obtain ⟨r, lead, col, rfl, hl, hp, hsz, b1, b2, hk⟩ := h
  unfold t_law_cleared
  repeat walk_at "z"
  refine zr_ix .lst (zI_at hp) ?_
  repeat walk_at "z"
  refine ⟨fun h => ?_, fun h => ?_⟩
  · have h1 : gI r col = 0 := of_decide_eq_true h
    repeat walk_at "z"
    unfold clr at hk; rw [if_pos h1] at hk; exact hk
  · have h1 : ¬ gI r col = 0 := of_decide_eq_false h
    repeat walk_at "z"
    have hg := b1.get hp
    have ho := b2.get (i := col) (by omega)
    have h63 : r.length < 2 ^ 62 := Nat.lt_of_le_of_lt hsz (by decide)
    refine z_lc (own_name (by decide)) (zi_rng1 ?_)
    repeat walk_at "z"
    refine zc_len .lst ?_
    rw [zI_len]
    repeat walk_at "z"
    refine ⟨by omega, by omega, ?_⟩
    rw [Int.toNat_natCast]
    refine LcK.map (fun x => match x with | .int j => .int (gI r j.toNat * gI lead col - gI lead j.toNat * gI r col) | x => x) (by rw [rngD_len]; exact hsz) ?_ ?_
    · intro i x hx
      obtain ⟨hi, rfl⟩ := rngD_get hx
      rw [Int.zero_add]
      have hx1 := b1.get hi
      have hx2 := b2.get (i := i) (by omega)
      repeat walk_at "z"
      refine zr_ix .lst (zI_at hi) ?_
      repeat walk_at "z"
      refine zr_ix .lst (zI_at (by omega)) ?_
      refine zr_mulI (mul_ok hx1 ho) ?_
      repeat walk_at "z"
      refine zr_ix .lst (zI_at (by omega)) ?_
      repeat walk_at "z"
      refine zr_ix .lst (zI_at hp) ?_
      refine zr_mulI (mul_ok hx2 hg) ?_
      repeat walk_at "z"
      exact ⟨rfl, rfl⟩
    · have e1 : (rngD 0 r.length).map (fun x => match x with | .int j => .int (gI r j.toNat * gI lead col - gI lead j.toNat * gI r col) | x => x) = zI (List.zipWith (fun e o => gI lead col * e - gI r col * o) r lead) := by
        apply List.ext_getElem?
        intro n
        rcases Nat.lt_or_ge n r.length with hn | hn
        · have A : (rngD 0 r.length)[n]? = some (.int (n : Nat)) := by simp [rngD, hn]
          have B : (List.zipWith (fun e o => gI lead col * e - gI r col * o) r lead)[n]? = some (gI lead col * gI r n - gI r col * gI lead n) := by
            rw [List.getElem?_zipWith, gI_some hn, gI_some (show n < lead.length by omega)]
          unfold zI
          rw [List.getElem?_map, List.getElem?_map, A, B]
          show some (D.int (gI r ((n : Nat) : Int).toNat * _ - gI lead ((n : Nat) : Int).toNat * _)) = some (D.int _)
          rw [Int.toNat_natCast, Int.mul_comm (gI r n), Int.mul_comm (gI lead n)]
        · rw [List.getElem?_eq_none (by simp [rngD]; exact hn), List.getElem?_eq_none (by rw [zI_len]; simp; omega)]
      rw [e1]
      repeat walk_at "z"
      refine zc_call (S := S_law_lowered) ⟨_, rfl, by simp; omega, ?_, ?_⟩
      · intro z hz
        obtain ⟨i, hi⟩ := List.mem_iff_getElem?.mp hz
        obtain ⟨e, o, he, ho', rfl⟩ := List.getElem?_zipWith_eq_some.mp hi
        exact bd_mono (sub_bd (mul_bd ho (b1 e (List.mem_of_getElem? he))) (mul_bd hg (b2 o (List.mem_of_getElem? ho')))) (by decide)
      · unfold clr at hk; rw [if_neg h1] at hk; exact hk
end
end Qk02
set_option Elab.async false
set_option linter.all false
set_option maxRecDepth 100000
set_option maxHeartbeats 4000000
namespace Qk02
open PySem PySem.Spec PyProof.Rows L2 StX Z
local macro_rules | `(tactic| walk_at "z") => `(tactic| first
  | with_reducible refine zs_seq ?_
  | with_reducible refine zs_nil ?_
  | with_reducible refine zs_asg ?_
  | with_reducible refine zg_name ?_
  | (with_reducible refine z_var (d := ?zd) ?zh ?zk); (case zh => rfl)
  | with_reducible refine z_int ?_
  | with_reducible refine z_bl ?_
  | with_reducible refine z_non ?_
  | with_reducible refine z_ty ?_
  | with_reducible refine z_op ?_
  | with_reducible refine z_un ?_
  | with_reducible refine za_nil ?_
  | with_reducible refine za_cons ?_
  | with_reducible refine z_cb ?_
  | with_reducible refine z_tup ?_
  | with_reducible refine z_lst ?_
  | with_reducible refine z_lstM ?_
  | with_reducible refine zs_drop ?_
  | with_reducible refine zs_ret ?_
  | with_reducible refine zs_retN ?_
  | with_reducible refine zs_if ?_
  | with_reducible refine zt_test ?_
  | with_reducible refine zt_not ?_
  | with_reducible refine zt_truth ?_
  | with_reducible refine zr_addI ?_
  | with_reducible refine zr_sub ?_
  | with_reducible refine zr_lt ?_
  | with_reducible refine zr_le ?_
  | with_reducible refine zr_gt ?_
  | with_reducible refine zr_ge ?_
  | with_reducible refine zr_eqI ?_
  | with_reducible refine zr_neI ?_
  | with_reducible refine zr_isN ?_
  | with_reducible refine zr_notN ?_
  | with_reducible refine zu_neg ?_
  | with_reducible refine zc_abs ?_
  | with_reducible refine zc_gcd ?_
  | with_reducible refine zc_int ?_
  | with_reducible refine zc_max2 ?_
  | with_reducible refine zc_min2 ?_
  | with_reducible refine zg_tup rfl ?_
  | with_reducible refine zgs_cons ?_
  | with_reducible refine zgs_nil ?_
  | with_reducible refine ⟨_, rfl, ?_⟩
  | with_reducible refine zt_yes ?_
  | (with_reducible refine And.intro ?zl ?zk); (case zl => exact Nat.le_of_ble_eq_true rfl))

section
variable {K : Fg} {c : Cz}
abbrev Rows := List (List Int)
def nzAt (c : Nat) (r : List Int) : Bool := decide (gI r c ≠ 0)
def lstep (st : Rows × Nat) (c : Nat) : Rows × Nat := match st.1.findIdx? (nzAt c) with
  | none => st
  | some s => ((st.1.eraseIdx s).map fun r => clr r c (st.1[s]?.getD []), st.2 + 1)
def lrun (rows : Rows) (c : Nat) : Rows × Nat := (List.range c).foldl lstep (rows, 0)
structure LOk (w : Nat) (rows : Rows) : Prop where
  hw : w ≤ sizeLine
  hl : rows.length ≤ sizeLine
  len : ∀ r ∈ rows, r.length = w
  bd : ∀ c, c < w → ∀ r ∈ (lrun rows c).1, Bd 4000 r
theorem lstep_len {w : Nat} {st : Rows × Nat} {c : Nat} (h : ∀ r ∈ st.1, r.length = w) : (∀ r ∈ (lstep st c).1, r.length = w) ∧ (lstep st c).1.length ≤ st.1.length ∧ (lstep st c).2 ≤ st.2 + 1 := by
  unfold lstep
  cases e : st.1.findIdx? (nzAt c) with
  | none => exact ⟨h, Nat.le_refl _, Nat.le_succ _⟩
  | some s =>
    have hs : s < st.1.length := (List.findIdx?_eq_some_iff_getElem.mp e).1
    refine ⟨fun r hr => ?_, ?_, Nat.le_refl _⟩
    · obtain ⟨q, hq, rfl⟩ := List.mem_map.mp hr
      have hq' := h q (List.mem_of_mem_eraseIdx hq)
      rw [clr_len]; exact hq'
      rw [hq', List.getElem?_eq_getElem hs]
      exact (h _ (List.getElem_mem hs)).symm
    · rw [List.length_map, List.length_eraseIdx]; split <;> omega
theorem lrun_succ (rows : Rows) (c : Nat) : lrun rows (c + 1) = lstep (lrun rows c) c := by unfold lrun; rw [List.range_succ, List.foldl_append]; rfl
theorem lrun_len {w : Nat} {rows : Rows} (h : ∀ r ∈ rows, r.length = w) : ∀ c, (∀ r ∈ (lrun rows c).1, r.length = w) ∧ (lrun rows c).1.length ≤ rows.length
  | 0 => ⟨h, Nat.le_refl _⟩
  | c + 1 => by
    rw [lrun_succ]
    have ih := lrun_len h c
    have := lstep_len (c := c) ih.1
    exact ⟨this.1, Nat.le_trans this.2.1 ih.2⟩
def S_law_rank : ZSp := fun ds M k => ∃ d rows w, ds = [d, .int (w : Nat)] ∧ (d = .tup (rows.map rD) ∨ d = .lst (rows.map rD)) ∧ LOk w rows ∧ k (.int ((lrun rows w).2 : Nat)) M
def spotD : Option Nat → Int
  | none => -1
  | some s => (s : Nat)
theorem find_snoc {α : Type} {p : α → Bool} {l : List α} {i : Nat} {x : α} (h : l[i]? = some x) : (l.take (i + 1)).findIdx? p = match (l.take i).findIdx? p with
    | some s => some s
    | none => if p x then some i else none := by
  have hl : (l.take i).length = i := by
    have := (List.getElem?_eq_some_iff.mp h).1
    rw [List.length_take]; omega
  rw [take_snoc h, List.findIdx?_append, hl]
  cases e : (l.take i).findIdx? p with
  | some s => simp
  | none => by_cases hp : p x <;> simp [List.findIdx?_cons, hp]
theorem erase_snoc {α : Type} {l : List α} {i s : Nat} {x : α} (h : l[i]? = some x) : (l.take (i + 1)).eraseIdx s = (l.take i).eraseIdx s ++ (if i = s then [] else [x]) := by
  have hl : (l.take i).length = i := by
    have := (List.getElem?_eq_some_iff.mp h).1
    rw [List.length_take]; omega
  rw [take_snoc h, List.eraseIdx_append]
  rw [hl]
  split
  · rw [if_neg (by omega)]
  · rename_i hs
    rw [List.eraseIdx_of_length_le (l := l.take i) (by rw [hl]; omega)]
    by_cases e : i = s
    · subst e; simp
    · rw [if_neg e, List.eraseIdx_of_length_le (by simp; omega)]
theorem z_law_rank {kk : D → Mem → Prop} {ds : List D} {M : Mem} (h : S_law_rank ds M kk) : ZS { K := K } (t_law_rank K S_law_cleared) (startD N_law_rank ds) M { nx := fun _ M' => kk .non M', rt := kk } := by
  obtain ⟨d, rows, w, rfl, hd, O, hk⟩ := h
  unfold t_law_rank
  repeat walk_at "z"
  refine z_lc (own_name (by decide)) (zi_seq ?_)
  repeat walk_at "z"
  have hrl : (rows.map rD).length = rows.length := List.length_map ..
  have hw62 : w < 2 ^ 62 := Nat.lt_of_le_of_lt O.hw (by decide)
  refine ⟨_, sf_of hd, LcK.map (fun x => match x with | .tup r => .lst r | x => x) (by rw [hrl]; exact O.hl) ?_ ?_⟩
  · intro i x hx
    obtain ⟨r, hr, rfl⟩ := map_get hx
    repeat walk_at "z"
    refine zc_list .tup ⟨rfl, rfl⟩
  have hlr : (rows.map rD).map (fun x => match x with | .tup r => .lst r | x => x) = rows.map lD := by rw [List.map_map]; rfl
  rw [hlr]
  repeat walk_at "z"
  refine zs_for (zi_rng1 ?_)
  repeat walk_at "z"
  refine ⟨by omega, by omega, ?_⟩
  rw [Int.toNat_natCast]
  refine ⟨fun i Γ M' => M' = M ∧ ∃ o3 o5 o6 o7 o8 o9, Γ = [some d, some (.int (w : Nat)), some (.lst ((lrun rows i).1.map lD)), o3, some (.int ((lrun rows i).2 : Nat)), o5, o6, o7, o8, o9], ⟨rfl, none, none, none, none, none, none, rfl⟩, ?_, ?_⟩
  · rintro i x Γ1 M1 hx ⟨rfl, o3, o5, o6, o7, o8, o9, rfl⟩
    obtain ⟨hi, rfl⟩ := rngD_get hx
    rw [Int.zero_add]
    obtain ⟨hL1, hL2⟩ := lrun_len O.len i
    have hB := O.bd i hi
    dsimp only
    rw [lrun_succ]
    generalize lrun rows i = st at hL1 hL2 hB ⊢
    obtain ⟨L, n⟩ := st
    dsimp only at hL1 hL2 hB ⊢
    have hLl : (L.map lD).length = L.length := List.length_map ..
    have hL63 : L.length ≤ sizeLine := Nat.le_trans hL2 O.hl
    have hL62 : L.length < 2 ^ 62 := Nat.lt_of_le_of_lt hL63 (by decide)
    repeat walk_at "z"
    refine zs_for (zi_rng1 ?_)
    repeat walk_at "z"
    refine zc_len .lst ?_
    rw [hLl]
    repeat walk_at "z"
    refine ⟨by omega, by omega, ?_⟩
    rw [Int.toNat_natCast]
    refine ⟨fun j Γ M' => M' = M1 ∧ ∃ o7, Γ = [some d, some (.int (w : Nat)), some (.lst (L.map lD)), o3, some (.int (n : Nat)), some (.int (i : Nat)), some (.int (spotD ((L.take j).findIdx? (nzAt i)))), o7, o8, o9], ⟨rfl, o7, rfl⟩, ?_, ?_⟩
    · rintro j x Γ1 M2 hx ⟨rfl, o7, rfl⟩
      obtain ⟨hj, rfl⟩ := rngD_get hx
      rw [Int.zero_add]
      have hLj : L[j]? = some L[j] := List.getElem?_eq_getElem hj
      have hjl : (L[j]).length = w := hL1 _ (List.getElem_mem hj)
      dsimp only
      rw [find_snoc hLj]
      walk_at "z"
      walk_at "z"
      refine zt_and ?_
      repeat walk_at "z"
      cases hf : (L.take j).findIdx? (nzAt i) with
      | some s =>
        refine ⟨fun h => ?_, fun h => ?_⟩
        · exfalso; have := of_decide_eq_true h; simp [spotD] at this; omega
        · refine ⟨fun h => absurd h (by decide), fun _ => ?_⟩
          repeat walk_at "z"
          exact ⟨rfl, _, rfl⟩
      | none =>
        refine ⟨fun h => ?_, fun h => ?_⟩
        · repeat walk_at "z"
          refine zr_ix .lst (e := lD L[j]) (by rw [atI_nat (by rw [hLl]; exact hj), List.getElem?_map, hLj]; rfl) ?_
          repeat walk_at "z"
          refine zr_ix .lst (zI_at (by rw [hjl]; exact hi)) ?_
          repeat walk_at "z"
          refine ⟨fun h => ?_, fun h => ?_⟩
          · have hp : nzAt i L[j] = true := by unfold nzAt; simpa using h
            rw [if_pos hp]
            repeat walk_at "z"
            exact ⟨rfl, _, rfl⟩
          · have hp : ¬ nzAt i L[j] = true := by unfold nzAt; simpa using h
            rw [if_neg hp]
            repeat walk_at "z"
            exact ⟨rfl, _, rfl⟩
        · exfalso; have := of_decide_eq_false h; simp [spotD] at this
    · rintro Γ1 M2 ⟨rfl, o7, rfl⟩
      rw [rngD_len, List.take_length]
      unfold lstep
      dsimp only
      repeat walk_at "z"
      cases hf : L.findIdx? (nzAt i) with
      | none =>
        refine ⟨fun h => ?_, fun h => ?_⟩
        · exfalso; have := of_decide_eq_true h; simp [spotD] at this
        · repeat walk_at "z"
          exact ⟨rfl, _, _, _, _, _, _, rfl⟩
      | some s =>
        have hs : s < L.length := (List.findIdx?_eq_some_iff_getElem.mp hf).1
        have hLs : L[s]? = some L[s] := List.getElem?_eq_getElem hs
        have hsl : (L[s]).length = w := hL1 _ (List.getElem_mem hs)
        refine ⟨fun h => ?_, fun h => ?_⟩
        · repeat walk_at "z"
          refine zr_ix .lst (e := lD L[s]) (by show L2.atI _ ((s : Nat) : Int) = _; rw [atI_nat (by rw [hLl]; exact hs), List.getElem?_map, hLs]; rfl) ?_
          repeat walk_at "z"
          refine z_lc (own_name (by decide)) (zi_rng1 ?_)
          repeat walk_at "z"
          refine zc_len .lst ?_
          rw [hLl]
          repeat walk_at "z"
          refine ⟨by omega, by omega, ?_⟩
          rw [Int.toNat_natCast]
          refine ⟨by rw [rngD_len]; exact hL63, fun j acc M' => M' = M2 ∧ acc = ((L.take j).eraseIdx s).map lD, ⟨rfl, by simp⟩, ?_, ?_⟩
          · rintro j x acc M3 hx hacc ⟨rfl, rfl⟩
            obtain ⟨hj, rfl⟩ := rngD_get hx
            rw [Int.zero_add]
            have hLj : L[j]? = some L[j] := List.getElem?_eq_getElem hj
            dsimp only
            rw [erase_snoc hLj]
            repeat walk_at "z"
            refine ⟨fun h => ?_, fun h => ?_⟩
            · have hjs : ¬ j = s := by have h2 : ¬ ((j : Nat) : Int) = spotD (some s) := by simpa using h
                                       change ¬ ((j : Nat) : Int) = (s : Nat) at h2
                                       omega
              repeat walk_at "z"
              refine zr_ix .lst (e := lD L[j]) (by rw [atI_nat (by rw [hLl]; exact hj), List.getElem?_map, hLj]; rfl) ?_
              rw [if_neg hjs]
              exact ⟨rfl, by simp⟩
            · have hjs : j = s := by have h2 : ((j : Nat) : Int) = spotD (some s) := by simpa using h
                                     change ((j : Nat) : Int) = (s : Nat) at h2
                                     omega
              rw [if_pos hjs]
              exact ⟨rfl, by simp⟩
          · rintro acc M3 ⟨rfl, rfl⟩
            rw [rngD_len, List.take_length]
            repeat walk_at "z"
            refine z_lc (own_name (by decide)) (zi_seq ?_)
            repeat walk_at "z"
            have hel : (L.eraseIdx s).length ≤ sizeLine := by rw [List.length_eraseIdx]; split <;> omega
            refine ⟨_, .lst, LcK.map (fun x => match x with | .lst r => lD (clr (r.map fun e => match e with | .int i => i | _ => 0) i L[s]) | x => x) (by rw [List.length_map]; exact hel) ?_ ?_⟩
            · intro j x hx
              obtain ⟨r, hr, rfl⟩ := map_get hx
              have hm := List.mem_of_mem_eraseIdx (List.mem_of_getElem? hr)
              have hrl := hL1 r hm
              repeat walk_at "z"
              refine zc_call (S := S_law_cleared) ⟨r, L[s], i, rfl, by rw [hrl, hsl], by rw [hrl]; exact hi, by rw [hrl]; exact O.hw, hB r hm, hB _ (List.getElem_mem hs), ?_⟩
              refine ⟨?_, rfl⟩
              show _ = lD (clr ((zI r).map _) i L[s])
              unfold zI; rw [List.map_map]
              simp [Function.comp_def]
            · repeat walk_at "z"
              have e2 : ((L.eraseIdx s).map lD).map (fun x => match x with | .lst r => lD (clr (r.map fun e => match e with | .int i => i | _ => 0) i L[s]) | x => x) = ((L.eraseIdx s).map fun r => clr r i (L[s]?.getD [])).map lD := by
                rw [List.map_map, List.map_map]
                refine List.map_congr_left fun r hr => ?_
                show lD (clr ((zI r).map _) i L[s]) = lD (clr r i (L[s]?.getD []))
                unfold zI; rw [List.map_map, hLs]
                simp [Function.comp_def]
              rw [e2]
              exact ⟨rfl, _, _, _, _, _, _, rfl⟩
        · exfalso; have := of_decide_eq_false h; simp [spotD] at this
  · rintro Γ1 M1 ⟨rfl, o3, o5, o6, o7, o8, o9, rfl⟩
    rw [rngD_len]
    repeat walk_at "z"
    exact hk
end
end Qk02
set_option Elab.async false
set_option linter.all false
set_option maxRecDepth 100000
set_option maxHeartbeats 4000000
namespace Qk02
open PySem PySem.Spec PyProof.Rows L2 StX Z
local macro_rules | `(tactic| walk_at "z") => `(tactic| first
  | with_reducible refine zs_seq ?_
  | with_reducible refine zs_nil ?_
  | with_reducible refine zs_asg ?_
  | with_reducible refine zg_name ?_
  | (with_reducible refine z_var (d := ?zd) ?zh ?zk); (case zh => rfl)
  | with_reducible refine z_int ?_
  | with_reducible refine z_bl ?_
  | with_reducible refine z_non ?_
  | with_reducible refine z_ty ?_
  | with_reducible refine z_op ?_
  | with_reducible refine z_un ?_
  | with_reducible refine za_nil ?_
  | with_reducible refine za_cons ?_
  | with_reducible refine z_cb ?_
  | with_reducible refine z_tup ?_
  | with_reducible refine z_lst ?_
  | with_reducible refine z_lstM ?_
  | with_reducible refine zs_drop ?_
  | with_reducible refine zs_ret ?_
  | with_reducible refine zs_retN ?_
  | with_reducible refine zs_if ?_
  | with_reducible refine zt_test ?_
  | with_reducible refine zt_not ?_
  | with_reducible refine zt_truth ?_
  | with_reducible refine zr_addI ?_
  | with_reducible refine zr_sub ?_
  | with_reducible refine zr_lt ?_
  | with_reducible refine zr_le ?_
  | with_reducible refine zr_gt ?_
  | with_reducible refine zr_ge ?_
  | with_reducible refine zr_eqI ?_
  | with_reducible refine zr_neI ?_
  | with_reducible refine zr_isN ?_
  | with_reducible refine zr_notN ?_
  | with_reducible refine zu_neg ?_
  | with_reducible refine zc_abs ?_
  | with_reducible refine zc_gcd ?_
  | with_reducible refine zc_int ?_
  | with_reducible refine zc_max2 ?_
  | with_reducible refine zc_min2 ?_
  | with_reducible refine zg_tup rfl ?_
  | with_reducible refine zgs_cons ?_
  | with_reducible refine zgs_nil ?_
  | with_reducible refine ⟨_, rfl, ?_⟩
  | with_reducible refine zt_yes ?_
  | (with_reducible refine And.intro ?zl ?zk); (case zl => exact Nat.le_of_ble_eq_true rfl))

section
variable {K : Fg} {c : Cz}
def RowG (w S : Nat) (r : List Int) : Prop := r.length = w ∧ ∀ e ∈ r, e.natAbs ≤ S
def S_law_entry : ZSp := fun ds M k => ∃ (i : Nat) (a : Addr) (size : Nat), ds = [.at a, .int (size : Nat)] ∧ size < 2 ^ 40 ∧ IsBox M i a ∧ ∀ v M', v.natAbs ≤ size → BoxStep M M' i a → k (.int v) M'
theorem z_law_entry {kk : D → Mem → Prop} {ds : List D} {M : Mem} (h : S_law_entry ds M kk) : ZS { K := K } (t_law_entry K S_law_take) (startD N_law_entry ds) M { nx := fun _ M' => kk .non M', rt := kk } := by
  obtain ⟨i, a, size, rfl, hs, hb, hk⟩ := h
  unfold t_law_entry
  repeat walk_at "z"
  refine zr_mulI (.left (by decide)) ?_
  repeat walk_at "z"
  refine zc_call (S := S_law_take) ⟨i, a, _, rfl, by omega, by omega, hb, fun v M' h0 h1 hst => ?_⟩
  repeat walk_at "z"
  exact hk _ _ (by omega) hst

def S_law_row : ZSp := fun ds M k => ∃ (i : Nat) (a : Addr) (w size : Nat), ds = [.at a, .int (w : Nat), .int (size : Nat)] ∧ w ≤ 1000 ∧ size < 2 ^ 40 ∧ IsBox M i a ∧ ∀ r M', RowG w size r → BoxStep M M' i a → k (lD r) M'
theorem zI_snoc {r : List Int} {e : Int} : zI r ++ [D.int e] = zI (r ++ [e]) := by unfold zI; simp
theorem z_law_row {kk : D → Mem → Prop} {ds : List D} {M : Mem} (h : S_law_row ds M kk) : ZS { K := K } (t_law_row K S_law_entry) (startD N_law_row ds) M { nx := fun _ M' => kk .non M', rt := kk } := by
  obtain ⟨i, a, w, size, rfl, hw, hs, hb, hk⟩ := h
  unfold t_law_row
  repeat walk_at "z"
  refine z_lc (own_name (by decide)) (zi_rng1 ?_)
  repeat walk_at "z"
  refine ⟨by omega, by omega, ?_⟩
  rw [Int.toNat_natCast]
  refine ⟨by rw [rngD_len]; exact Nat.le_trans hw (by decide), fun j acc M' => BoxStep M M' i a ∧ ∃ r, acc = zI r ∧ RowG j size r, ⟨hb.refl, [], rfl, rfl, fun e h => by cases h⟩, ?_, ?_⟩
  · rintro j x acc M1 hx hacc ⟨hst, r, rfl, hr1, hr2⟩
    obtain ⟨hj, rfl⟩ := rngD_get hx
    repeat walk_at "z"
    refine ⟨fun _ => ?_, fun h => absurd h (by decide)⟩
    repeat walk_at "z"
    refine zc_call (S := S_law_entry) ⟨i, a, size, rfl, hs, hst.box, fun v M' hv hst' => ?_⟩
    refine ⟨hst.trans hst', r ++ [v], zI_snoc, by rw [List.length_append, hr1]; rfl, fun e he => ?_⟩
    rcases List.mem_append.mp he with he | he
    · exact hr2 e he
    · rw [List.mem_singleton.mp he]; exact hv
  · rintro acc M1 ⟨hst, r, rfl, hr⟩
    rw [rngD_len] at hr
    exact hk r M1 hr hst

def S_law_factor : ZSp := fun ds M k => ∃ (i : Nat) (a : Addr), ds = [.at a] ∧ IsBox M i a ∧ ∀ f M', f.natAbs ≤ 9 → BoxStep M M' i a → k (.int f) M'
theorem z_law_factor {kk : D → Mem → Prop} {ds : List D} {M : Mem} (h : S_law_factor ds M kk) : ZS { K := K } (t_law_factor K S_law_take) (startD N_law_factor ds) M { nx := fun _ M' => kk .non M', rt := kk } := by
  obtain ⟨i, a, rfl, hb, hk⟩ := h
  unfold t_law_factor
  repeat walk_at "z"
  refine zc_call (S := S_law_take) ⟨i, a, _, rfl, by decide, by decide, hb, fun v M1 h0 h1 st1 => ?_⟩
  repeat walk_at "z"
  refine ⟨fun h => ?_, fun h => ?_⟩
  · repeat walk_at "z"
    exact hk _ _ (by decide) st1
  · repeat walk_at "z"
    refine zc_call (S := S_law_take) ⟨i, a, _, rfl, by decide, by decide, st1.box, fun v2 M2 h02 h12 st2 => ?_⟩
    repeat walk_at "z"
    refine zc_call (S := S_law_take) ⟨i, a, _, rfl, by decide, by decide, st2.box, fun v3 M3 h03 h13 st3 => ?_⟩
    repeat walk_at "z"
    refine ⟨fun h => ?_, fun h => ?_⟩
    · repeat walk_at "z"
      exact hk _ _ (by omega) ((st1.trans st2).trans st3)
    · repeat walk_at "z"
      exact hk _ _ (by omega) ((st1.trans st2).trans st3)

def sumC (base : List (List Int)) (ws : List Int) (cc : Nat) : Int := ((List.range base.length).map fun k => gI ws k * gI (base[k]?.getD []) cc).sum
end
end Qk02
set_option Elab.async false
set_option linter.all false
set_option maxRecDepth 100000
set_option maxHeartbeats 4000000
namespace Qk02
open PySem PySem.Spec PyProof.Rows L2 StX Z
local macro_rules | `(tactic| walk_at "z") => `(tactic| first
  | with_reducible refine zs_seq ?_
  | with_reducible refine zs_nil ?_
  | with_reducible refine zs_asg ?_
  | with_reducible refine zg_name ?_
  | (with_reducible refine z_var (d := ?zd) ?zh ?zk); (case zh => rfl)
  | with_reducible refine z_int ?_
  | with_reducible refine z_bl ?_
  | with_reducible refine z_non ?_
  | with_reducible refine z_ty ?_
  | with_reducible refine z_op ?_
  | with_reducible refine z_un ?_
  | with_reducible refine za_nil ?_
  | with_reducible refine za_cons ?_
  | with_reducible refine z_cb ?_
  | with_reducible refine z_tup ?_
  | with_reducible refine z_lst ?_
  | with_reducible refine z_lstM ?_
  | with_reducible refine zs_drop ?_
  | with_reducible refine zs_ret ?_
  | with_reducible refine zs_retN ?_
  | with_reducible refine zs_if ?_
  | with_reducible refine zt_test ?_
  | with_reducible refine zt_not ?_
  | with_reducible refine zt_truth ?_
  | with_reducible refine zr_addI ?_
  | with_reducible refine zr_sub ?_
  | with_reducible refine zr_lt ?_
  | with_reducible refine zr_le ?_
  | with_reducible refine zr_gt ?_
  | with_reducible refine zr_ge ?_
  | with_reducible refine zr_eqI ?_
  | with_reducible refine zr_neI ?_
  | with_reducible refine zr_isN ?_
  | with_reducible refine zr_notN ?_
  | with_reducible refine zu_neg ?_
  | with_reducible refine zc_abs ?_
  | with_reducible refine zc_gcd ?_
  | with_reducible refine zc_int ?_
  | with_reducible refine zc_max2 ?_
  | with_reducible refine zc_min2 ?_
  | with_reducible refine zg_tup rfl ?_
  | with_reducible refine zgs_cons ?_
  | with_reducible refine zgs_nil ?_
  | with_reducible refine ⟨_, rfl, ?_⟩
  | with_reducible refine zt_yes ?_
  | (with_reducible refine And.intro ?zl ?zk); (case zl => exact Nat.le_of_ble_eq_true rfl))

section
variable {K : Fg} {c : Cz}
/-- a fraction in lowest terms that is t / b -/
structure Frac (t b T B : Int) : Prop where
  eq : T * b = B * t
  pos : 1 ≤ B
  gcd : Nat.gcd T.natAbs B.natAbs = 1
  tb : T.natAbs ≤ t.natAbs
  bb : B.natAbs ≤ b.natAbs
def S_fraction : ZSp := fun ds M k => ∃ t b : Int, ds = [.int t, .int b] ∧ b ≠ 0 ∧ b.natAbs < 2 ^ 9000 ∧ ∀ T B : Int, Frac t b T B → k (.tup [.int T, .int B]) M
theorem frac_of {t b g d : Int} (hg : g = (Nat.gcd t.natAbs b.natAbs : Nat)) (hb : b ≠ 0) (hd : (b < 0 ∧ d = -g) ∨ (¬ b < 0 ∧ d = g)) : Frac t b (t.fdiv d) (b.fdiv d) ∧ d ≠ 0 ∧ d.natAbs ≤ b.natAbs := by
  have hgp : 0 < Nat.gcd t.natAbs b.natAbs := Nat.gcd_pos_of_pos_right _ (by omega)
  have hd0 : d ≠ 0 := by omega
  have hdn : d.natAbs = Nat.gcd t.natAbs b.natAbs := by omega
  have d1 : d ∣ t := Int.natAbs_dvd_natAbs.mp (by rw [hdn]; exact Nat.gcd_dvd_left _ _)
  have d2 : d ∣ b := Int.natAbs_dvd_natAbs.mp (by rw [hdn]; exact Nat.gcd_dvd_right _ _)
  have hle : d.natAbs ≤ b.natAbs := Nat.le_of_dvd (by omega) (Int.natAbs_dvd_natAbs.mpr d2)
  refine ⟨?_, hd0, hle⟩
  rw [Int.fdiv_eq_ediv_of_dvd d1, Int.fdiv_eq_ediv_of_dvd d2]
  obtain ⟨T, rfl⟩ := d1
  obtain ⟨B, rfl⟩ := d2
  rw [Int.mul_ediv_cancel_left _ hd0, Int.mul_ediv_cancel_left _ hd0]
  have hcop : Nat.gcd T.natAbs B.natAbs = 1 := by
    rw [Int.natAbs_mul, Int.natAbs_mul, Nat.gcd_mul_left] at hdn
    have hp : 0 < d.natAbs := by omega
    exact Nat.eq_of_mul_eq_mul_left hp (by omega)
  refine ⟨?_, ?_, hcop, ?_, ?_⟩
  · rw [Int.mul_comm d B, ← Int.mul_assoc, Int.mul_comm T B, Int.mul_assoc, Int.mul_comm T d]
  · rcases hd with ⟨h1, h2⟩ | ⟨h1, h2⟩
    · have hneg : d < 0 := by omega
      have : 0 < B := by
        rcases Int.lt_trichotomy B 0 with h | h | h
        · have := Int.mul_pos_of_neg_of_neg hneg h; omega
        · subst h; simp at hb
        · exact h
      omega
    · have hpos : 0 < d := by omega
      have : 0 < B := by
        rcases Int.lt_trichotomy B 0 with h | h | h
        · have := Int.mul_neg_of_pos_of_neg hpos h; omega
        · subst h; simp at hb
        · exact h
      omega
  · rw [Int.natAbs_mul]; exact Nat.le_mul_of_pos_left _ (by omega)
  · rw [Int.natAbs_mul]; exact Nat.le_mul_of_pos_left _ (by omega)
theorem z_fraction {kk : D → Mem → Prop} {ds : List D} {M : Mem} (h : S_fraction ds M kk) : ZS { K := K } (t_fraction K) (startD N_fraction ds) M { nx := fun _ M' => kk .non M', rt := kk } := by
  obtain ⟨t, b, rfl, hb, hbb, hk⟩ := h
  unfold t_fraction
  repeat walk_at "z"
  refine ⟨fun h => absurd (of_decide_eq_true h) hb, fun _ => ?_⟩
  repeat walk_at "z"
  have fin : ∀ d : Int, (b < 0 ∧ d = -((Nat.gcd t.natAbs b.natAbs : Nat) : Int)) ∨ (¬ b < 0 ∧ d = ((Nat.gcd t.natAbs b.natAbs : Nat) : Int)) → ZS { K := K } (tRet (tTup (tCons (tOp rDivZ (tVar 0) (tVar 2)) (tCons (tOp rDivZ (tVar 1) (tVar 2)) tNil)))) [some (.int t), some (.int b), some (.int d)] M { nx := fun _ M' => kk .non M', rt := kk } := by
    intro d hd
    obtain ⟨F, h0, hle⟩ := frac_of rfl hb hd
    have hpl : ∀ x, Builtin.divisionGoesByPylong x d = false := fun x => PyProof.noPylong_of_log2 (log2_bd (Nat.lt_of_le_of_lt hle hbb) (by decide))
    repeat walk_at "z"
    refine zr_div ⟨h0, hpl _⟩ ?_
    repeat walk_at "z"
    refine zr_div ⟨h0, hpl _⟩ ?_
    repeat walk_at "z"
    exact hk _ _ F
  refine ⟨fun h => ?_, fun h => ?_⟩
  · have h1 : b < 0 := of_decide_eq_true h
    iterate 5 walk_at "z"
    exact fin _ (.inl ⟨h1, rfl⟩)
  · have h1 : ¬ b < 0 := of_decide_eq_false h
    walk_at "z"
    exact fin _ (.inr ⟨h1, rfl⟩)
end
end Qk02
set_option Elab.async false
set_option linter.all false
set_option maxRecDepth 100000
set_option maxHeartbeats 4000000
namespace Qk02
open PySem PySem.Spec PyProof.Rows L2 StX Z
local macro_rules | `(tactic| walk_at "z") => `(tactic| first
  | with_reducible refine zs_seq ?_
  | with_reducible refine zs_nil ?_
  | with_reducible refine zs_asg ?_
  | with_reducible refine zg_name ?_
  | (with_reducible refine z_var (d := ?zd) ?zh ?zk); (case zh => rfl)
  | with_reducible refine z_int ?_
  | with_reducible refine z_bl ?_
  | with_reducible refine z_non ?_
  | with_reducible refine z_ty ?_
  | with_reducible refine z_op ?_
  | with_reducible refine z_un ?_
  | with_reducible refine za_nil ?_
  | with_reducible refine za_cons ?_
  | with_reducible refine z_cb ?_
  | with_reducible refine z_tup ?_
  | with_reducible refine z_lst ?_
  | with_reducible refine z_lstM ?_
  | with_reducible refine zs_drop ?_
  | with_reducible refine zs_ret ?_
  | with_reducible refine zs_retN ?_
  | with_reducible refine zs_if ?_
  | with_reducible refine zt_test ?_
  | with_reducible refine zt_not ?_
  | with_reducible refine zt_truth ?_
  | with_reducible refine zr_addI ?_
  | with_reducible refine zr_sub ?_
  | with_reducible refine zr_lt ?_
  | with_reducible refine zr_le ?_
  | with_reducible refine zr_gt ?_
  | with_reducible refine zr_ge ?_
  | with_reducible refine zr_eqI ?_
  | with_reducible refine zr_neI ?_
  | with_reducible refine zr_isN ?_
  | with_reducible refine zr_notN ?_
  | with_reducible refine zu_neg ?_
  | with_reducible refine zc_abs ?_
  | with_reducible refine zc_gcd ?_
  | with_reducible refine zc_int ?_
  | with_reducible refine zc_max2 ?_
  | with_reducible refine zc_min2 ?_
  | with_reducible refine zg_tup rfl ?_
  | with_reducible refine zgs_cons ?_
  | with_reducible refine zgs_nil ?_
  | with_reducible refine ⟨_, rfl, ?_⟩
  | with_reducible refine zt_yes ?_
  | (with_reducible refine And.intro ?zl ?zk); (case zl => exact Nat.le_of_ble_eq_true rfl))

section
variable {K : Fg} {c : Cz}
theorem sorted_uniq : ∀ {l m : List Int}, l.Perm m → l.Pairwise (· ≤ ·) → m.Pairwise (· ≤ ·) → l = m
  | [], m, h, _, _ => (List.perm_nil.mp h.symm).symm
  | x :: l, m, h, h1, h2 => by
    cases m with
    | nil => exact absurd (List.perm_nil.mp h) (by simp)
    | cons y m =>
      obtain ⟨a1, a2⟩ := List.pairwise_cons.mp h1
      obtain ⟨b1, b2⟩ := List.pairwise_cons.mp h2
      have hxy : x = y := by
        have hx : x ∈ y :: m := h.mem_iff.mp List.mem_cons_self
        have hy : y ∈ x :: l := h.mem_iff.mpr List.mem_cons_self
        have e1 : y ≤ x := by rcases List.mem_cons.mp hx with e | e; omega; exact b1 x e
        have e2 : x ≤ y := by rcases List.mem_cons.mp hy with e | e; omega; exact a1 y e
        omega
      subst hxy
      rw [sorted_uniq (List.Perm.cons_inv h) a2 b2]
theorem eqvAll_int : ∀ (l m : List Int), PyData.eqvAll (l.map .int) (m.map .int) = decide (l = m)
  | [], [] => rfl
  | [], y :: m => rfl
  | x :: l, [] => rfl
  | x :: l, y :: m => by
    show (x == y && PyData.eqvAll (l.map .int) (m.map .int)) = _
    rw [eqvAll_int l m]
    by_cases h : x = y
    · subst h; by_cases h2 : l = m <;> simp [h2]
    · simp [h]
theorem range_sorted (n : Nat) : ((List.range n).map fun i => ((i : Nat) : Int)).Pairwise (· ≤ ·) := by
  rw [List.pairwise_map]
  exact List.pairwise_lt_range.imp fun h => by omega
def S_is_regular : ZSp := fun ds M k => ∃ (S : Sv) (size : Nat), ds = [.lst (sD S), .int (size : Nat)] ∧ S.length ≤ 1000 ∧ size ≤ 1000 ∧ ∀ b : Bool, (b = true ↔ (S.map fun po => ((po.1 : Nat) : Int)).Perm ((List.range size).map fun i => ((i : Nat) : Int))) → k (.bl b) M
theorem z_is_regular {kk : D → Mem → Prop} {ds : List D} {M : Mem} (h : S_is_regular ds M kk) : ZS { K := K } (t_is_regular K) (startD N_is_regular ds) M { nx := fun _ M' => kk .non M', rt := kk } := by
  obtain ⟨S, size, rfl, hS, hn, hk⟩ := h
  unfold t_is_regular
  repeat walk_at "z"
  refine z_lc (own2 (by decide) (by decide)) (zi_seq ?_)
  repeat walk_at "z"
  refine ⟨_, .lst, LcK.map (fun x => match x with | .tup [q, _] => q | x => x) (by rw [sD_len]; exact Nat.le_trans hS (by decide)) ?_ ?_⟩
  · intro j x hx
    obtain ⟨⟨q, oth⟩, hpo, rfl⟩ := map_get hx
    repeat walk_at "z"
    exact ⟨rfl, rfl⟩
  have hpv : (sD S).map (fun x => match x with | .tup [q, _] => q | x => x) = (S.map fun po => ((po.1 : Nat) : Int)).map D.int := by
    unfold sD; rw [List.map_map, List.map_map]; rfl
  rw [hpv]
  repeat walk_at "z"
  refine zc_sortI .lst fun ns' hp hs => ?_
  refine z_listRg1 ?_
  repeat walk_at "z"
  refine ⟨⟨by omega, by omega, by omega, by omega⟩, ?_⟩
  rw [Int.toNat_natCast]
  have hr : rngD 0 size = ((List.range size).map fun i => ((i : Nat) : Int)).map D.int := by
    unfold rngD; rw [List.map_map]; exact List.map_congr_left fun i _ => by simp
  rw [hr]
  refine zr_eqD (.lst (PdAll.ints ns')) (.lst (PdAll.ints _)) ?_ ?_ ?_
  · show (_ && _) = true
    rw [Bool.and_eq_true]
    exact ⟨canLay_map (fun _ => rfl) _, decide_eq_true (by show PyData.depthAll _ + 1 ≤ 64; have := depth_map (g := PyData.int) (n := 0) (fun _ => Nat.le_refl 0) ns'; omega)⟩
  · show (_ && _) = true
    rw [Bool.and_eq_true]
    exact ⟨canLay_map (fun _ => rfl) _, decide_eq_true (by show PyData.depthAll _ + 1 ≤ 64; have := depth_map (g := PyData.int) (n := 0) (fun _ => Nat.le_refl 0) ((List.range size).map fun i => ((i : Nat) : Int)); omega)⟩
  · show kk (.bl (PyData.eqvAll (ns'.map .int) (((List.range size).map fun i => ((i : Nat) : Int)).map .int))) M
    rw [eqvAll_int]
    refine hk _ ⟨fun h => ?_, fun h => ?_⟩
    · have := of_decide_eq_true h
      rw [← this]; exact hp.symm
    · exact decide_eq_true (sorted_uniq (hp.trans h) hs (range_sorted size))

/-- what combination tells -/
def CombOk (S : Sv) (size : Nat) (told : List (Int × Int)) : Prop := told.length = size ∧ ∀ k, k < size → ∃ po ∈ S, po.1 = k ∧ ∃ TB, told[k]? = some TB ∧ Frac (gI po.2 size) (gI po.2 k) TB.1 TB.2
abbrev frD (TB : Int × Int) : D := .tup [.int TB.1, .int TB.2]
def S_combination : ZSp := fun ds M k => ∃ (rows : List (List Int)) (target : List Int) (w : Nat), ds = [.tup (rows.map rD), rD target] ∧ rows.length + 1 ≤ 1000 ∧ w ≤ 1000 ∧ (∀ r ∈ rows ++ [target], r.length = w) ∧ EOk (rows.length + 1) (colsI (rows ++ [target]) w) ∧
  (elim (colsI (rows ++ [target]) w)).length ≤ 1000 ∧ (∀ po ∈ elim (colsI (rows ++ [target]) w), po.2.length = rows.length + 1 ∧ gI po.2 po.1 ≠ 0 ∧ Bd 4000 po.2) ∧ ((elim (colsI (rows ++ [target]) w)).map fun po => ((po.1 : Nat) : Int)).Nodup ∧
  (((elim (colsI (rows ++ [target]) w)).map fun po => ((po.1 : Nat) : Int)).Perm ((List.range rows.length).map fun i => ((i : Nat) : Int)) → ∀ told, CombOk (elim (colsI (rows ++ [target]) w)) rows.length told → k (.tup (told.map frD)) M) ∧
  (¬ ((elim (colsI (rows ++ [target]) w)).map fun po => ((po.1 : Nat) : Int)).Perm ((List.range rows.length).map fun i => ((i : Nat) : Int)) → k .non M)
theorem z_combination {kk : D → Mem → Prop} {ds : List D} {M : Mem} (h : S_combination ds M kk) : ZS { K := K } (t_combination K S_eliminated S_is_regular S_fraction) (startD N_combination ds) M { nx := fun _ M' => kk .non M', rt := kk } := by
  obtain ⟨rows, target, w, rfl, hsz, hw, len, E, hSl, hS, hnd, hyes, hno⟩ := h
  have hrl : (rows.map rD).length = rows.length := List.length_map ..
  unfold t_combination
  repeat walk_at "z"
  refine zc_len .tup ?_
  rw [hrl]
  repeat walk_at "z"
  refine z_zipL ?_
  refine za_star ?_
  repeat walk_at "z"
  refine ⟨_, .tup, ?_⟩
  repeat walk_at "z"
  have hds : rows.map rD ++ [D.tup (zI target)] = ((rows ++ [target]).map zI).map D.tup := by rw [List.map_map, List.map_append]; rfl
  refine ⟨(rows ++ [target]).map zI, w, by rw [hds]; exact Sqs.tups _, ?_, ?_, by rw [List.length_map, List.length_append]; exact Nat.le_trans hsz (by decide), Nat.le_trans hw (by decide), ?_⟩
  · intro r hr
    obtain ⟨r', h1, rfl⟩ := List.mem_map.mp hr
    rw [zI_len]; exact len r' h1
  · intro e
    have := congrArg List.length e
    simp at this
  repeat walk_at "z"
  have hcols : (colsD ((rows ++ [target]).map zI) w).map D.tup = (colsI (rows ++ [target]) w).map rD := by rw [colsD_I len, List.map_map]; rfl
  refine zc_call (S := S_eliminated) ⟨_, colsI (rows ++ [target]) w, rows.length + 1, rfl, .inr (by rw [hcols]), E, ?_⟩
  clear hcols E hds
  generalize elim (colsI (rows ++ [target]) w) = S at hSl hS hnd hyes hno ⊢
  repeat walk_at "z"
  refine zc_call (S := S_is_regular) ⟨S, rows.length, rfl, hSl, by omega, fun b hb => ?_⟩
  refine ⟨_, .bl b, ?_⟩
  cases b with
  | false =>
    refine ⟨fun _ => ?_, fun h => absurd h (by decide)⟩
    repeat walk_at "z"
    exact hno fun h => absurd (hb.mpr h) (by decide)
  | true =>
    have hperm := hb.mp rfl
    have hy := hyes hperm
    refine ⟨fun h => absurd h (by decide), fun _ => ?_⟩
    repeat walk_at "z"
    refine z_lc (own2 (by decide) (by decide)) (zi_seq ?_)
    repeat walk_at "z"
    have hsD : sD S = (S.map fun po => (((po.1 : Nat) : Int), zI po.2)).map irD := by unfold sD; rw [List.map_map]; rfl
    rw [hsD]
    refine zc_sortF .lst (by rw [List.map_map]; exact hnd) fun ps' hp' hs' => ?_
    have hkeys : ps'.map (·.1) = (List.range rows.length).map fun i => ((i : Nat) : Int) := by
      refine sorted_uniq ?_ (List.pairwise_map.mpr hs') (range_sorted _)
      have := hp'.map (·.1)
      rw [List.map_map] at this
      exact this.trans hperm
    have hpl : ps'.length = rows.length := by have := congrArg List.length hkeys; simpa using this
    have hpk : ∀ (k : Nat) (p : Int × List D), ps'[k]? = some p → ∃ po ∈ S, po.1 = k ∧ p = (((k : Nat) : Int), zI po.2) := fun k p hk => by
      have hkl : k < rows.length := by rw [← hpl]; exact (List.getElem?_eq_some_iff.mp hk).1
      have h1 : (ps'.map (·.1))[k]? = some p.1 := by rw [List.getElem?_map, hk]; rfl
      rw [hkeys, List.getElem?_map, List.getElem?_range hkl] at h1
      have h2 : p ∈ S.map fun po => (((po.1 : Nat) : Int), zI po.2) := hp'.mem_iff.mp (List.mem_of_getElem? hk)
      obtain ⟨po, hpo, rfl⟩ := List.mem_map.mp h2
      have h3 : ((k : Nat) : Int) = ((po.1 : Nat) : Int) := by simpa using h1
      exact ⟨po, hpo, by omega, by rw [h3]⟩
    refine ⟨_, .lst, ⟨by rw [List.length_map, hpl]; exact Nat.le_trans (Nat.le_of_succ_le hsz) (by decide), fun j acc M' => M' = M ∧ ∃ told : List (Int × Int), acc = told.map frD ∧ told.length = j ∧ ∀ k, k < j → ∃ po ∈ S, po.1 = k ∧ ∃ TB, told[k]? = some TB ∧ Frac (gI po.2 rows.length) (gI po.2 k) TB.1 TB.2, ⟨rfl, [], rfl, rfl, fun k hk => absurd hk (Nat.not_lt_zero k)⟩, ?_, ?_⟩⟩
    · rintro j x acc M1 hx hacc ⟨rfl, told, rfl, htl, hto⟩
      obtain ⟨p, hp, rfl⟩ := map_get hx
      obtain ⟨po, hpo, hpe, rfl⟩ := hpk j p hp
      obtain ⟨s1, s2, s3⟩ := hS po hpo
      have hjl : j < rows.length := by rw [← hpl]; exact (List.getElem?_eq_some_iff.mp hp).1
      have b1 := s3.get (i := j) (by omega)
      rw [hpe] at s2
      repeat walk_at "z"
      refine ⟨fun _ => ?_, fun h => absurd h (by decide)⟩
      repeat walk_at "z"
      refine zr_ix .tup (zI_at (i := rows.length) (by omega)) ?_
      repeat walk_at "z"
      refine zr_ix .tup (zI_at (i := j) (by omega)) ?_
      repeat walk_at "z"
      refine zc_call (S := S_fraction) ⟨_, _, rfl, s2, bd_mono b1 (by decide), fun T B F => ?_⟩
      refine ⟨rfl, told ++ [(T, B)], by simp, by rw [List.length_append, htl]; rfl, fun k hk => ?_⟩
      by_cases e : k = j
      · subst e
        exact ⟨po, hpo, hpe, (T, B), by rw [List.getElem?_append_right (by omega), htl]; simp, F⟩
      · obtain ⟨po', h1, h2, TB, h3, h4⟩ := hto k (by omega)
        exact ⟨po', h1, h2, TB, by rw [List.getElem?_append_left (by omega)]; exact h3, h4⟩
    · rintro acc M1 ⟨rfl, told, rfl, htl, hto⟩
      rw [List.length_map, hpl] at htl hto
      repeat walk_at "z"
      refine zc_tuple .lst ?_
      exact hy told ⟨htl, hto⟩
end
end Qk02
set_option Elab.async false
set_option linter.all false
set_option maxRecDepth 100000
set_option maxHeartbeats 4000000
namespace Qk02
open PySem PySem.Spec PyProof.Rows L2 StX Z
local macro_rules | `(tactic| walk_at "z") => `(tactic| first
  | with_reducible refine zs_seq ?_
  | with_reducible refine zs_nil ?_
  | with_reducible refine zs_asg ?_
  | with_reducible refine zg_name ?_
  | (with_reducible refine z_var (d := ?zd) ?zh ?zk); (case zh => rfl)
  | with_reducible refine z_int ?_
  | with_reducible refine z_bl ?_
  | with_reducible refine z_non ?_
  | with_reducible refine z_ty ?_
  | with_reducible refine z_op ?_
  | with_reducible refine z_un ?_
  | with_reducible refine za_nil ?_
  | with_reducible refine za_cons ?_
  | with_reducible refine z_cb ?_
  | with_reducible refine z_tup ?_
  | with_reducible refine z_lst ?_
  | with_reducible refine z_lstM ?_
  | with_reducible refine zs_drop ?_
  | with_reducible refine zs_ret ?_
  | with_reducible refine zs_retN ?_
  | with_reducible refine zs_if ?_
  | with_reducible refine zt_test ?_
  | with_reducible refine zt_not ?_
  | with_reducible refine zt_truth ?_
  | with_reducible refine zr_addI ?_
  | with_reducible refine zr_sub ?_
  | with_reducible refine zr_lt ?_
  | with_reducible refine zr_le ?_
  | with_reducible refine zr_gt ?_
  | with_reducible refine zr_ge ?_
  | with_reducible refine zr_eqI ?_
  | with_reducible refine zr_neI ?_
  | with_reducible refine zr_isN ?_
  | with_reducible refine zr_notN ?_
  | with_reducible refine zu_neg ?_
  | with_reducible refine zc_abs ?_
  | with_reducible refine zc_gcd ?_
  | with_reducible refine zc_int ?_
  | with_reducible refine zc_max2 ?_
  | with_reducible refine zc_min2 ?_
  | with_reducible refine zg_tup rfl ?_
  | with_reducible refine zgs_cons ?_
  | with_reducible refine zgs_nil ?_
  | with_reducible refine ⟨_, rfl, ?_⟩
  | with_reducible refine zt_yes ?_
  | (with_reducible refine And.intro ?zl ?zk); (case zl => exact Nat.le_of_ble_eq_true rfl))
section
variable {K : Fg} {c : Cz}
def S_law_is_fraction : ZSp := fun ds M k => ∃ T B : Int, ds = [frD (T, B)] ∧ 1 ≤ B ∧ Nat.gcd T.natAbs B.natAbs = 1 ∧ k (.bl true) M
theorem z_law_is_fraction {kk : D → Mem → Prop} {ds : List D} {M : Mem} (h : S_law_is_fraction ds M kk) : ZS { K := K } (t_law_is_fraction K S_law_is_integer S_law_divisor) (startD N_law_is_fraction ds) M { nx := fun _ M' => kk .non M', rt := kk } := by
  obtain ⟨T, B, rfl, hB, hg, hk⟩ := h
  unfold t_law_is_fraction
  walk_at "z"
  walk_at "z"
  refine zt_or ?_
  repeat walk_at "z"
  refine zc_isi (T := "tuple") rfl kit_tt ?_
  refine ⟨_, .bl true, fun h => absurd h (by decide), fun _ => ?_⟩
  repeat walk_at "z"
  refine zc_len .tup ?_
  repeat walk_at "z"
  refine ⟨fun h => by exfalso; simp at h, fun _ => ?_⟩
  walk_at "z"
  walk_at "z"
  walk_at "z"
  refine zt_or ?_
  repeat walk_at "z"
  refine zr_ix .tup (e := .int T) rfl ?_
  repeat walk_at "z"
  refine zc_call (S := S_law_is_integer) ⟨T, rfl, ?_⟩
  refine ⟨_, .bl true, fun h => absurd h (by decide), fun _ => ?_⟩
  repeat walk_at "z"
  refine zr_ix .tup (e := .int B) rfl ?_
  repeat walk_at "z"
  refine zc_call (S := S_law_is_integer) ⟨B, rfl, ?_⟩
  refine ⟨_, .bl true, fun h => absurd h (by decide), fun _ => ?_⟩
  repeat walk_at "z"
  refine z_andV ?_
  repeat walk_at "z"
  refine zr_ix .tup (e := .int B) rfl ?_
  repeat walk_at "z"
  refine ⟨fun _ => ?_, fun h => absurd (of_decide_eq_false h) (by omega)⟩
  repeat walk_at "z"
  refine zr_ix .tup (e := .int T) rfl ?_
  repeat walk_at "z"
  refine zr_ix .tup (e := .int B) rfl ?_
  repeat walk_at "z"
  refine zc_call (S := S_law_divisor) ⟨T.natAbs, B.natAbs, by rw [show ((B.natAbs : Nat) : Int) = B by omega], ?_⟩
  rw [hg]
  repeat walk_at "z"
  exact hk

structure PG (w S : Nat) (base : List (List Int)) : Prop where
  w8 : w ≤ 8
  n9 : base.length ≤ w + 1
  rows : ∀ r ∈ base, RowG w S r
def S_law_problem : ZSp := fun ds M k => ∃ (i : Nat) (a : Addr), ds = [.at a] ∧ IsBox M i a ∧ ∀ (base : List (List Int)) (w : Nat) (target : List Int) (M' : Mem), PG w 100 base → RowG w 20000 target → BoxStep M M' i a → k (.tup [.lst (base.map lD), .int (w : Nat), lD target]) M'
theorem z_law_problem {kk : D → Mem → Prop} {ds : List D} {M : Mem} (h : S_law_problem ds M kk) : ZS { K := K } (t_law_problem K S_law_take S_law_row S_law_entry) (startD N_law_problem ds) M { nx := fun _ M' => kk .non M', rt := kk } := by
  obtain ⟨i, a, rfl, hb, hk⟩ := h
  unfold t_law_problem
  have main : ∀ (w : Nat) (M1 : Mem), w ≤ 8 → BoxStep M M1 i a → ZS { K := K } (tSeq (tAsg (tCB rMax2Z (tCons (tCB (zcall K S_law_take) (tCons (tVar 0) (tCons (tOp (rAddZ K) (tVar 1) (tC (.int 2))) tNil))) (tCons (tCB (zcall K S_law_take) (tCons (tVar 0) (tCons (tOp (rAddZ K) (tVar 1) (tC (.int 1))) tNil))) tNil))) (gName 2))
    (tSeq (tAsg (tOp (rIxZ K) (tLst (tCons (tC (.int 1)) (tCons (tC (.int 2)) (tCons (tC (.int 9)) (tCons (tC (.int 100)) tNil))))) (tCB (zcall K S_law_take) (tCons (tVar 0) (tCons (tC (.int 4)) tNil)))) (gName 3))
    (tSeq (tAsg (tLc (iRng1 (tCons (tVar 2) tNil)) (gName 5) tYes (tCB (zcall K S_law_row) (tCons (tVar 0) (tCons (tVar 1) (tCons (tVar 3) tNil)))) [5]) (gName 4))
    (tSeq (tAsg (tC (.int 9)) (gName 6))
    (tSeq (tIfS (tTest (tOp (rEqZ K) (tVar 3) (tC (.int 100)))) (tAsg (tC (.int 1)) (gName 6)) tNext)
    (tSeq (tAsg (tLc (iRng1 (tCons (tVar 1) tNil)) (gName 5) tYes (tC (.int 0)) [5]) (gName 7))
    (tSeq (tFor (iSeqZ K (tVar 4)) (gName 8) (tSeq (tAsg (tCB (zcall K S_law_entry) (tCons (tVar 0) (tCons (tVar 6) tNil))) (gName 9))
    (tAsg (tLc (iRng1 (tCons (tVar 1) tNil)) (gName 5) tYes (tOp (rAddZ K) (tOp (rIxZ K) (tVar 7) (tVar 5)) (tOp rMulZ (tVar 9) (tOp (rIxZ K) (tVar 8) (tVar 5)))) [5]) (gName 7))))
    (tRet (tTup (tCons (tVar 4) (tCons (tVar 1) (tCons (tVar 7) tNil)))))))))))) [some (.at a), some (.int (w : Nat)), none, none, none, none, none, none, none, none] M1 { nx := fun _ M' => kk .non M', rt := kk } := by
    intro w M1 hw st1
    repeat walk_at "z"
    refine zc_call (S := S_law_take) ⟨i, a, _, rfl, by omega, by omega, st1.box, fun v M2 h0 h1 st2 => ?_⟩
    repeat walk_at "z"
    refine zc_call (S := S_law_take) ⟨i, a, _, rfl, by omega, by omega, st2.box, fun v' M3 h0' h1' st3 => ?_⟩
    have st13 := (st1.trans st2).trans st3
    repeat walk_at "z"
    obtain ⟨mn, hmn, hm1⟩ : ∃ mn : Nat, max v v' = (mn : Nat) ∧ mn ≤ w + 1 := ⟨(max v v').toNat, by omega, by omega⟩
    refine zc_call (S := S_law_take) ⟨i, a, _, rfl, by decide, by decide, st3.box, fun v4 M4 h04 h14 st4 => ?_⟩
    have st14 := st13.trans st4
    obtain ⟨S, hS1, hS2, hSe⟩ : ∃ S : Nat, 1 ≤ S ∧ S ≤ 100 ∧ L2.atI [D.int 1, D.int 2, D.int 9, D.int 100] v4 = some (.int (S : Nat)) := by
      have : v4 = 0 ∨ v4 = 1 ∨ v4 = 2 ∨ v4 = 3 := by omega
      rcases this with rfl | rfl | rfl | rfl
      · exact ⟨1, by decide, by decide, rfl⟩
      · exact ⟨2, by decide, by decide, rfl⟩
      · exact ⟨9, by decide, by decide, rfl⟩
      · exact ⟨100, by decide, by decide, rfl⟩
    refine zr_ix .lst hSe ?_
    walk_at "z"
    rw [hmn]
    repeat walk_at "z"
    refine z_lc (own_name (by decide)) (zi_rng1 ?_)
    repeat walk_at "z"
    refine ⟨by omega, by omega, ?_⟩
    rw [Int.toNat_natCast]
    refine ⟨by rw [rngD_len]; exact Nat.le_trans hm1 (Nat.le_trans (Nat.succ_le_succ hw) (by decide)), fun j acc M' => BoxStep M M' i a ∧ ∃ rows : List (List Int), acc = rows.map lD ∧ rows.length = j ∧ ∀ r ∈ rows, RowG w S r, ⟨st14, [], rfl, rfl, fun r hr => by cases hr⟩, ?_, ?_⟩
    · rintro j x acc M5 hx hacc ⟨st5, rows, rfl, hrl, hrg⟩
      obtain ⟨hj, rfl⟩ := rngD_get hx
      repeat walk_at "z"
      refine ⟨fun _ => ?_, fun h => absurd h (by decide)⟩
      repeat walk_at "z"
      refine zc_call (S := S_law_row) ⟨i, a, w, S, rfl, by omega, by omega, st5.box, fun r M6 hr st6 => ?_⟩
      refine ⟨st5.trans st6, rows ++ [r], by simp, by rw [List.length_append, hrl]; rfl, fun q hq => ?_⟩
      rcases List.mem_append.mp hq with hq | hq
      · exact hrg q hq
      · rw [List.mem_singleton.mp hq]; exact hr
    rintro acc M5 ⟨st5, base, rfl, hbl, hbg⟩
    rw [rngD_len] at hbl
    have fin : ∀ rc : Nat, 1 ≤ rc → rc ≤ 9 → ZS { K := K } (tSeq (tAsg (tLc (iRng1 (tCons (tVar 1) tNil)) (gName 5) tYes (tC (.int 0)) [5]) (gName 7))
      (tSeq (tFor (iSeqZ K (tVar 4)) (gName 8) (tSeq (tAsg (tCB (zcall K S_law_entry) (tCons (tVar 0) (tCons (tVar 6) tNil))) (gName 9))
      (tAsg (tLc (iRng1 (tCons (tVar 1) tNil)) (gName 5) tYes (tOp (rAddZ K) (tOp (rIxZ K) (tVar 7) (tVar 5)) (tOp rMulZ (tVar 9) (tOp (rIxZ K) (tVar 8) (tVar 5)))) [5]) (gName 7))))
      (tRet (tTup (tCons (tVar 4) (tCons (tVar 1) (tCons (tVar 7) tNil))))))) [some (.at a), some (.int (w : Nat)), some (.int (mn : Nat)), some (.int (S : Nat)), some (.lst (base.map lD)), none, some (.int (rc : Nat)), none, none, none] M5 { nx := fun _ M' => kk .non M', rt := kk } := by
      intro rc hr1 hr9
      repeat walk_at "z"
      refine z_lc (own_name (by decide)) (zi_rng1 ?_)
      repeat walk_at "z"
      refine ⟨by omega, by omega, ?_⟩
      rw [Int.toNat_natCast]
      refine LcK.map (fun _ => .int 0) (by rw [rngD_len]; exact Nat.le_trans hw (by decide)) ?_ ?_
      · intro n x hx
        repeat walk_at "z"
        exact ⟨rfl, rfl⟩
      have e1 : (rngD 0 w).map (fun _ => D.int 0) = zI (List.replicate w 0) := by
        unfold zI; rw [List.map_replicate, List.map_const', rngD_len]
      rw [e1]
      repeat walk_at "z"
      refine zs_for (zi_seq ?_)
      repeat walk_at "z"
      have hbl2 : (base.map lD).length = base.length := List.length_map ..
      refine ⟨_, .lst, fun j Γ M' => ∃ t o5 o8 o9, BoxStep M M' i a ∧ RowG w (j * 900) t ∧ Γ = [some (.at a), some (.int (w : Nat)), some (.int (mn : Nat)), some (.int (S : Nat)), some (.lst (base.map lD)), o5, some (.int (rc : Nat)), some (lD t), o8, o9], ⟨_, none, none, none, st5, ⟨List.length_replicate, fun e he => by rw [List.mem_replicate] at he; rw [he.2]; exact Nat.zero_le _⟩, rfl⟩, ?_, ?_⟩
      · rintro j x Γ1 M6 hx ⟨t, o5, o8, o9, st6, ht, rfl⟩
        obtain ⟨r, hr, rfl⟩ := map_get hx
        have hrg := hbg r (List.mem_of_getElem? hr)
        repeat walk_at "z"
        refine zc_call (S := S_law_entry) ⟨i, a, rc, rfl, by omega, st6.box, fun wt M7 hwt st7 => ?_⟩
        repeat walk_at "z"
        refine z_lc (own_name (by decide)) (zi_rng1 ?_)
        repeat walk_at "z"
        refine ⟨by omega, by omega, ?_⟩
        rw [Int.toNat_natCast]
        refine LcK.map (fun x => match x with | .int z => .int (gI t z.toNat + wt * gI r z.toNat) | x => x) (by rw [rngD_len]; exact Nat.le_trans hw (by decide)) ?_ ?_
        · intro n x hx
          obtain ⟨hn, rfl⟩ := rngD_get hx
          rw [Int.zero_add]
          repeat walk_at "z"
          refine zr_ix .lst (zI_at (i := n) (by rw [ht.1]; exact hn)) ?_
          repeat walk_at "z"
          refine zr_ix .lst (zI_at (i := n) (by rw [hrg.1]; exact hn)) ?_
          refine zr_mulI (.left (Nat.lt_of_le_of_lt hwt (Nat.lt_of_le_of_lt hr9 (by decide)))) ?_
          repeat walk_at "z"
          exact ⟨rfl, rfl⟩
        have e2 : (rngD 0 w).map (fun x => match x with | .int z => .int (gI t z.toNat + wt * gI r z.toNat) | x => x) = zI ((List.range w).map fun n => gI t n + wt * gI r n) := by
          unfold rngD zI; rw [List.map_map, List.map_map]
          exact List.map_congr_left fun n _ => by simp
        rw [e2]
        repeat walk_at "z"
        refine ⟨_, _, _, _, st6.trans st7, ⟨by simp, fun e he => ?_⟩, rfl⟩
        obtain ⟨n, hn, rfl⟩ := List.mem_map.mp he
        have hn := List.mem_range.mp hn
        have h1 := ht.2 _ (List.mem_of_getElem? (gI_some (r := t) (i := n) (by rw [ht.1]; exact hn)))
        have h2 := hrg.2 _ (List.mem_of_getElem? (gI_some (r := r) (i := n) (by rw [hrg.1]; exact hn)))
        have h3 : (wt * gI r n).natAbs ≤ 900 := by
          rw [Int.natAbs_mul]
          exact Nat.le_trans (Nat.mul_le_mul (Nat.le_trans hwt hr9) (Nat.le_trans h2 hS2)) (by decide)
        rw [Nat.succ_mul]; omega
      · rintro Γ1 M6 ⟨t, o5, o8, o9, st6, ht, rfl⟩
        rw [hbl2] at ht
        repeat walk_at "z"
        refine hk base w t M6 ⟨hw, by omega, fun r hr => ⟨(hbg r hr).1, fun e he => Nat.le_trans ((hbg r hr).2 e he) hS2⟩⟩ ⟨ht.1, fun e he => Nat.le_trans (ht.2 e he) ?_⟩ st6
        have : base.length ≤ 9 := by omega
        omega
    repeat walk_at "z"
    refine ⟨fun h => ?_, fun h => ?_⟩
    · iterate 3 walk_at "z"
      exact fin 1 (by decide) (by decide)
    · walk_at "z"
      exact fin 9 (by decide) (by decide)
  repeat walk_at "z"
  refine zc_call (S := S_law_take) ⟨i, a, _, rfl, by decide, by decide, hb, fun w M1 h0 h1 st1 => ?_⟩
  obtain ⟨w, rfl⟩ : ∃ n : Nat, w = (n : Nat) := ⟨w.toNat, by omega⟩
  repeat walk_at "z"
  refine zc_call (S := S_law_take) ⟨i, a, _, rfl, by decide, by decide, st1.box, fun v M2 h02 h12 st2 => ?_⟩
  repeat walk_at "z"
  refine ⟨fun h => ?_, fun h => ?_⟩
  · repeat walk_at "z"
    refine zc_call (S := S_law_take) ⟨i, a, _, rfl, by decide, by decide, st2.box, fun v3 M3 h03 h13 st3 => ?_⟩
    obtain ⟨n, rfl⟩ : ∃ n : Nat, v3 = (n : Nat) := ⟨v3.toNat, by omega⟩
    iterate 1 walk_at "z"
    rw [show (6 : Int) + ((n : Nat) : Int) = ((6 + n : Nat) : Int) by omega]
    walk_at "z"
    exact main (6 + n) M3 (by omega) ((st1.trans st2).trans st3)
  · walk_at "z"
    exact main w M2 (by omega) (st1.trans st2)
end
end Qk02
set_option Elab.async false
set_option linter.all false
set_option maxRecDepth 100000
set_option maxHeartbeats 4000000
namespace Qk02
open PySem PySem.Spec PyProof.Rows L2 StX Z
local macro_rules | `(tactic| walk_at "z") => `(tactic| first
  | with_reducible refine zs_seq ?_
  | with_reducible refine zs_nil ?_
  | with_reducible refine zs_asg ?_
  | with_reducible refine zg_name ?_
  | (with_reducible refine z_var (d := ?zd) ?zh ?zk); (case zh => rfl)
  | with_reducible refine z_int ?_
  | with_reducible refine z_bl ?_
  | with_reducible refine z_non ?_
  | with_reducible refine z_ty ?_
  | with_reducible refine z_op ?_
  | with_reducible refine z_un ?_
  | with_reducible refine za_nil ?_
  | with_reducible refine za_cons ?_
  | with_reducible refine z_cb ?_
  | with_reducible refine z_tup ?_
  | with_reducible refine z_lst ?_
  | with_reducible refine z_lstM ?_
  | with_reducible refine zs_drop ?_
  | with_reducible refine zs_ret ?_
  | with_reducible refine zs_retN ?_
  | with_reducible refine zs_if ?_
  | with_reducible refine zt_test ?_
  | with_reducible refine zt_not ?_
  | with_reducible refine zt_truth ?_
  | with_reducible refine zr_addI ?_
  | with_reducible refine zr_sub ?_
  | with_reducible refine zr_lt ?_
  | with_reducible refine zr_le ?_
  | with_reducible refine zr_gt ?_
  | with_reducible refine zr_ge ?_
  | with_reducible refine zr_eqI ?_
  | with_reducible refine zr_neI ?_
  | with_reducible refine zr_isN ?_
  | with_reducible refine zr_notN ?_
  | with_reducible refine zu_neg ?_
  | with_reducible refine zc_abs ?_
  | with_reducible refine zc_gcd ?_
  | with_reducible refine zc_int ?_
  | with_reducible refine zc_max2 ?_
  | with_reducible refine zc_min2 ?_
  | with_reducible refine zg_tup rfl ?_
  | with_reducible refine zgs_cons ?_
  | with_reducible refine zgs_nil ?_
  | with_reducible refine ⟨_, rfl, ?_⟩
  | with_reducible refine zt_yes ?_
  | (with_reducible refine And.intro ?zl ?zk); (case zl => exact Nat.le_of_ble_eq_true rfl))
section
variable {K : Fg} {c : Cz}
def S_law_bent_target : ZSp := fun ds M k => ∃ (i : Nat) (a : Addr) (way : Int) (w : Nat) (t : List Int), ds = [.at a, .int way, lD t, .int (w : Nat)] ∧ w ≤ 8 ∧ RowG w 20000 t ∧ IsBox M i a ∧ ∀ t' M', RowG w 20001 t' → BoxStep M M' i a → k (lD t') M'
theorem RowG.mono {w S T : Nat} {r : List Int} (h : RowG w S r) (hS : S ≤ T) : RowG w T r := ⟨h.1, fun e he => Nat.le_trans (h.2 e he) hS⟩
theorem z_law_bent_target {kk : D → Mem → Prop} {ds : List D} {M : Mem} (h : S_law_bent_target ds M kk) : ZS { K := K } (t_law_bent_target K S_law_row S_law_take) (startD N_law_bent_target ds) M { nx := fun _ M' => kk .non M', rt := kk } := by
  obtain ⟨i, a, way, w, t, rfl, hw, ht, hb, hk⟩ := h
  unfold t_law_bent_target
  have rowret : ∀ nx bk ct, ZS { K := K } (tRet (tCB (zcall K S_law_row) (tCons (tVar 0) (tCons (tVar 3) (tCons (tC (.int 1000)) tNil))))) (startD N_law_bent_target [.at a, .int way, lD t, .int (w : Nat)]) M { nx := nx, rt := kk, bk := bk, ct := ct } := by
    intro nx bk ct
    repeat walk_at "z"
    refine zc_call (S := S_law_row) ⟨i, a, w, 1000, rfl, by omega, by decide, hb, fun r M1 hr st1 => ?_⟩
    exact hk r M1 (hr.mono (by decide)) st1
  walk_at "z"
  walk_at "z"
  refine zt_or ?_
  repeat walk_at "z"
  refine ⟨fun _ => ⟨fun _ => rowret _ _ _, fun h => absurd h (by decide)⟩, fun _ => ?_⟩
  repeat walk_at "z"
  refine ⟨fun _ => rowret _ _ _, fun _ => ?_⟩
  repeat walk_at "z"
  refine ⟨fun _ => ?_, fun _ => ?_⟩
  · repeat walk_at "z"
    refine z_lc (own_name (by decide)) (zi_rng1 ?_)
    repeat walk_at "z"
    refine ⟨by omega, by omega, ?_⟩
    rw [Int.toNat_natCast]
    refine LcK.map (fun _ => .int 0) (by rw [rngD_len]; exact Nat.le_trans hw (by decide)) ?_ ?_
    · intro n x hx
      repeat walk_at "z"
      exact ⟨rfl, rfl⟩
    have e1 : (rngD 0 w).map (fun _ => D.int 0) = zI (List.replicate w 0) := by
      unfold zI; rw [List.map_replicate, List.map_const', rngD_len]
    rw [e1]
    exact hk _ M ⟨List.length_replicate, fun e he => by rw [List.mem_replicate] at he; rw [he.2]; exact Nat.zero_le _⟩ hb.refl
  · walk_at "z"
    walk_at "z"
    walk_at "z"
    refine zt_or ?_
    repeat walk_at "z"
    have retT : ∀ nx bk ct, ZS { K := K } (tRet (tVar 2)) (startD N_law_bent_target [.at a, .int way, lD t, .int (w : Nat)]) M { nx := nx, rt := kk, bk := bk, ct := ct } := by
      intro nx bk ct
      repeat walk_at "z"
      exact hk t M (ht.mono (by decide)) hb.refl
    refine ⟨fun _ => ⟨fun _ => retT _ _ _, fun h => absurd h (by decide)⟩, fun _ => ?_⟩
    repeat walk_at "z"
    refine ⟨fun _ => retT _ _ _, fun h => ?_⟩
    have hw0 : 0 < w := by have := of_decide_eq_false h; omega
    repeat walk_at "z"
    refine zc_call (S := S_law_take) ⟨i, a, _, rfl, by omega, by omega, hb, fun v M1 h0 h1 st1 => ?_⟩
    repeat walk_at "z"
    refine z_lc (own_name (by decide)) (zi_rng1 ?_)
    repeat walk_at "z"
    refine ⟨by omega, by omega, ?_⟩
    rw [Int.toNat_natCast]
    refine LcK.map (fun x => match x with | .int z => .int (gI t z.toNat + (if decide (z = v) then 1 else 0)) | x => x) (by rw [rngD_len]; exact Nat.le_trans hw (by decide)) ?_ ?_
    · intro n x hx
      obtain ⟨hn, rfl⟩ := rngD_get hx
      rw [Int.zero_add]
      repeat walk_at "z"
      refine zr_ix .lst (zI_at (i := n) (by rw [ht.1]; exact hn)) ?_
      repeat walk_at "z"
      refine zc_intB ?_
      repeat walk_at "z"
      exact ⟨rfl, rfl⟩
    have e2 : (rngD 0 w).map (fun x => match x with | .int z => .int (gI t z.toNat + (if decide (z = v) then 1 else 0)) | x => x) = zI ((List.range w).map fun n => gI t n + (if decide (((n : Nat) : Int) = v) then 1 else 0)) := by
      unfold rngD zI; rw [List.map_map, List.map_map]
      exact List.map_congr_left fun n _ => by simp
    rw [e2]
    refine hk _ M1 ⟨by simp, fun e he => ?_⟩ st1
    obtain ⟨n, hn, rfl⟩ := List.mem_map.mp he
    have hn := List.mem_range.mp hn
    have h1 := ht.2 _ (List.mem_of_getElem? (gI_some (r := t) (i := n) (by rw [ht.1]; exact hn)))
    split <;> omega
end
end Qk02
set_option Elab.async false
set_option linter.all false
set_option maxRecDepth 100000
set_option maxHeartbeats 4000000
namespace Qk02
open PySem PySem.Spec PyProof.Rows L2 StX Z
local macro_rules | `(tactic| walk_at "z") => `(tactic| first
  | with_reducible refine zs_seq ?_
  | with_reducible refine zs_nil ?_
  | with_reducible refine zs_asg ?_
  | with_reducible refine zg_name ?_
  | (with_reducible refine z_var (d := ?zd) ?zh ?zk); (case zh => rfl)
  | with_reducible refine z_int ?_
  | with_reducible refine z_bl ?_
  | with_reducible refine z_non ?_
  | with_reducible refine z_ty ?_
  | with_reducible refine z_op ?_
  | with_reducible refine z_un ?_
  | with_reducible refine za_nil ?_
  | with_reducible refine za_cons ?_
  | with_reducible refine z_cb ?_
  | with_reducible refine z_tup ?_
  | with_reducible refine z_lst ?_
  | with_reducible refine z_lstM ?_
  | with_reducible refine zs_drop ?_
  | with_reducible refine zs_ret ?_
  | with_reducible refine zs_retN ?_
  | with_reducible refine zs_if ?_
  | with_reducible refine zt_test ?_
  | with_reducible refine zt_not ?_
  | with_reducible refine zt_truth ?_
  | with_reducible refine zr_addI ?_
  | with_reducible refine zr_sub ?_
  | with_reducible refine zr_lt ?_
  | with_reducible refine zr_le ?_
  | with_reducible refine zr_gt ?_
  | with_reducible refine zr_ge ?_
  | with_reducible refine zr_eqI ?_
  | with_reducible refine zr_neI ?_
  | with_reducible refine zr_isN ?_
  | with_reducible refine zr_notN ?_
  | with_reducible refine zu_neg ?_
  | with_reducible refine zc_abs ?_
  | with_reducible refine zc_gcd ?_
  | with_reducible refine zc_int ?_
  | with_reducible refine zc_max2 ?_
  | with_reducible refine zc_min2 ?_
  | with_reducible refine zg_tup rfl ?_
  | with_reducible refine zgs_cons ?_
  | with_reducible refine zgs_nil ?_
  | with_reducible refine ⟨_, rfl, ?_⟩
  | with_reducible refine zt_yes ?_
  | (with_reducible refine And.intro ?zl ?zk); (case zl => exact Nat.le_of_ble_eq_true rfl))
section
variable {K : Fg} {c : Cz}
def comm (told : List (Int × Int)) : Int := told.foldl (fun c TB => c * TB.2) 1
def share (told : List (Int × Int)) (k : Nat) : Int := ((told[k]?.getD (0, 1)).1) * (Int.fdiv (comm told) (told[k]?.getD (0, 1)).2)
def S_law_adds_up : ZSp := fun ds M k => ∃ (rows : List (List Int)) (told : List (Int × Int)) (target : List Int) (w : Nat), ds = [.tup (rows.map rD), .tup (told.map frD), rD target] ∧ told.length = rows.length ∧ rows.length ≤ 16 ∧ w ≤ 8 ∧ (∀ r ∈ rows, RowG w (2 ^ 20) r) ∧ RowG w (2 ^ 20) target ∧
  (∀ TB ∈ told, 1 ≤ TB.2 ∧ TB.1.natAbs < 2 ^ 300 ∧ TB.2.natAbs < 2 ^ 300) ∧ (∀ cc, cc < w → ((List.range rows.length).map fun j => share told j * gI (rows[j]?.getD []) cc).sum = gI target cc * comm told) ∧ k (.bl true) M
theorem comm_bd : ∀ (told : List (Int × Int)) (n : Nat), n ≤ told.length → (∀ TB ∈ told, 1 ≤ TB.2 ∧ TB.1.natAbs < 2 ^ 300 ∧ TB.2.natAbs < 2 ^ 300) → (comm (told.take n)).natAbs < 2 ^ (1 + 300 * n)
  | told, 0, _, _ => by show 1 < 2 ^ 1; decide
  | told, n + 1, hn, h => by
    have e1 : told[n]? = some told[n] := List.getElem?_eq_getElem hn
    have e : comm (told.take (n + 1)) = comm (told.take n) * (told[n]).2 := by rw [take_snoc e1]; unfold comm; rw [List.foldl_append]; rfl
    rw [e]
    have := mul_bd (comm_bd told n (Nat.le_of_succ_le hn) h) (h _ (List.getElem_mem hn)).2.2
    exact bd_mono this (by omega)
theorem z_law_adds_up {kk : D → Mem → Prop} {ds : List D} {M : Mem} (h : S_law_adds_up ds M kk) : ZS { K := K } (t_law_adds_up K) (startD N_law_adds_up ds) M { nx := fun _ M' => kk .non M', rt := kk } := by
  obtain ⟨rows, told, target, w, rfl, htl, hl, hw, hG, ht, hT, hsum, hk⟩ := h
  have hrl : (rows.map rD).length = rows.length := List.length_map ..
  have htl2 : (told.map frD).length = told.length := List.length_map ..
  have hcb := comm_bd told told.length (Nat.le_refl _) hT
  rw [List.take_length] at hcb
  have hcb : (comm told).natAbs < 2 ^ 6000 := bd_mono hcb (by omega)
  unfold t_law_adds_up
  repeat walk_at "z"
  refine zs_for (zi_seq ?_)
  repeat walk_at "z"
  refine ⟨_, .tup, fun i Γ M' => M' = M ∧ ∃ o, Γ = [some (.tup (rows.map rD)), some (.tup (told.map frD)), some (rD target), some (.int (comm (told.take i))), o, none, none, none, none], ⟨rfl, none, rfl⟩, ?_, ?_⟩
  · rintro i x Γ1 M1 hx ⟨rfl, o, rfl⟩
    obtain ⟨TB, hTB, rfl⟩ := map_get hx
    have hi := (List.getElem?_eq_some_iff.mp hTB).1
    have hc1 := comm_bd told i (Nat.le_of_lt hi) hT
    have hb := (hT TB (List.mem_of_getElem? hTB)).2.2
    have e : comm (told.take (i + 1)) = comm (told.take i) * TB.2 := by rw [take_snoc hTB]; unfold comm; rw [List.foldl_append]; rfl
    repeat walk_at "z"
    refine zr_ix .tup (e := .int TB.2) rfl ?_
    refine zr_mulI (MulOk.of ?_) ?_
    · have h1 := log2_bd hc1 (by omega)
      have h2 := log2_bd hb (by decide)
      omega
    repeat walk_at "z"
    dsimp only
    rw [e]
    exact ⟨rfl, _, rfl⟩
  · rintro Γ1 M1 ⟨rfl, o, rfl⟩
    rw [htl2, List.take_length]
    repeat walk_at "z"
    refine z_lc (own_name (by decide)) (zi_seq ?_)
    repeat walk_at "z"
    refine ⟨_, .tup, LcK.map (fun x => match x with | .tup [.int T, .int B] => .int (T * Int.fdiv (comm told) B) | x => x) (by rw [htl2, htl]; exact Nat.le_trans hl (by decide)) ?_ ?_⟩
    · intro i x hx
      obtain ⟨TB, hTB, rfl⟩ := map_get hx
      obtain ⟨h1, h2, h3⟩ := hT TB (List.mem_of_getElem? hTB)
      repeat walk_at "z"
      refine zr_ix .tup (e := .int TB.1) rfl ?_
      repeat walk_at "z"
      refine zr_ix .tup (e := .int TB.2) rfl ?_
      refine zr_div ⟨by omega, PyProof.noPylong_of_log2 (Nat.lt_trans (log2_bd h3 (by decide)) (by decide))⟩ ?_
      refine zr_mulI (MulOk.of ?_) ⟨rfl, rfl⟩
      have h4 := log2_bd h2 (by decide)
      have h5 : (Int.fdiv (comm told) TB.2).natAbs ≤ (comm told).natAbs := by
        rw [Int.fdiv_eq_ediv_of_nonneg _ (by omega)]; exact Int.natAbs_ediv_le_natAbs _ _
      have h6 := log2_bd (Nat.lt_of_le_of_lt h5 hcb) (by decide)
      omega
    have e1 : (told.map frD).map (fun x => match x with | .tup [.int T, .int B] => .int (T * Int.fdiv (comm told) B) | x => x) = zI ((List.range rows.length).map fun j => share told j) := by
      rw [← htl]
      unfold zI
      rw [List.map_map, List.map_map]
      apply List.ext_getElem?
      intro n
      rw [List.getElem?_map, List.getElem?_map]
      rcases Nat.lt_or_ge n told.length with hn | hn
      · rw [List.getElem?_eq_getElem hn, List.getElem?_range hn]
        simp [share, List.getElem?_eq_getElem hn]
      · rw [List.getElem?_eq_none hn, List.getElem?_eq_none (by simpa using hn)]; rfl
    rw [e1]
    have hsl : (zI ((List.range rows.length).map fun j => share told j)).length = rows.length := by rw [zI_len]; simp
    have hzt : (zI target).length = w := by rw [zI_len, ht.1]
    have hshb : ∀ j, j < rows.length → (share told j).natAbs < 2 ^ 7000 := fun j hj => by
      have hjt : told[j]? = some told[j] := List.getElem?_eq_getElem (by omega)
      obtain ⟨h1, h2, h3⟩ := hT _ (List.getElem_mem (show j < told.length by omega))
      unfold share
      rw [hjt, Option.getD_some]
      have h5 : (Int.fdiv (comm told) (told[j]).2).natAbs ≤ (comm told).natAbs := by
        rw [Int.fdiv_eq_ediv_of_nonneg _ (by omega)]; exact Int.natAbs_ediv_le_natAbs _ _
      exact bd_mono (mul_bd h2 (Nat.lt_of_le_of_lt h5 hcb)) (by decide)
    repeat walk_at "z"
    refine zs_for (zi_rng1 ?_)
    repeat walk_at "z"
    refine zc_len .tup ?_
    rw [hzt]
    repeat walk_at "z"
    refine ⟨by omega, by omega, ?_⟩
    rw [Int.toNat_natCast]
    refine ⟨fun i Γ M' => M' = M1 ∧ ∃ o o6 o7 o8, Γ = [some (.tup (rows.map rD)), some (.tup (told.map frD)), some (rD target), some (.int (comm told)), o, some (.lst (zI ((List.range rows.length).map fun j => share told j))), o6, o7, o8], ⟨rfl, _, _, _, _, rfl⟩, ?_, ?_⟩
    · rintro cc x Γ1 M2 hx ⟨rfl, o, o6, o7, o8, rfl⟩
      obtain ⟨hcc, rfl⟩ := rngD_get hx
      rw [Int.zero_add]
      repeat walk_at "z"
      refine z_lc (own_name (by decide)) (zi_rng1 ?_)
      repeat walk_at "z"
      refine zc_len .tup ?_
      rw [hrl]
      repeat walk_at "z"
      refine ⟨by omega, by omega, ?_⟩
      rw [Int.toNat_natCast]
      refine LcK.map (fun x => match x with | .int j => .int (share told j.toNat * gI (rows[j.toNat]?.getD []) cc) | x => x) (by rw [rngD_len]; exact Nat.le_trans hl (by decide)) ?_ ?_
      · intro j x hx
        obtain ⟨hj, rfl⟩ := rngD_get hx
        rw [Int.zero_add]
        have hbj : rows[j]? = some rows[j] := List.getElem?_eq_getElem hj
        have hrg := hG _ (List.getElem_mem hj)
        repeat walk_at "z"
        refine zr_ix .lst (e := .int (share told j)) ?_ ?_
        · have := zI_at (r := (List.range rows.length).map fun j => share told j) (i := j) (by simpa using hj)
          rw [this, gI_of (e := share told j) (by rw [List.getElem?_map, List.getElem?_range hj]; rfl)]
        repeat walk_at "z"
        refine zr_ix .tup (e := rD rows[j]) (by rw [atI_nat (by rw [hrl]; exact hj), List.getElem?_map, hbj]; rfl) ?_
        repeat walk_at "z"
        refine zr_ix .tup (zI_at (by rw [hrg.1]; exact hcc)) ?_
        refine zr_mulI (.right (Nat.lt_of_le_of_lt (hrg.2 _ (List.mem_of_getElem? (gI_some (by rw [hrg.1]; exact hcc)))) (by decide))) ?_
        refine ⟨?_, rfl⟩
        show _ = D.int (share told ((j : Nat) : Int).toNat * gI (rows[((j : Nat) : Int).toNat]?.getD []) cc)
        rw [Int.toNat_natCast, hbj]; rfl
      · repeat walk_at "z"
        have e1 : (rngD 0 rows.length).map (fun x => match x with | .int j => .int (share told j.toNat * gI (rows[j.toNat]?.getD []) cc) | x => x) = ((List.range rows.length).map fun j => share told j * gI (rows[j]?.getD []) cc).map D.int := by
          unfold rngD; rw [List.map_map, List.map_map]
          exact List.map_congr_left fun k _ => by simp
        rw [e1]
        refine zc_sum .lst ?_
        rw [hsum cc hcc]
        repeat walk_at "z"
        refine zr_ix .tup (zI_at (by rw [ht.1]; exact hcc)) ?_
        repeat walk_at "z"
        refine zr_mulI (.left (Nat.lt_of_le_of_lt (ht.2 _ (List.mem_of_getElem? (gI_some (by rw [ht.1]; exact hcc)))) (by decide))) ?_
        repeat walk_at "z"
        refine ⟨fun h => ?_, fun _ => ?_⟩
        · exfalso; simp at h
        repeat walk_at "z"
        exact ⟨rfl, _, _, _, _, rfl⟩
    · rintro Γ1 M2 ⟨rfl, o, o6, o7, o8, rfl⟩
      repeat walk_at "z"
      exact hk
end
end Qk02
set_option Elab.async false
set_option linter.all false
set_option maxRecDepth 100000
set_option maxHeartbeats 4000000
namespace Qk02
open PySem PySem.Spec PyProof.Rows L2 StX Z
local macro_rules | `(tactic| walk_at "z") => `(tactic| first
  | with_reducible refine zs_seq ?_
  | with_reducible refine zs_nil ?_
  | with_reducible refine zs_asg ?_
  | with_reducible refine zg_name ?_
  | (with_reducible refine z_var (d := ?zd) ?zh ?zk); (case zh => rfl)
  | with_reducible refine z_int ?_
  | with_reducible refine z_bl ?_
  | with_reducible refine z_non ?_
  | with_reducible refine z_ty ?_
  | with_reducible refine z_op ?_
  | with_reducible refine z_un ?_
  | with_reducible refine za_nil ?_
  | with_reducible refine za_cons ?_
  | with_reducible refine z_cb ?_
  | with_reducible refine z_tup ?_
  | with_reducible refine z_lst ?_
  | with_reducible refine z_lstM ?_
  | with_reducible refine zs_drop ?_
  | with_reducible refine zs_ret ?_
  | with_reducible refine zs_retN ?_
  | with_reducible refine zs_if ?_
  | with_reducible refine zt_test ?_
  | with_reducible refine zt_not ?_
  | with_reducible refine zt_truth ?_
  | with_reducible refine zr_addI ?_
  | with_reducible refine zr_sub ?_
  | with_reducible refine zr_lt ?_
  | with_reducible refine zr_le ?_
  | with_reducible refine zr_gt ?_
  | with_reducible refine zr_ge ?_
  | with_reducible refine zr_eqI ?_
  | with_reducible refine zr_neI ?_
  | with_reducible refine zr_isN ?_
  | with_reducible refine zr_notN ?_
  | with_reducible refine zu_neg ?_
  | with_reducible refine zc_abs ?_
  | with_reducible refine zc_gcd ?_
  | with_reducible refine zc_int ?_
  | with_reducible refine zc_max2 ?_
  | with_reducible refine zc_min2 ?_
  | with_reducible refine zg_tup rfl ?_
  | with_reducible refine zgs_cons ?_
  | with_reducible refine zgs_nil ?_
  | with_reducible refine ⟨_, rfl, ?_⟩
  | with_reducible refine zt_yes ?_
  | (with_reducible refine And.intro ?zl ?zk); (case zl => exact Nat.le_of_ble_eq_true rfl))
section
variable {K : Fg} {c : Cz}
def pyR (r : List Int) : PyData := .list (r.map .int)
def S_law_bent_rows : ZSp := fun ds M k => ∃ (i : Nat) (a : Addr) (way : Int) (base : List (List Int)) (w : Nat), ds = [.at a, .int way, .lst (base.map lD), .int (w : Nat)] ∧ PG w 100 base ∧ IsBox M i a ∧ ∀ (rows : List (List Int)) (M' : Mem), rows.length = base.length → (∀ r ∈ rows, RowG w 1000 r) → BoxStep M M' i a → k (.lst (rows.map lD)) M'
theorem scaled_row {w S : Nat} {r : List Int} {f : Int} (h : RowG w S r) (hf : f.natAbs ≤ 9) : RowG w (9 * S) (r.map (· * f)) := by
  refine ⟨by rw [List.length_map]; exact h.1, fun e he => ?_⟩
  obtain ⟨e', he', rfl⟩ := List.mem_map.mp he
  rw [Int.natAbs_mul, Nat.mul_comm]
  exact Nat.mul_le_mul hf (h.2 e' he')
theorem z_law_bent_rows {kk : D → Mem → Prop} {ds : List D} {M : Mem} (h : S_law_bent_rows ds M kk) : ZS { K := K } (t_law_bent_rows K S_law_factor S_law_take S_law_entry S_law_row) (startD N_law_bent_rows ds) M { nx := fun _ M' => kk .non M', rt := kk } := by
  obtain ⟨i, a, way, base, w, rfl, G, hb, hk⟩ := h
  have hbl : (base.map lD).length = base.length := List.length_map ..
  have hw := G.w8
  have hl := G.n9
  unfold t_law_bent_rows
  repeat walk_at "z"
  intro p
  repeat walk_at "z"
  refine zs_for (zi_seq ?_)
  repeat walk_at "z"
  refine ⟨_, .lst, fun j Γ M' => ∃ (M2 : Mem) (rows : List (List Int)) (o5 o6 o7 : Option D), M' = (p, .lst (rows.map lD)) :: M2 ∧ BoxStep M M2 i a ∧ rows.length = j ∧ (∀ r ∈ rows, RowG w 1000 r) ∧ Γ = [some (.at a), some (.int way), some (.lst (base.map lD)), some (.int (w : Nat)), some (.at p), o5, o6, o7, none, none, none, none], ⟨M, [], none, none, none, rfl, hb.refl, rfl, (fun r hr => by cases hr), rfl⟩, ?_, ?_⟩
  · rintro j x Γ1 M' hx ⟨M2, rows, o5, o6, o7, rfl, st2, hrl, hrg, rfl⟩
    obtain ⟨r, hr, rfl⟩ := map_get hx
    have hrr := G.rows r (List.mem_of_getElem? hr)
    have hj : j < base.length := (List.getElem?_eq_some_iff.mp hr).1
    repeat walk_at "z"
    refine zc_call (S := S_law_factor) ⟨i + 1, a, rfl, st2.box.cons, fun f M3' hf st3' => ?_⟩
    obtain ⟨M3, rfl, st3⟩ := st3'.uncons
    repeat walk_at "z"
    refine z_bm ?_
    repeat walk_at "z"
    refine ⟨⟨_, .at 0 rfl⟩, ?_⟩
    repeat walk_at "z"
    refine z_lc (own_name (by decide)) (zi_seq ?_)
    repeat walk_at "z"
    refine ⟨_, .lst, LcK.map (fun x => match x with | .int e => .int (e * f) | x => x) (by rw [zI_len, hrr.1]; exact Nat.le_trans hw (by decide)) ?_ ?_⟩
    · intro n x hx
      obtain ⟨e, he, rfl⟩ := zI_get hx
      repeat walk_at "z"
      exact zr_mulI (.right (Nat.lt_of_le_of_lt hf (by decide))) ⟨rfl, rfl⟩
    · have e1 : (zI r).map (fun x => match x with | .int e => .int (e * f) | x => x) = zI (r.map (· * f)) := by
        unfold zI; rw [List.map_map, List.map_map]; rfl
      rw [e1]
      repeat walk_at "z"
      refine zm_append (i := 0) rfl (by rw [List.length_map, hrl]; exact Nat.lt_of_lt_of_le hj (Nat.le_trans hl (Nat.le_trans (Nat.succ_le_succ hw) (by decide)))) ?_
      refine ⟨M3, rows ++ [r.map (· * f)], _, _, _, by rw [List.map_append]; rfl, st2.trans st3, by rw [List.length_append, hrl]; rfl, fun q hq => ?_, rfl⟩
      rcases List.mem_append.mp hq with hq | hq
      · exact hrg q hq
      · rw [List.mem_singleton.mp hq]
        exact (scaled_row hrr hf).mono (by decide)
  · rintro Γ1 M' ⟨M2, rows, o5, o6, o7, rfl, st2, hrl, hrg, rfl⟩
    rw [hbl] at hrl
    have ret : ∀ (rows : List (List Int)) (M2 : Mem) (o5 o6 o7 o8 o9 o10 o11 : Option D) nx bk ct, rows.length = base.length → (∀ r ∈ rows, RowG w 1000 r) → BoxStep M M2 i a →
        ZS { K := K } (tRet (fz (tVar 4))) [some (.at a), some (.int way), some (.lst (base.map lD)), some (.int (w : Nat)), some (.at p), o5, o6, o7, o8, o9, o10, o11] ((p, .lst (rows.map lD)) :: M2) { nx := nx, rt := kk, bk := bk, ct := ct } := by
      intro rows M2 o5 o6 o7 o8 o9 o10 o11 nx bk ct h1 h2 h3
      repeat walk_at "z"
      refine z_fz2 ?_
      repeat walk_at "z"
      exact .inl ⟨p, 0, _, rfl, rfl, hk rows M2 h1 h2 h3⟩
    repeat walk_at "z"
    have hpd : ∀ M, Pd M (.lst (base.map lD)) (.list (base.map pyR)) := fun M => .lst (PdAll.map (fun r => .lst (PdAll.ints r)) base)
    refine zr_eqD (hpd _) (.lst .nil) ?_ (by decide) ?_
    · show (_ && _) = true
      rw [Bool.and_eq_true]
      have hcl : ∀ r : List Int, (pyR r).canLay0 = true := fun r => canLay_map (g := PyData.int) (fun _ => rfl) r
      refine ⟨canLay_map hcl base, ?_⟩
      have : PyData.depthAll (base.map pyR) ≤ 1 := depth_map (fun r => ?_) base
      · exact decide_eq_true (by show PyData.depthAll (base.map pyR) + 1 ≤ 64; omega)
      · show PyData.depthAll (r.map .int) + 1 ≤ 1
        have := depth_map (g := PyData.int) (n := 0) (fun _ => Nat.le_refl 0) r
        omega
    repeat walk_at "z"
    refine ⟨fun h => ?_, fun h => ?_⟩
    · exact ret rows M2 _ _ _ _ _ _ _ _ _ _ hrl hrg st2
    · have hne : 0 < base.length := by
        cases base with
        | nil => simp [PyData.eqv, PyData.eqvAll] at h
        | cons _ _ => exact Nat.succ_pos _
      have key : ∀ n : Nat, (hn : n < base.length) → L2.atI (base.map lD) (n : Int) = some (lD base[n]) := fun n hn => by
        rw [atI_nat (by rw [hbl]; exact hn), List.getElem?_map, List.getElem?_eq_getElem hn]; rfl
      repeat walk_at "z"
      refine zc_len .lst ?_
      rw [hbl]
      repeat walk_at "z"
      refine zc_call (S := S_law_take) ⟨i + 1, a, _, rfl, by omega, by omega, st2.box.cons, fun sp M3' h03 h13 st3' => ?_⟩
      obtain ⟨M3, rfl, st3⟩ := st3'.uncons
      repeat walk_at "z"
      refine zc_len .lst ?_
      rw [hbl]
      repeat walk_at "z"
      refine zc_call (S := S_law_take) ⟨i + 1, a, _, rfl, by omega, by omega, st3.box.cons, fun f1 M4' h04 h14 st4' => ?_⟩
      obtain ⟨M4, rfl, st4⟩ := st4'.uncons
      obtain ⟨n1, rfl⟩ : ∃ n : Nat, f1 = (n : Nat) := ⟨f1.toNat, by omega⟩
      have hn1 : n1 < base.length := by omega
      refine zr_ix .lst (key n1 hn1) ?_
      repeat walk_at "z"
      refine zc_len .lst ?_
      rw [hbl]
      repeat walk_at "z"
      refine zc_call (S := S_law_take) ⟨i + 1, a, _, rfl, by omega, by omega, st4.box.cons, fun f2 M5' h05 h15 st5' => ?_⟩
      obtain ⟨M5, rfl, st5⟩ := st5'.uncons
      obtain ⟨n2, rfl⟩ : ∃ n : Nat, f2 = (n : Nat) := ⟨f2.toNat, by omega⟩
      have hn2 : n2 < base.length := by omega
      refine zr_ix .lst (key n2 hn2) ?_
      have g1 := G.rows _ (List.getElem_mem hn1)
      have g2 := G.rows _ (List.getElem_mem hn2)
      generalize base[n1] = r1 at g1 ⊢
      generalize base[n2] = r2 at g2 ⊢
      have st25 := ((st2.trans st3).trans st4).trans st5
      have hsp : L2.ixN rows.length sp = some sp.toNat := by unfold L2.ixN; rw [if_pos h03, if_pos (by omega)]
      have hsetg : ∀ (rows : List (List Int)) (r : List Int), (∀ q ∈ rows, RowG w 1000 q) → RowG w 1000 r → ∀ q ∈ rows.set sp.toNat r, RowG w 1000 q := fun rows r h1 h2 q hq => by
        rcases List.mem_or_eq_of_mem_set hq with h | rfl
        · exact h1 q h
        · exact h2
      have hsetm : ∀ (rows : List (List Int)) (r : List Int), (rows.map lD).set sp.toNat (lD r) = (rows.set sp.toNat r).map lD := fun rows r => by rw [List.map_set]
      -- way 4 and the end
      have t4 : ∀ (rows : List (List Int)) (M5 : Mem) (o5 o6 o7 o11 : Option D), rows.length = base.length → (∀ r ∈ rows, RowG w 1000 r) → BoxStep M M5 i a →
          ZS { K := K } (tSeq (tIfS (tTest (tOp (rEqZ K) (tVar 1) (tC (V.int 4)))) (tAsg (mk (tLc (iSeqZ K (tVar 2)) (gName 5) tYes (tCB (zcall K S_law_row) (tCons (tVar 0) (tCons (tVar 3) (tCons (tC (V.int 1000)) tNil)))) [5])) (gName 4)) tNext) (tRet (fz (tVar 4))))
            [some (.at a), some (.int way), some (.lst (base.map lD)), some (.int (w : Nat)), some (.at p), o5, o6, o7, some (.int sp), some (lD r1), some (lD r2), o11] ((p, .lst (rows.map lD)) :: M5) { nx := fun _ M' => kk .non M', rt := kk } := by
        intro rows M5 o5 o6 o7 o11 hrl hrg st
        repeat walk_at "z"
        refine ⟨fun h => ?_, fun h => ?_⟩
        · refine zs_forget (i := 0) ?_
          show ZS _ _ _ M5 _
          repeat walk_at "z"
          refine z_lcM (own_name (by decide)) (zi_seq ?_)
          repeat walk_at "z"
          refine ⟨_, .lst, ⟨by rw [hbl]; exact Nat.le_trans hl (Nat.le_trans (Nat.succ_le_succ hw) (by decide)), fun j acc M' => BoxStep M M' i a ∧ ∃ rs : List (List Int), acc = rs.map lD ∧ rs.length = j ∧ ∀ r ∈ rs, RowG w 1000 r, ⟨st, [], rfl, rfl, fun r hr => by cases hr⟩, ?_, ?_⟩⟩
          · rintro j x acc M6 hx hacc ⟨st6, rs, rfl, hrl2, hrg2⟩
            obtain ⟨r, hr, rfl⟩ := map_get hx
            repeat walk_at "z"
            refine ⟨fun _ => ?_, fun h => absurd h (by decide)⟩
            repeat walk_at "z"
            refine zc_call (S := S_law_row) ⟨i, a, w, 1000, rfl, by omega, by decide, st6.box, fun r M7 hr st7 => ?_⟩
            refine ⟨st6.trans st7, rs ++ [r], by simp, by rw [List.length_append, hrl2]; rfl, fun q hq => ?_⟩
            rcases List.mem_append.mp hq with hq | hq
            · exact hrg2 q hq
            · rw [List.mem_singleton.mp hq]; exact hr
          · rintro acc M6 ⟨st6, rs, rfl, hrl2, hrg2⟩
            rw [hbl] at hrl2
            intro p2
            repeat walk_at "z"
            refine z_fz2 ?_
            repeat walk_at "z"
            exact .inl ⟨p2, 0, _, rfl, rfl, hk rs M6 hrl2 hrg2 st6⟩
        · walk_at "z"
          exact ret rows M5 _ _ _ _ _ _ _ _ _ _ hrl hrg st
      have t3 : ∀ (rows : List (List Int)) (M5 : Mem) (o5 o6 o7 : Option D), rows.length = base.length → (∀ r ∈ rows, RowG w 1000 r) → BoxStep M M5 i a →
          ZS { K := K } (tSeq (tIfS (tTest (tOp (rEqZ K) (tVar 1) (tC (V.int 3)))) (tAsg (tLc (iRng1 (tCons (tVar 3) tNil)) (gName 11) tYes (tOp (rAddZ K) (tOp (rIxZ K) (tVar 9) (tVar 11)) (tOp (rIxZ K) (tVar 10) (tVar 11))) [11]) (gSub (tVar 4) (tVar 8) rSetL)) tNext)
            (tSeq (tIfS (tTest (tOp (rEqZ K) (tVar 1) (tC (V.int 4)))) (tAsg (mk (tLc (iSeqZ K (tVar 2)) (gName 5) tYes (tCB (zcall K S_law_row) (tCons (tVar 0) (tCons (tVar 3) (tCons (tC (V.int 1000)) tNil)))) [5])) (gName 4)) tNext) (tRet (fz (tVar 4)))))
            [some (.at a), some (.int way), some (.lst (base.map lD)), some (.int (w : Nat)), some (.at p), o5, o6, o7, some (.int sp), some (lD r1), some (lD r2), none] ((p, .lst (rows.map lD)) :: M5) { nx := fun _ M' => kk .non M', rt := kk } := by
        intro rows M5 o5 o6 o7 hrl hrg st
        have hsp : L2.ixN rows.length sp = some sp.toNat := by unfold L2.ixN; rw [if_pos h03, if_pos (by omega)]
        repeat walk_at "z"
        refine ⟨fun h => ?_, fun h => ?_⟩
        · repeat walk_at "z"
          refine z_lc (own_name (by decide)) (zi_rng1 ?_)
          repeat walk_at "z"
          refine ⟨by omega, by omega, ?_⟩
          rw [Int.toNat_natCast]
          refine LcK.map (fun x => match x with | .int z => .int (gI r1 z.toNat + gI r2 z.toNat) | x => x) (by rw [rngD_len]; exact Nat.le_trans hw (by decide)) ?_ ?_
          · intro n x hx
            obtain ⟨hn, rfl⟩ := rngD_get hx
            rw [Int.zero_add]
            repeat walk_at "z"
            refine zr_ix .lst (zI_at (i := n) (by rw [g1.1]; exact hn)) ?_
            repeat walk_at "z"
            refine zr_ix .lst (zI_at (i := n) (by rw [g2.1]; exact hn)) ?_
            repeat walk_at "z"
            exact ⟨rfl, rfl⟩
          have e2 : (rngD 0 w).map (fun x => match x with | .int z => .int (gI r1 z.toNat + gI r2 z.toNat) | x => x) = zI ((List.range w).map fun n => gI r1 n + gI r2 n) := by
            unfold rngD zI; rw [List.map_map, List.map_map]
            exact List.map_congr_left fun n _ => by simp
          rw [e2]
          have hsum : RowG w 1000 ((List.range w).map fun n => gI r1 n + gI r2 n) := by
            refine ⟨by simp, fun e he => ?_⟩
            obtain ⟨n, hn, rfl⟩ := List.mem_map.mp he
            have hn := List.mem_range.mp hn
            have h1 := g1.2 _ (List.mem_of_getElem? (gI_some (r := r1) (i := n) (by rw [g1.1]; exact hn)))
            have h2 := g2.2 _ (List.mem_of_getElem? (gI_some (r := r2) (i := n) (by rw [g2.1]; exact hn)))
            omega
          refine zg_setL ?_
          repeat walk_at "z"
          refine ⟨p, 0, _, sp, sp.toNat, rfl, rfl, rfl, by rw [List.length_map]; exact hsp, ?_⟩
          show ZS _ _ _ ((p, MO.lst ((rows.map lD).set sp.toNat (lD _))) :: M5) _
          rw [hsetm]
          exact t4 _ M5 _ _ _ _ (by rw [List.length_set]; exact hrl) (hsetg rows _ hrg hsum) st
        · walk_at "z"
          exact t4 rows M5 _ _ _ _ hrl hrg st
      walk_at "z"
      walk_at "z"
      repeat walk_at "z"
      refine ⟨fun h => ?_, fun h => ?_⟩
      · repeat walk_at "z"
        refine zc_call (S := S_law_entry) ⟨i + 1, a, 9, rfl, by decide, st5.box.cons, fun wt M6' hwt st6' => ?_⟩
        obtain ⟨M6, rfl, st6⟩ := st6'.uncons
        repeat walk_at "z"
        refine z_lc (own_name (by decide)) (zi_seq ?_)
        repeat walk_at "z"
        refine ⟨_, .lst, LcK.map (fun x => match x with | .int e => .int (e * wt) | x => x) (by rw [zI_len, g1.1]; exact Nat.le_trans hw (by decide)) ?_ ?_⟩
        · intro n x hx
          obtain ⟨e, he, rfl⟩ := zI_get hx
          repeat walk_at "z"
          exact zr_mulI (.right (Nat.lt_of_le_of_lt hwt (by decide))) ⟨rfl, rfl⟩
        have e1 : (zI r1).map (fun x => match x with | .int e => .int (e * wt) | x => x) = zI (r1.map (· * wt)) := by
          unfold zI; rw [List.map_map, List.map_map]; rfl
        rw [e1]
        refine zg_setL ?_
        repeat walk_at "z"
        refine ⟨p, 0, _, sp, sp.toNat, rfl, rfl, rfl, by rw [List.length_map]; exact hsp, ?_⟩
        show ZS _ _ _ ((p, MO.lst ((rows.map lD).set sp.toNat (lD _))) :: M6) _
        rw [hsetm]
        exact t3 _ M6 _ _ _ (by rw [List.length_set]; exact hrl) (hsetg rows _ hrg ((scaled_row g1 hwt).mono (by decide))) (st25.trans st6)
      · walk_at "z"
        exact t3 rows M5 _ _ _ hrl hrg st25
end
end Qk02
set_option Elab.async false
set_option linter.all false
set_option maxRecDepth 100000
set_option maxHeartbeats 4000000
namespace Qk02
open PySem PySem.Spec PyProof.Rows L2 StX Z
local macro_rules | `(tactic| walk_at "z") => `(tactic| first
  | with_reducible refine zs_seq ?_
  | with_reducible refine zs_nil ?_
  | with_reducible refine zs_asg ?_
  | with_reducible refine zg_name ?_
  | (with_reducible refine z_var (d := ?zd) ?zh ?zk); (case zh => rfl)
  | with_reducible refine z_int ?_
  | with_reducible refine z_bl ?_
  | with_reducible refine z_non ?_
  | with_reducible refine z_ty ?_
  | with_reducible refine z_op ?_
  | with_reducible refine z_un ?_
  | with_reducible refine za_nil ?_
  | with_reducible refine za_cons ?_
  | with_reducible refine z_cb ?_
  | with_reducible refine z_tup ?_
  | with_reducible refine z_lst ?_
  | with_reducible refine z_lstM ?_
  | with_reducible refine zs_drop ?_
  | with_reducible refine zs_ret ?_
  | with_reducible refine zs_retN ?_
  | with_reducible refine zs_if ?_
  | with_reducible refine zt_test ?_
  | with_reducible refine zt_not ?_
  | with_reducible refine zt_truth ?_
  | with_reducible refine zr_addI ?_
  | with_reducible refine zr_sub ?_
  | with_reducible refine zr_lt ?_
  | with_reducible refine zr_le ?_
  | with_reducible refine zr_gt ?_
  | with_reducible refine zr_ge ?_
  | with_reducible refine zr_eqI ?_
  | with_reducible refine zr_neI ?_
  | with_reducible refine zr_isN ?_
  | with_reducible refine zr_notN ?_
  | with_reducible refine zu_neg ?_
  | with_reducible refine zc_abs ?_
  | with_reducible refine zc_gcd ?_
  | with_reducible refine zc_int ?_
  | with_reducible refine zc_max2 ?_
  | with_reducible refine zc_min2 ?_
  | with_reducible refine zg_tup rfl ?_
  | with_reducible refine zgs_cons ?_
  | with_reducible refine zgs_nil ?_
  | with_reducible refine ⟨_, rfl, ?_⟩
  | with_reducible refine zt_yes ?_
  | (with_reducible refine And.intro ?zl ?zk); (case zl => exact Nat.le_of_ble_eq_true rfl))
section
variable {K : Fg} {c : Cz}
structure CG (w : Nat) (rows : List (List Int)) (t : List Int) : Prop where
  w8 : w ≤ 8
  n9 : rows.length ≤ w + 1
  rows : ∀ r ∈ rows, RowG w (2 ^ 20) r
  t : RowG w (2 ^ 20) t
def PermP (S : Sv) (n : Nat) : Prop := (S.map fun po => ((po.1 : Nat) : Int)).Perm ((List.range n).map fun i => ((i : Nat) : Int))
structure ROk (w : Nat) (rows : List (List Int)) (t : List Int) : Prop where
  good : CG w rows t
  l : LOk w rows
  l2 : LOk w (rows ++ [t])
  e : EOk (rows.length + 1) (colsI (rows ++ [t]) w)
  el : (elim (colsI (rows ++ [t]) w)).length ≤ 1000
  po : ∀ po ∈ elim (colsI (rows ++ [t]) w), po.2.length = rows.length + 1 ∧ gI po.2 po.1 ≠ 0 ∧ Bd 4000 po.2
  nd : ((elim (colsI (rows ++ [t]) w)).map fun po => ((po.1 : Nat) : Int)).Nodup
  yes : PermP (elim (colsI (rows ++ [t]) w)) rows.length → (lrun rows w).2 = rows.length ∧ (lrun (rows ++ [t]) w).2 ≤ rows.length ∧ ∀ told, CombOk (elim (colsI (rows ++ [t]) w)) rows.length told →
    (∀ TB ∈ told, 1 ≤ TB.2 ∧ TB.1.natAbs < 2 ^ 300 ∧ TB.2.natAbs < 2 ^ 300 ∧ Nat.gcd TB.1.natAbs TB.2.natAbs = 1) ∧ ∀ cc, cc < w → ((List.range rows.length).map fun j => share told j * gI (rows[j]?.getD []) cc).sum = gI t cc * comm told
  no : ¬ PermP (elim (colsI (rows ++ [t]) w)) rows.length → (lrun rows w).2 < rows.length ∨ (lrun rows w).2 < (lrun (rows ++ [t]) w).2
def S_law_right : ZSp := fun ds M k => ∃ (rows : List (List Int)) (w : Nat) (t : List Int), ds = [.tup (rows.map rD), .int (w : Nat), rD t] ∧ ROk w rows t ∧ k (.bl true) M
theorem z_law_right {kk : D → Mem → Prop} {ds : List D} {M : Mem} (h : S_law_right ds M kk) : ZS { K := K } (t_law_right K S_combination S_law_rank S_law_is_fraction S_law_adds_up) (startD N_law_right ds) M { nx := fun _ M' => kk .non M', rt := kk } := by
  obtain ⟨rows, w, t, rfl, O, hk⟩ := h
  have hrl : (rows.map rD).length = rows.length := List.length_map ..
  have hw8 := O.good.w8
  have hn9 := O.good.n9
  have e2 : rows.map rD ++ [rD t] = (rows ++ [t]).map rD := by rw [List.map_append]; rfl
  unfold t_law_right
  repeat walk_at "z"
  refine zc_call (S := S_combination) ⟨rows, t, w, rfl, by omega, by omega, fun r hr => ?_, O.e, O.el, O.po, O.nd, fun hp told htold => ?_, fun hp => ?_⟩
  · rcases List.mem_append.mp hr with hr | hr
    · exact (O.good.rows r hr).1
    · rw [List.mem_singleton.mp hr]; exact O.good.t.1
  · obtain ⟨y1, y2, y3⟩ := O.yes hp
    obtain ⟨y4, y5⟩ := y3 told htold
    have htl := htold.1
    have hl1 := O.l
    have hl2 := O.l2
    generalize hf1 : lrun rows w = f1 at y1
    generalize hf2 : lrun (rows ++ [t]) w = f2 at y2
    repeat walk_at "z"
    refine zc_call (S := S_law_rank) ⟨_, rows, w, rfl, .inl rfl, hl1, ?_⟩
    rw [hf1, y1]
    walk_at "z"
    walk_at "z"
    walk_at "z"
    refine zt_or ?_
    repeat walk_at "z"
    refine zc_len .tup ?_
    rw [hrl]
    repeat walk_at "z"
    refine ⟨fun h => ?_, fun _ => ?_⟩
    · exfalso; have := of_decide_eq_true h; omega
    repeat walk_at "z"
    refine zc_list .tup ?_
    repeat walk_at "z"
    refine zr_addL (ys := [rD t]) .lst .lst (by rw [hrl]; show rows.length + 1 ≤ 16777216; omega) ?_
    rw [e2]
    repeat walk_at "z"
    refine zc_call (S := S_law_rank) ⟨_, rows ++ [t], w, rfl, .inr rfl, hl2, ?_⟩
    rw [hf2]
    repeat walk_at "z"
    refine ⟨fun h => ?_, fun _ => ?_⟩
    · exfalso; have := of_decide_eq_true h; omega
    walk_at "z"
    walk_at "z"
    walk_at "z"
    refine zt_or ?_
    repeat walk_at "z"
    refine zc_isi (T := "tuple") rfl kit_tt ?_
    refine ⟨_, .bl true, fun h => absurd h (by decide), fun _ => ?_⟩
    repeat walk_at "z"
    refine zc_len .tup ?_
    repeat walk_at "z"
    refine zc_len .tup ?_
    rw [hrl, List.length_map, htl]
    repeat walk_at "z"
    refine ⟨fun h => ?_, fun _ => ?_⟩
    · exfalso; simp at h
    repeat walk_at "z"
    refine zs_for (zi_seq ?_)
    repeat walk_at "z"
    refine ⟨_, .tup, fun i Γ M' => M' = M ∧ ∃ o, Γ = [some (.tup (rows.map rD)), some (.int (w : Nat)), some (rD t), some (.tup (told.map frD)), some (.int (rows.length : Nat)), o], ⟨rfl, none, rfl⟩, ?_, ?_⟩
    · rintro i x Γ1 M1 hx ⟨rfl, o, rfl⟩
      obtain ⟨TB, hTB, rfl⟩ := map_get hx
      obtain ⟨h1, h2, h3, h4⟩ := y4 TB (List.mem_of_getElem? hTB)
      repeat walk_at "z"
      refine zc_call (S := S_law_is_fraction) ⟨TB.1, TB.2, rfl, h1, h4, ?_⟩
      refine ⟨_, .bl true, fun h => absurd h (by decide), fun _ => ?_⟩
      repeat walk_at "z"
      exact ⟨rfl, _, rfl⟩
    · rintro Γ1 M1 ⟨rfl, o, rfl⟩
      repeat walk_at "z"
      exact zc_call (S := S_law_adds_up) ⟨rows, told, t, w, rfl, htl, by omega, hw8, O.good.rows, O.good.t, fun TB h => ⟨(y4 TB h).1, (y4 TB h).2.1, (y4 TB h).2.2.1⟩, y5, hk⟩
  · have hno := O.no hp
    have hl1 := O.l
    have hl2 := O.l2
    generalize hf1 : lrun rows w = f1 at hno
    generalize hf2 : lrun (rows ++ [t]) w = f2 at hno
    repeat walk_at "z"
    refine zc_call (S := S_law_rank) ⟨_, rows, w, rfl, .inl rfl, hl1, ?_⟩
    rw [hf1]
    walk_at "z"
    walk_at "z"
    walk_at "z"
    refine zt_or ?_
    repeat walk_at "z"
    refine zc_len .tup ?_
    rw [hrl]
    repeat walk_at "z"
    refine ⟨fun _ => ⟨fun _ => ?_, fun h => absurd h (by decide)⟩, fun h0 => ?_⟩
    · repeat walk_at "z"
      exact hk
    have h0 := of_decide_eq_false h0
    repeat walk_at "z"
    refine zc_list .tup ?_
    repeat walk_at "z"
    refine zr_addL (ys := [rD t]) .lst .lst (by rw [hrl]; show rows.length + 1 ≤ 16777216; omega) ?_
    rw [e2]
    repeat walk_at "z"
    refine zc_call (S := S_law_rank) ⟨_, rows ++ [t], w, rfl, .inr rfl, hl2, ?_⟩
    rw [hf2]
    repeat walk_at "z"
    refine ⟨fun _ => ?_, fun h => ?_⟩
    · repeat walk_at "z"
      exact hk
    · exfalso; have := of_decide_eq_false h; omega

theorem z_law (hR : ∀ w rows t, CG w rows t → ROk w rows t) {kk : D → Mem → Prop} {ds : List D} {M : Mem} (h : SLaw ds M kk) : ZS { K := K } (t_law K S_law_box S_law_problem S_law_take S_law_bent_rows S_law_bent_target S_law_right) (startD N_law ds) M { nx := fun _ M' => kk .non M', rt := kk } := by
  obtain ⟨ns, rfl, rfl, hl, hk⟩ := h
  have hns : (ns.map D.int).length = ns.length := List.length_map ..
  unfold t_law
  walk_at "z"
  refine zs_for (zi_rng1 ?_)
  repeat walk_at "z"
  refine zc_len .scr ?_
  rw [hns]
  repeat walk_at "z"
  refine ⟨by omega, by omega, ?_⟩
  refine ⟨fun i Γ M' => ∃ o1 o2 o3 o4 o5 o6 o7 o8 o9, Γ = [some (.scr (ns.map D.int)), o1, o2, o3, o4, o5, o6, o7, o8, o9], ⟨none, none, none, none, none, none, none, none, none, rfl⟩, ?_, ?_⟩
  · rintro i x Γ1 M1 hx ⟨o1, o2, o3, o4, o5, o6, o7, o8, o9, rfl⟩
    obtain ⟨hi, rfl⟩ := rngD_get hx
    rw [Int.zero_add]
    repeat walk_at "z"
    refine z_fz2 ?_
    repeat walk_at "z"
    refine zc_call (S := S_law_box) ⟨ns, i, rfl, by omega, hl, fun p M2 hb _ => .inr ?_⟩
    repeat walk_at "z"
    refine zc_call (S := S_law_problem) ⟨0, p, rfl, hb, fun base w t M3 G Gt st3 => ?_⟩
    repeat walk_at "z"
    refine zc_call (S := S_law_take) ⟨0, p, _, rfl, by decide, by decide, st3.box, fun way M4 _ _ st4 => ?_⟩
    repeat walk_at "z"
    refine zc_call (S := S_law_bent_rows) ⟨0, p, way, base, w, rfl, G, st4.box, fun rows M5 hrl hrg st5 => ?_⟩
    repeat walk_at "z"
    refine zc_call (S := S_law_bent_target) ⟨0, p, way, w, t, rfl, G.w8, Gt, st5.box, fun t' M6 Gt' st6 => ?_⟩
    have hG : CG w rows t' := ⟨G.w8, by rw [hrl]; exact G.n9, fun r hr => (hrg r hr).mono (by decide), Gt'.mono (by decide)⟩
    have O := hR w rows t' hG
    repeat walk_at "z"
    refine z_lc (own_name (by decide)) (zi_seq ?_)
    repeat walk_at "z"
    refine ⟨_, .lst, LcK.map (fun x => match x with | .lst r => .tup r | x => x) (by rw [List.length_map]; exact Nat.le_trans hG.n9 (Nat.le_trans (Nat.succ_le_succ hG.w8) (by decide))) ?_ ?_⟩
    · intro j x hx
      obtain ⟨r, hr, rfl⟩ := map_get hx
      repeat walk_at "z"
      exact zc_tuple .lst ⟨rfl, rfl⟩
    have e1 : (rows.map lD).map (fun x => match x with | .lst r => .tup r | x => x) = rows.map rD := by rw [List.map_map]; rfl
    rw [e1]
    repeat walk_at "z"
    refine zc_tuple .lst ?_
    repeat walk_at "z"
    refine zc_tuple .lst ?_
    repeat walk_at "z"
    refine zc_call (S := S_law_right) ⟨rows, w, t', rfl, O, ?_⟩
    refine ⟨_, .bl true, fun h => absurd h (by decide), fun _ => ?_⟩
    repeat walk_at "z"
    exact ⟨_, _, _, _, _, _, _, _, _, rfl⟩
  · rintro Γ1 M1 ⟨o1, o2, o3, o4, o5, o6, o7, o8, o9, rfl⟩
    repeat walk_at "z"
    exact hk M1
end
end Qk02
set_option Elab.async false
set_option linter.all false
set_option maxRecDepth 100000
set_option maxHeartbeats 4000000
/-! M03a: sums, Siegel's lemma by pigeonhole, rank by annihilators. -/
namespace Qk02
def sm : Nat → (Nat → Int) → Int
  | 0, _ => 0
  | n + 1, f => sm n f + f n
theorem sm_congr {f g : Nat → Int} : ∀ {n : Nat}, (∀ x, x < n → f x = g x) → sm n f = sm n g
  | 0, _ => rfl
  | n + 1, h => by rw [sm, sm, sm_congr fun x hx => h x (Nat.lt_succ_of_lt hx), h n (Nat.lt_succ_self n)]
theorem sm_add (f g : Nat → Int) : ∀ n, sm n (fun x => f x + g x) = sm n f + sm n g
  | 0 => rfl
  | n + 1 => by rw [sm, sm, sm, sm_add f g n]; omega
theorem sm_mul (a : Int) (f : Nat → Int) : ∀ n, sm n (fun x => a * f x) = a * sm n f
  | 0 => by simp [sm]
  | n + 1 => by rw [sm, sm, sm_mul a f n, Int.mul_add]
theorem sm_zero {f : Nat → Int} {n : Nat} (h : ∀ x, x < n → f x = 0) : sm n f = 0 := by
  rw [sm_congr (g := fun _ => 0) h]
  induction n with
  | zero => rfl
  | succ n ih => rw [sm, ih fun x hx => h x (Nat.lt_succ_of_lt hx)]; rfl
theorem sm_single {f : Nat → Int} {p : Nat} : ∀ {n : Nat}, p < n → (∀ x, x < n → x ≠ p → f x = 0) → sm n f = f p
  | 0, h, _ => absurd h (Nat.not_lt_zero p)
  | n + 1, h, hz => by
    rw [sm]
    by_cases e : p = n
    · subst e; rw [sm_zero fun x hx => hz x (Nat.lt_succ_of_lt hx) (Nat.ne_of_lt hx)]; omega
    · rw [sm_single (by omega) fun x hx hne => hz x (Nat.lt_succ_of_lt hx) hne, hz n (Nat.lt_succ_self n) (Ne.symm e)]; omega
theorem sm_comm (f : Nat → Nat → Int) (m : Nat) : ∀ n, sm n (fun x => sm m (fun y => f x y)) = sm m (fun y => sm n fun x => f x y)
  | 0 => by rw [sm]; exact (sm_zero fun _ _ => rfl).symm
  | n + 1 => by
    rw [sm, sm_comm f m n, ← sm_add]
    exact sm_congr fun x _ => rfl
theorem sm_abs {f : Nat → Int} {B : Nat} : ∀ {n : Nat}, (∀ x, x < n → (f x).natAbs ≤ B) → (sm n f).natAbs ≤ n * B
  | 0, _ => by simp [sm]
  | n + 1, h => by
    have h1 := sm_abs (n := n) fun x hx => h x (Nat.lt_succ_of_lt hx)
    have h2 := h n (Nat.lt_succ_self n)
    rw [sm, Nat.succ_mul]; omega
theorem sm_le_of {f : Nat → Int} {x : Nat} : ∀ {n : Nat}, x < n → (f x).natAbs ≤ (sm n fun x => ((f x).natAbs : Int)).toNat
  | 0, h => absurd h (Nat.not_lt_zero x)
  | n + 1, h => by
    have pos : ∀ n, 0 ≤ sm n fun x => ((f x).natAbs : Int) := fun n => by
      induction n with
      | zero => exact Int.le_refl 0
      | succ n ih => rw [sm]; omega
    have hp := pos n
    rw [sm]
    by_cases e : x = n
    · subst e; omega
    · have := sm_le_of (f := f) (n := n) (x := x) (by omega); omega
def dot (n : Nat) (u y : Nat → Int) : Int := sm n fun x => u x * y x

/-! ### pigeonhole -/
theorem filter_split {α : Type} (p : α → Bool) : ∀ L : List α, L.length = (L.filter p).length + (L.filter fun x => !p x).length
  | [] => rfl
  | x :: L => by
    have := filter_split p L
    rw [List.filter_cons, List.filter_cons]
    cases p x <;> simp <;> omega
theorem pigeon_class {B : Nat} (f : Nat → Nat) : ∀ (Q : Nat) (L : List Nat), (∀ t ∈ L, f t < Q) → (∀ q, q < Q → (L.filter fun t => decide (f t = q)).length ≤ B) → L.length ≤ Q * B
  | 0, L, h, _ => by
    cases L with
    | nil => simp
    | cons t L => exact absurd (h t List.mem_cons_self) (Nat.not_lt_zero _)
  | Q + 1, L, h, hc => by
    have e := filter_split (fun t => decide (f t = Q)) L
    have h1 := hc Q (Nat.lt_succ_self Q)
    have h2 := pigeon_class f Q (L.filter fun t => !decide (f t = Q)) (fun t ht => by
      obtain ⟨ht1, ht2⟩ := List.mem_filter.mp ht
      have := h t ht1
      have hne : f t ≠ Q := by simpa using ht2
      omega) (fun q hq => by
      refine Nat.le_trans ?_ (hc q (Nat.lt_succ_of_lt hq))
      exact List.Sublist.length_le (List.filter_sublist.filter _))
    rw [Nat.succ_mul]; omega
theorem pigeon (Q : Nat) (f : Nat → Nat → Nat) : ∀ (m : Nat) (L : List Nat), L.Nodup → Q ^ m < L.length → (∀ i, i < m → ∀ t ∈ L, f i t < Q) → ∃ s ∈ L, ∃ t ∈ L, s ≠ t ∧ ∀ i, i < m → f i s = f i t
  | 0, L, hn, hl, _ => by
    match L, hn, hl with
    | s :: t :: L, hn, _ =>
      refine ⟨s, List.mem_cons_self, t, List.mem_cons_of_mem _ List.mem_cons_self, fun e => ?_, fun i hi => absurd hi (Nat.not_lt_zero i)⟩
      subst e
      exact (List.nodup_cons.mp hn).1 List.mem_cons_self
    | [s], _, hl => simp at hl
    | [], _, hl => simp at hl
  | m + 1, L, hn, hl, hb => by
    by_cases h : ∃ q, q < Q ∧ Q ^ m < (L.filter fun t => decide (f m t = q)).length
    · obtain ⟨q, hq, hlt⟩ := h
      obtain ⟨s, hs, t, ht, hne, heq⟩ := pigeon Q f m (L.filter fun t => decide (f m t = q)) (hn.filter _) hlt fun i hi t ht => hb i (Nat.lt_succ_of_lt hi) t (List.mem_filter.mp ht).1
      obtain ⟨hs1, hs2⟩ := List.mem_filter.mp hs
      obtain ⟨ht1, ht2⟩ := List.mem_filter.mp ht
      refine ⟨s, hs1, t, ht1, hne, fun i hi => ?_⟩
      by_cases e : i = m
      · subst e; rw [of_decide_eq_true hs2, of_decide_eq_true ht2]
      · exact heq i (by omega)
    · exfalso
      have := pigeon_class (B := Q ^ m) (f m) Q L (fun t ht => hb m (Nat.lt_succ_self m) t ht) (fun q hq => Nat.le_of_not_lt fun hlt => h ⟨q, hq, hlt⟩)
      rw [Nat.pow_succ, Nat.mul_comm] at hl
      omega
theorem digits {b s t : Nat} : ∀ k, (∀ x, x < k → s / b ^ x % b = t / b ^ x % b) → s % b ^ k = t % b ^ k
  | 0, _ => by simp [Nat.mod_one]
  | k + 1, h => by rw [Nat.mod_pow_succ, Nat.mod_pow_succ, digits k fun x hx => h x (Nat.lt_succ_of_lt hx), h k (Nat.lt_succ_self k)]
theorem siegel {m k A : Nat} (a : Nat → Nat → Int) (hA : 1 ≤ A) (h : ∀ i, i < m → ∀ x, x < k → (a i x).natAbs ≤ A) (hmk : m < k) :
    ∃ c : Nat → Int, (∃ x, x < k ∧ c x ≠ 0) ∧ (∀ x, (c x).natAbs ≤ (2 * k * A) ^ m) ∧ ∀ i, i < m → sm k (fun x => c x * a i x) = 0 := by
  generalize hN : (2 * k * A) ^ m = N
  have h2 : 1 ≤ 2 * k * A := by
    have h3 : 1 ≤ 2 * k := by omega
    exact Nat.le_trans h3 (Nat.le_mul_of_pos_right _ hA)
  let dg : Nat → Nat → Nat := fun t x => t / (N + 1) ^ x % (N + 1)
  let val : Nat → Nat → Int := fun i t => sm k fun x => (dg t x : Int) * a i x
  have hd : ∀ t x, dg t x ≤ N := fun t x => Nat.le_of_lt_succ (Nat.mod_lt _ (Nat.succ_pos N))
  have hv : ∀ i, i < m → ∀ t, (val i t).natAbs ≤ k * (N * A) := fun i hi t => sm_abs fun x hx => by
    rw [Int.natAbs_mul, Int.natAbs_natCast]; exact Nat.mul_le_mul (hd t x) (h i hi x hx)
  have hQ : (2 * (k * (N * A)) + 1) ^ m < (N + 1) ^ k := by
    have h3 : 2 * (k * (N * A)) + 1 ≤ 2 * k * A * (N + 1) := by
      have : 2 * (k * (N * A)) = 2 * k * A * N := by
        rw [Nat.mul_comm N A, ← Nat.mul_assoc k A N, ← Nat.mul_assoc 2, ← Nat.mul_assoc 2 k A]
      rw [this, Nat.mul_add, Nat.mul_one]; omega
    refine Nat.lt_of_le_of_lt (Nat.pow_le_pow_left h3 m) ?_
    rw [Nat.mul_pow, hN]
    have h4 : N * (N + 1) ^ m < (N + 1) ^ (m + 1) := by
      rw [Nat.pow_succ, Nat.mul_comm _ (N + 1)]
      exact Nat.mul_lt_mul_of_pos_right (Nat.lt_succ_self N) (Nat.pow_pos (Nat.succ_pos N))
    exact Nat.lt_of_lt_of_le h4 (Nat.pow_le_pow_right (Nat.succ_pos N) hmk)
  obtain ⟨s, hs, t, ht, hne, heq⟩ := pigeon (2 * (k * (N * A)) + 1) (fun i t => (val i t + (k * (N * A) : Nat)).toNat) m (List.range ((N + 1) ^ k)) List.nodup_range (by rw [List.length_range]; exact hQ) (fun i hi t _ => by
    have := hv i hi t
    show (val i t + (k * (N * A) : Nat)).toNat < 2 * (k * (N * A)) + 1
    generalize k * (N * A) = B at this ⊢
    omega)
  have hs := List.mem_range.mp hs
  have ht := List.mem_range.mp ht
  refine ⟨fun x => (dg s x : Int) - dg t x, ?_, fun x => ?_, fun i hi => ?_⟩
  · by_cases hc : ∃ x, x < k ∧ dg s x ≠ dg t x
    · obtain ⟨x, hx, hx2⟩ := hc
      exact ⟨x, hx, by show (dg s x : Int) - dg t x ≠ 0; omega⟩
    · exfalso
      apply hne
      have := digits (b := N + 1) (s := s) (t := t) k fun x hx => Classical.byContradiction fun hxx => hc ⟨x, hx, hxx⟩
      rwa [Nat.mod_eq_of_lt hs, Nat.mod_eq_of_lt ht] at this
  · have h1 := hd s x
    have h3 := hd t x
    show ((dg s x : Int) - dg t x).natAbs ≤ N
    omega
  · have h1 : (val i s + (k * (N * A) : Nat)).toNat = (val i t + (k * (N * A) : Nat)).toNat := heq i hi
    have h3 := hv i hi s
    have h4 := hv i hi t
    have h5 : val i s = val i t := by
      generalize k * (N * A) = B at h1 h3 h4
      omega
    have e : sm k (fun x => ((dg s x : Int) - dg t x) * a i x) = val i s + (-1) * val i t := by
      show _ = sm k _ + (-1) * sm k _
      rw [← sm_mul, ← sm_add]
      refine sm_congr fun x _ => ?_
      rw [Int.sub_mul]; omega
    rw [e, h5]; omega

/-! ### a vector given at some places -/
def spread (k : Nat) (P : Nat → Nat) (c : Nat → Int) (x : Nat) : Int := sm k fun j => if P j = x then c j else 0
theorem spread_at {k : Nat} {P : Nat → Nat} {c : Nat → Int} (inj : ∀ i, i < k → ∀ j, j < k → P i = P j → i = j) {i : Nat} (hi : i < k) : spread k P c (P i) = c i := by
  unfold spread
  rw [sm_single hi fun x hx hne => if_neg fun e => hne (inj x hx i hi e), if_pos rfl]
theorem spread_out {k : Nat} {P : Nat → Nat} {c : Nat → Int} {x : Nat} (h : ∀ i, i < k → x ≠ P i) : spread k P c x = 0 := sm_zero fun i hi => if_neg fun e => h i hi e.symm
theorem dot_spread {n k : Nat} {P : Nat → Nat} {c u : Nat → Int} (hP : ∀ i, i < k → P i < n) : dot n u (spread k P c) = sm k fun j => c j * u (P j) := by
  unfold dot spread
  have e : ∀ x, u x * sm k (fun j => if P j = x then c j else 0) = sm k fun j => u x * (if P j = x then c j else 0) := fun x => (sm_mul (u x) _ k).symm
  rw [sm_congr fun x _ => e x, sm_comm]
  refine sm_congr fun j hj => ?_
  rw [sm_single (hP j hj) fun x _ hne => by rw [if_neg (Ne.symm hne)]; simp, if_pos rfl, Int.mul_comm]
/-- u' stands apart on the places P, and is killed by what u kills: it has no more rows -/
theorem rank_le {n k k' : Nat} {u u' : Nat → Nat → Int} {P : Nat → Nat} (hP : ∀ i, i < k' → P i < n) (inj : ∀ i, i < k' → ∀ j, j < k' → P i = P j → i = j)
    (hAnn : ∀ y, (∀ i, i < k → dot n (u i) y = 0) → ∀ i, i < k' → dot n (u' i) y = 0)
    (hnd : ∀ y, (∀ x, (∀ i, i < k' → x ≠ P i) → y x = 0) → (∀ i, i < k' → dot n (u' i) y = 0) → ∀ i, i < k' → y (P i) = 0) : k' ≤ k := by
  refine Nat.le_of_not_lt fun hlt => ?_
  let A : Nat := (sm k fun i => ((sm k' fun j => ((u i (P j)).natAbs : Int)).natAbs : Int)).toNat + 1
  obtain ⟨c, ⟨j, hj, hcj⟩, _, hc⟩ := siegel (A := A) (fun i j => u i (P j)) (Nat.le_add_left 1 _) (fun i hi x hx => by
    have h1 := sm_le_of (f := fun i => ((sm k' fun j => ((u i (P j)).natAbs : Int)))) (n := k) hi
    have h2 := sm_le_of (f := fun j => u i (P j)) (n := k') hx
    show _ ≤ (sm k _).toNat + 1
    omega) hlt
  have h1 := hnd (spread k' P c) (fun x hx => spread_out hx) (hAnn _ fun i hi => by rw [dot_spread hP]; exact hc i hi) j hj
  rw [spread_at inj hj] at h1
  exact hcj h1
end Qk02
set_option Elab.async false
set_option linter.all false
set_option maxRecDepth 100000
set_option maxHeartbeats 4000000
/-! M03b: what an elimination leaves: a reduced system. -/
namespace Qk02
theorem gI_out {r : List Int} {x : Nat} (h : r.length ≤ x) : gI r x = 0 := by unfold gI; rw [List.getElem?_eq_none h]; rfl
theorem gI_mem {r : List Int} {x : Nat} : gI r x = 0 ∨ gI r x ∈ r := by
  rcases Nat.lt_or_ge x r.length with h | h
  · exact .inr (List.mem_of_getElem? (gI_some h))
  · exact .inl (gI_out h)
theorem gI_map {f : Int → Int} (h0 : f 0 = 0) (r : List Int) (x : Nat) : gI (r.map f) x = f (gI r x) := by
  unfold gI; rw [List.getElem?_map]
  cases r[x]? with
  | none => exact h0.symm
  | some e => rfl
theorem gI_zip {f : Int → Int → Int} (h0 : f 0 0 = 0) {r o : List Int} (hl : r.length = o.length) (x : Nat) : gI (List.zipWith f r o) x = f (gI r x) (gI o x) := by
  rcases Nat.lt_or_ge x r.length with h | h
  · have e1 := gI_some h
    have e2 := gI_some (r := o) (i := x) (by omega)
    have : (List.zipWith f r o)[x]? = some (f (gI r x) (gI o x)) := by rw [List.getElem?_zipWith, e1, e2]
    exact gI_of this
  · rw [gI_out h, gI_out (r := o) (by omega), gI_out (by simp; omega), h0]
theorem gcdL_dvdI (r : List Int) (x : Nat) : ((gcdL r : Nat) : Int) ∣ gI r x := by
  rcases gI_mem (r := r) (x := x) with h | h
  · rw [h]; exact Int.dvd_zero _
  · exact Int.ofNat_dvd_left.mpr (gcdL_dvd r _ h)
theorem dvd_gcdL {d : Nat} : ∀ {r : List Int}, (∀ e ∈ r, d ∣ e.natAbs) → d ∣ gcdL r := by
  have key : ∀ (r : List Int) (g : Nat), d ∣ g → (∀ e ∈ r, d ∣ e.natAbs) → d ∣ r.foldl (fun g e => Nat.gcd g e.natAbs) g := by
    intro r
    induction r with
    | nil => intro g hg _; exact hg
    | cons x r ih => intro g hg h; exact ih _ (Nat.dvd_gcd hg (h x List.mem_cons_self)) fun e he => h e (List.mem_cons_of_mem _ he)
  intro r h
  exact key r 0 (Nat.dvd_zero d) h
theorem gcdL_zero {r : List Int} (h : gcdL r = 0) (x : Nat) : gI r x = 0 := by
  have := gcdL_dvdI r x
  rw [h] at this
  exact Int.zero_dvd.mp this
theorem prim_gI (r : List Int) (x : Nat) : gI (prim r) x = if gcdL r = 0 then gI r x else gI r x / (gcdL r : Int) := by
  unfold prim
  split
  · rfl
  · exact gI_map (by simp) r x
theorem prim_spec (r : List Int) : ∃ g : Int, g ≠ 0 ∧ ∀ x, g * gI (prim r) x = gI r x := by
  by_cases h : gcdL r = 0
  · refine ⟨1, by decide, fun x => ?_⟩
    rw [prim_gI, if_pos h]; omega
  · refine ⟨gcdL r, by omega, fun x => ?_⟩
    rw [prim_gI, if_neg h]
    exact Int.mul_ediv_cancel' (gcdL_dvdI r x)
theorem prim_abs (r : List Int) (x : Nat) : (gI (prim r) x).natAbs ≤ (gI r x).natAbs := by
  rw [prim_gI]
  split
  · exact Nat.le_refl _
  · have := Int.natAbs_ediv_le_natAbs (gI r x) (gcdL r : Int); exact this
theorem prim_gcd {r : List Int} (h : gcdL r ≠ 0) : gcdL (prim r) = 1 := by
  have hd : gcdL (prim r) * gcdL r ∣ gcdL r := dvd_gcdL fun e he => by
    obtain ⟨i, hi⟩ := List.mem_iff_getElem?.mp he
    have e1 : gI r i = e := gI_of hi
    have h1 := gcdL_dvdI (prim r) i
    have h2 : (gcdL r : Int) * gI (prim r) i = e := by
      rw [prim_gI, if_neg h, ← e1]
      exact Int.mul_ediv_cancel' (gcdL_dvdI r i)
    have h3 : ((gcdL (prim r) * gcdL r : Nat) : Int) ∣ e := by
      rw [← h2, Int.natCast_mul, Int.mul_comm]
      exact Int.mul_dvd_mul (Int.dvd_refl _) h1
    exact Int.ofNat_dvd_left.mp h3
  have hp : 0 < gcdL r := Nat.pos_of_ne_zero h
  have := Nat.le_of_dvd hp hd
  have h4 : gcdL (prim r) ≤ 1 := Nat.le_of_mul_le_mul_right (by omega) hp
  have h5 : gcdL (prim r) ≠ 0 := fun e => by rw [e, Nat.zero_mul] at hd; exact h (Nat.eq_zero_of_zero_dvd hd)
  omega
/-- a row cleared at p by o -/
theorem clr_spec {r o : List Int} {p : Nat} (hl : r.length = o.length) (hp : gI o p ≠ 0) : ∃ g a b : Int, g ≠ 0 ∧ a ≠ 0 ∧ (∀ x, g * gI (clr r p o) x = a * gI r x - b * gI o x) ∧ a * gI r p = b * gI o p := by
  unfold clr
  by_cases h : gI r p = 0
  · rw [if_pos h]
    exact ⟨1, 1, 0, by decide, by decide, fun x => by omega, by rw [h]; simp⟩
  · rw [if_neg h]
    obtain ⟨g, hg, e⟩ := prim_spec (List.zipWith (fun e q => gI o p * e - gI r p * q) r o)
    refine ⟨g, gI o p, gI r p, hg, hp, fun x => ?_, Int.mul_comm _ _⟩
    rw [e x, gI_zip (by simp) hl]
theorem clr_at {r o : List Int} {p : Nat} (hl : r.length = o.length) (hp : gI o p ≠ 0) : gI (clr r p o) p = 0 := by
  obtain ⟨g, a, b, hg, ha, e, h⟩ := clr_spec hl hp
  have := e p
  rw [h, Int.sub_self] at this
  exact (Int.mul_eq_zero.mp this).resolve_left hg
theorem clr_zero {r o : List Int} {p x : Nat} (hl : r.length = o.length) (hp : gI o p ≠ 0) (h1 : gI r x = 0) (h2 : gI o x = 0) : gI (clr r p o) x = 0 := by
  obtain ⟨g, a, b, hg, ha, e, h⟩ := clr_spec hl hp
  have := e x
  rw [h1, h2] at this
  exact (Int.mul_eq_zero.mp (by rw [this]; simp)).resolve_left hg
theorem clr_nz {r o : List Int} {p x : Nat} (hl : r.length = o.length) (hp : gI o p ≠ 0) (h1 : gI r x ≠ 0) (h2 : gI o x = 0) : gI (clr r p o) x ≠ 0 := by
  obtain ⟨g, a, b, hg, ha, e, h⟩ := clr_spec hl hp
  have := e x
  rw [h2, Int.mul_zero, Int.sub_zero] at this
  intro hz
  rw [hz, Int.mul_zero] at this
  rcases Int.mul_eq_zero.mp this.symm with h | h
  · exact ha h
  · exact h1 h
theorem dot_lin {n : Nat} {g a b : Int} {u v w y : Nat → Int} (e : ∀ x, g * u x = a * v x - b * w x) : g * dot n u y = a * dot n v y - b * dot n w y := by
  unfold dot
  have h1 : a * sm n (fun x => v x * y x) - b * sm n (fun x => w x * y x) = sm n (fun x => a * (v x * y x)) + sm n (fun x => (-b) * (w x * y x)) := by
    rw [sm_mul, sm_mul, Int.neg_mul]; omega
  rw [h1, ← sm_mul, ← sm_add]
  refine sm_congr fun x _ => ?_
  rw [← Int.mul_assoc, e x, Int.sub_mul, Int.mul_assoc, Int.mul_assoc, Int.neg_mul]; omega
theorem clr_dot {n : Nat} {r o : List Int} {p : Nat} {y : Nat → Int} (hl : r.length = o.length) (hp : gI o p ≠ 0) (ho : dot n (gI o) y = 0) : dot n (gI (clr r p o)) y = 0 ↔ dot n (gI r) y = 0 := by
  obtain ⟨g, a, b, hg, ha, e, h⟩ := clr_spec hl hp
  have := dot_lin (n := n) (y := y) e
  rw [ho, Int.mul_zero, Int.sub_zero] at this
  constructor
  · intro hz
    rw [hz, Int.mul_zero] at this
    exact (Int.mul_eq_zero.mp this.symm).resolve_left ha
  · intro hz
    rw [hz, Int.mul_zero] at this
    exact (Int.mul_eq_zero.mp this).resolve_left hg
theorem clr_prim (r : List Int) (p : Nat) (o : List Int) : clr r p o = r ∨ gcdL (clr r p o) = 1 ∨ ∀ x, gI (clr r p o) x = 0 := by
  unfold clr
  split
  · exact .inl rfl
  · by_cases h : gcdL (List.zipWith (fun e q => gI o p * e - gI r p * q) r o) = 0
    · right; right
      intro x
      rw [prim_gI, if_pos h]; exact gcdL_zero h x
    · exact .inr (.inl (prim_gcd h))

abbrev sv (s : Sv) (i : Nat) : Nat × List Int := s[i]?.getD (0, [])
def U (s : Sv) (i : Nat) : Nat → Int := gI (sv s i).2
def Pv (s : Sv) (i : Nat) : Nat := (sv s i).1
structure RS (n : Nat) (eqs : List (List Int)) (s : Sv) : Prop where
  len : ∀ po ∈ s, po.2.length = n
  nz : ∀ i, i < s.length → U s i (Pv s i) ≠ 0
  zr : ∀ i, i < s.length → ∀ j, j < s.length → i ≠ j → U s i (Pv s j) = 0
  ech : ∀ i, i < s.length → ∀ x, x < Pv s i → U s i x = 0
  ann : ∀ y, (∀ i, i < s.length → dot n (U s i) y = 0) ↔ (∀ e ∈ eqs, dot n (gI e) y = 0)
  prim : ∀ po ∈ s, po.2 ∈ eqs ∨ gcdL po.2 = 1
  base : ∃ B : List (List Int), B.length = s.length ∧ (∀ b ∈ B, b ∈ eqs) ∧ ∀ y, (∀ b ∈ B, dot n (gI b) y = 0) → ∀ i, i < s.length → dot n (U s i) y = 0
section
variable {n : Nat} {eqs : List (List Int)} {s : Sv}
theorem sv_mem {i : Nat} (h : i < s.length) : sv s i ∈ s ∧ s[i]? = some (sv s i) := by
  have : s[i]? = some s[i] := List.getElem?_eq_getElem h
  unfold sv; rw [this]; exact ⟨List.getElem_mem h, rfl⟩
theorem RS.inj (R : RS n eqs s) : ∀ i, i < s.length → ∀ j, j < s.length → Pv s i = Pv s j → i = j := fun i hi j hj e => Classical.byContradiction fun hne => by
  have := R.zr i hi j hj hne
  rw [← e] at this
  exact R.nz i hi this
theorem RS.lt (R : RS n eqs s) {i : Nat} (hi : i < s.length) : Pv s i < n := Nat.lt_of_not_le fun hle => R.nz i hi (gI_out (by rw [R.len _ (sv_mem hi).1]; exact hle))
/-- clearing a row by a whole system -/
theorem redE_spec (R : RS n eqs s) (e : List Int) (he : e.length = n) : ∀ j, j ≤ s.length → (redE (s.take j) e).length = n ∧ (∀ i, i < j → gI (redE (s.take j) e) (Pv s i) = 0) ∧
    (∀ y, (∀ i, i < s.length → dot n (U s i) y = 0) → (dot n (gI (redE (s.take j) e)) y = 0 ↔ dot n (gI e) y = 0)) ∧ (redE (s.take j) e = e ∨ gcdL (redE (s.take j) e) = 1 ∨ ∀ x, gI (redE (s.take j) e) x = 0)
  | 0, _ => ⟨he, fun i hi => absurd hi (Nat.not_lt_zero i), fun y _ => Iff.rfl, .inl rfl⟩
  | j + 1, hj => by
    obtain ⟨h1, h2, h3, h4⟩ := redE_spec R e he j (Nat.le_of_succ_le hj)
    obtain ⟨hm, hs⟩ := sv_mem (s := s) (i := j) hj
    have hstep : redE (s.take (j + 1)) e = clr (redE (s.take j) e) (Pv s j) (sv s j).2 := by
      rw [take_snoc hs]; unfold redE; rw [List.foldl_append]; rfl
    rw [hstep]
    have hl : (redE (s.take j) e).length = (sv s j).2.length := by rw [h1, R.len _ hm]
    have hp : gI (sv s j).2 (Pv s j) ≠ 0 := R.nz j hj
    refine ⟨by rw [clr_len hl, h1], fun i hi => ?_, fun y hy => ?_, ?_⟩
    · by_cases e : i = j
      · subst e; exact clr_at hl hp
      · exact clr_zero hl hp (h2 i (by omega)) (R.zr j hj i (by omega) (Ne.symm e))
    · rw [clr_dot hl hp (hy j hj)]; exact h3 y hy
    · rcases clr_prim (redE (s.take j) e) (Pv s j) (sv s j).2 with h | h | h
      · rw [h]; exact h4
      · exact .inr (.inl h)
      · exact .inr (.inr h)
theorem fNZ_none {r : List Int} (h : fNZ r = none) (x : Nat) : gI r x = 0 := by
  unfold fNZ at h
  rw [List.findIdx?_eq_none_iff] at h
  rcases gI_mem (r := r) (x := x) with e | e
  · exact e
  · have := h _ e; simpa using this
theorem fNZ_some {r : List Int} {p : Nat} (h : fNZ r = some p) : p < r.length ∧ gI r p ≠ 0 ∧ ∀ x, x < p → gI r x = 0 := by
  unfold fNZ at h
  obtain ⟨h1, h2, h3⟩ := List.findIdx?_eq_some_iff_getElem.mp h
  refine ⟨h1, ?_, fun x hx => ?_⟩
  · have : gI r p = r[p] := gI_of (List.getElem?_eq_getElem h1)
    rw [this]; simpa using h2
  · have hxl : x < r.length := by omega
    have : gI r x = r[x] := gI_of (List.getElem?_eq_getElem hxl)
    rw [this]
    have := h3 x hx
    simpa using this
theorem dot_zero {u y : Nat → Int} (h : ∀ x, u x = 0) : dot n u y = 0 := sm_zero fun x _ => by rw [h x]; simp
theorem RS.step (R : RS n eqs s) (e : List Int) (he : e.length = n) : RS n (eqs ++ [e]) (stepE s e) := by
  obtain ⟨h1, h2, h3, h4⟩ := redE_spec R e he s.length (Nat.le_refl _)
  rw [List.take_length] at h1 h2 h3 h4
  obtain ⟨B, b1, b2, b3⟩ := R.base
  unfold stepE
  cases hp : fNZ (redE s e) with
  | none =>
    have hz := fNZ_none hp
    refine ⟨R.len, R.nz, R.zr, R.ech, fun y => ⟨fun hy q hq => ?_, fun hy => (R.ann y).mpr fun q hq => hy q (List.mem_append_left _ hq)⟩, fun po h => (R.prim po h).imp (List.mem_append_left _) id, B, b1, fun b hb => List.mem_append_left _ (b2 b hb), b3⟩
    rcases List.mem_append.mp hq with hq | hq
    · exact (R.ann y).mp hy q hq
    · rw [List.mem_singleton.mp hq]
      exact (h3 y hy).mp (dot_zero hz)
  | some p =>
    obtain ⟨hp1, hp2, hp3⟩ := fNZ_some hp
    generalize redE s e = r at h1 h2 h3 h4 hp1 hp2 hp3 ⊢
    dsimp only
    have hlen : (s.map (fun po => (po.1, clr po.2 p r)) ++ [(p, r)]).length = s.length + 1 := by simp
    have hU : ∀ i, i < s.length → U (s.map (fun po => (po.1, clr po.2 p r)) ++ [(p, r)]) i = gI (clr (sv s i).2 p r) ∧ Pv (s.map (fun po => (po.1, clr po.2 p r)) ++ [(p, r)]) i = Pv s i := fun i hi => by
      have : (s.map (fun po => (po.1, clr po.2 p r)) ++ [(p, r)])[i]? = some (Pv s i, clr (sv s i).2 p r) := by
        rw [List.getElem?_append_left (by simpa using hi), List.getElem?_map, (sv_mem hi).2]; rfl
      unfold U Pv sv; rw [this]; exact ⟨rfl, rfl⟩
    have hUn : U (s.map (fun po => (po.1, clr po.2 p r)) ++ [(p, r)]) s.length = gI r ∧ Pv (s.map (fun po => (po.1, clr po.2 p r)) ++ [(p, r)]) s.length = p := by
      have : (s.map (fun po => (po.1, clr po.2 p r)) ++ [(p, r)])[s.length]? = some (p, r) := by
        rw [List.getElem?_append_right (by simp)]; simp
      unfold U Pv sv; rw [this]; exact ⟨rfl, rfl⟩
    have hll : ∀ i, i < s.length → (sv s i).2.length = r.length := fun i hi => by rw [R.len _ (sv_mem hi).1, h1]
    have hann : ∀ y, (∀ i, i < s.length + 1 → dot n (U (s.map (fun po => (po.1, clr po.2 p r)) ++ [(p, r)]) i) y = 0) ↔ (∀ i, i < s.length → dot n (U s i) y = 0) ∧ dot n (gI r) y = 0 := fun y => by
      constructor
      · intro hy
        have hr := hy s.length (Nat.lt_succ_self _)
        rw [hUn.1] at hr
        refine ⟨fun i hi => ?_, hr⟩
        have := hy i (Nat.lt_succ_of_lt hi)
        rw [(hU i hi).1, clr_dot (hll i hi) hp2 hr] at this
        exact this
      · rintro ⟨hy, hr⟩ i hi
        by_cases ei : i = s.length
        · rw [ei, hUn.1]; exact hr
        · rw [(hU i (by omega)).1, clr_dot (hll i (by omega)) hp2 hr]; exact hy i (by omega)
    refine ⟨fun po h => ?_, fun i hi => ?_, fun i hi j hj hij => ?_, fun i hi x hx => ?_, fun y => ?_, fun po h => ?_, B ++ [e], by rw [List.length_append, hlen, b1]; rfl, fun b hb => ?_, fun y hy => ?_⟩
    · rcases List.mem_append.mp h with h | h
      · obtain ⟨q, hq, rfl⟩ := List.mem_map.mp h
        show (clr q.2 p r).length = n
        rw [clr_len (by rw [R.len q hq, h1]), R.len q hq]
      · rw [List.mem_singleton.mp h]; exact h1
    · rw [hlen] at hi
      by_cases ei : i = s.length
      · rw [ei, hUn.1, hUn.2]; exact hp2
      · have hi' : i < s.length := by omega
        rw [(hU i hi').1, (hU i hi').2]
        exact clr_nz (hll i hi') hp2 (R.nz i hi') (h2 i hi')
    · rw [hlen] at hi hj
      by_cases ei : i = s.length
      · have hj' : j < s.length := by omega
        rw [ei, hUn.1, (hU j hj').2]; exact h2 j hj'
      · have hi' : i < s.length := by omega
        rw [(hU i hi').1]
        by_cases ej : j = s.length
        · rw [ej, hUn.2]; exact clr_at (hll i hi') hp2
        · have hj' : j < s.length := by omega
          rw [(hU j hj').2]
          exact clr_zero (hll i hi') hp2 (R.zr i hi' j hj' hij) (h2 j hj')
    · rw [hlen] at hi
      by_cases ei : i = s.length
      · rw [ei, hUn.2] at hx
        rw [ei, hUn.1]; exact hp3 x hx
      · have hi' : i < s.length := by omega
        rw [(hU i hi').2] at hx
        rw [(hU i hi').1]
        have hox : gI (sv s i).2 x = 0 := R.ech i hi' x hx
        by_cases ho : gI (sv s i).2 p = 0
        · have : clr (sv s i).2 p r = (sv s i).2 := by unfold clr; rw [if_pos ho]
          rw [this]; exact hox
        · have hlt : Pv s i < p := by
            rcases Nat.lt_trichotomy (Pv s i) p with h | h | h
            · exact h
            · exfalso; apply hp2; rw [← h]; exact h2 i hi'
            · exact absurd (R.ech i hi' p h) ho
          exact clr_zero (hll i hi') hp2 hox (hp3 x (by omega))
    · rw [hlen, hann y]
      constructor
      · rintro ⟨hy, hr⟩ q hq
        rcases List.mem_append.mp hq with hq | hq
        · exact (R.ann y).mp hy q hq
        · rw [List.mem_singleton.mp hq]; exact (h3 y hy).mp hr
      · intro hy
        have hs := (R.ann y).mpr fun q hq => hy q (List.mem_append_left _ hq)
        exact ⟨hs, (h3 y hs).mpr (hy e (List.mem_append_right _ List.mem_cons_self))⟩
    · rcases List.mem_append.mp h with h | h
      · obtain ⟨q, hq, rfl⟩ := List.mem_map.mp h
        obtain ⟨i, hi⟩ := List.mem_iff_getElem?.mp hq
        have hi' : i < s.length := (List.getElem?_eq_some_iff.mp hi).1
        have hq2 : sv s i = q := by unfold sv; rw [hi]; rfl
        rcases clr_prim q.2 p r with h | h | h
        · show clr q.2 p r ∈ _ ∨ gcdL (clr q.2 p r) = 1
          rw [h]; exact (R.prim q hq).imp (List.mem_append_left _) id
        · exact .inr h
        · exfalso
          have := clr_nz (hll i hi') hp2 (R.nz i hi') (h2 i hi')
          rw [hq2] at this
          exact this (h _)
      · rw [List.mem_singleton.mp h]
        rcases h4 with h | h | h
        · left; show r ∈ _; rw [h]; exact List.mem_append_right _ List.mem_cons_self
        · exact .inr h
        · exact absurd (h p) hp2
    · rcases List.mem_append.mp hb with hb | hb
      · exact List.mem_append_left _ (b2 b hb)
      · exact List.mem_append_right _ hb
    · rw [hlen]
      have hs := b3 y fun b hb => hy b (List.mem_append_left _ hb)
      exact (hann y).mpr ⟨hs, (h3 y hs).mpr (hy e (List.mem_append_right _ List.mem_cons_self))⟩
theorem elim_rs : ∀ (k : Nat) (eqs : List (List Int)), (∀ e ∈ eqs, e.length = n) → k ≤ eqs.length → RS n (eqs.take k) (elim (eqs.take k))
  | 0, eqs, _, _ => ⟨fun po h => absurd h List.not_mem_nil, fun i hi => absurd hi (Nat.not_lt_zero i), fun i hi => absurd hi (Nat.not_lt_zero i), fun i hi => absurd hi (Nat.not_lt_zero i), fun y => ⟨fun _ e h => absurd h List.not_mem_nil, fun _ i hi => absurd hi (Nat.not_lt_zero i)⟩, fun po h => absurd h List.not_mem_nil,
    [], rfl, fun b h => absurd h List.not_mem_nil, fun y _ i hi => absurd hi (Nat.not_lt_zero i)⟩
  | k + 1, eqs, h, hk => by
    have e1 : eqs[k]? = some eqs[k] := List.getElem?_eq_getElem hk
    rw [take_snoc e1, elim_snoc]
    exact (elim_rs k eqs h (Nat.le_of_succ_le hk)).step _ (h _ (List.getElem_mem hk))
end
end Qk02
set_option Elab.async false
set_option linter.all false
set_option maxRecDepth 100000
set_option maxHeartbeats 4000000
/-! M03c: rows of a reduced system are small. -/
namespace Qk02
open PySem
theorem inj_le {P : Nat → Nat} {k n : Nat} (h : ∀ i, i < k → P i < n) (inj : ∀ i, i < k → ∀ j, j < k → P i = P j → i = j) : k ≤ n := by
  refine Nat.le_of_not_lt fun hlt => ?_
  obtain ⟨s, hs, t, ht, hne, e⟩ := pigeon n (fun _ => P) 1 (List.range k) List.nodup_range (by rw [List.length_range, Nat.pow_one]; exact hlt) (fun i _ t ht => h t (List.mem_range.mp ht))
  exact hne (inj s (List.mem_range.mp hs) t (List.mem_range.mp ht) (e 0 (by decide)))
theorem dot_add {n : Nat} (u a b : Nat → Int) : dot n u (fun x => a x + b x) = dot n u a + dot n u b := by
  unfold dot; rw [← sm_add]; exact sm_congr fun x _ => Int.mul_add _ _ _
theorem dot_delta {n x : Nat} (u : Nat → Int) (L : Int) (hx : x < n) : dot n u (fun z => if z = x then L else 0) = u x * L := by
  unfold dot
  rw [sm_single hx fun z _ hne => by show u z * (if z = x then L else 0) = 0; rw [if_neg hne]; simp]
  show u x * (if x = x then L else 0) = _
  rw [if_pos rfl]
def pr (f : Nat → Int) : Nat → Int
  | 0 => 1
  | n + 1 => pr f n * f n
theorem pr_ne {f : Nat → Int} : ∀ {n : Nat}, (∀ i, i < n → f i ≠ 0) → pr f n ≠ 0
  | 0, _ => by show (1 : Int) ≠ 0; decide
  | n + 1, h => Int.mul_ne_zero (pr_ne fun i hi => h i (Nat.lt_succ_of_lt hi)) (h n (Nat.lt_succ_self n))
theorem pr_dvd {f : Nat → Int} {i : Nat} : ∀ {n : Nat}, i < n → f i ∣ pr f n
  | 0, h => absurd h (Nat.not_lt_zero i)
  | n + 1, h => by
    by_cases e : i = n
    · subst e; exact Int.dvd_mul_left _ _
    · exact Int.dvd_trans (pr_dvd (by omega)) (Int.dvd_mul_right _ _)
section
variable {n : Nat} {eqs : List (List Int)} {s : Sv}
/-- what a system kills: any value L at a free place that its leading entries divide -/
def yL (s : Sv) (x : Nat) (L : Int) (z : Nat) : Int := spread s.length (Pv s) (fun i => -(U s i x) * (L / U s i (Pv s i))) z + if z = x then L else 0
theorem yL_dot (R : RS n eqs s) {x : Nat} {L : Int} (hx : x < n) (u : Nat → Int) : dot n u (yL s x L) = sm s.length (fun j => -(U s j x) * (L / U s j (Pv s j)) * u (Pv s j)) + u x * L := by
  unfold yL
  rw [dot_add, dot_delta _ _ hx, dot_spread fun i hi => R.lt hi]
theorem yL_kill (R : RS n eqs s) {x : Nat} {L : Int} (hx : x < n) (hd : ∀ i, i < s.length → U s i (Pv s i) ∣ L) : ∀ i, i < s.length → dot n (U s i) (yL s x L) = 0 := fun i hi => by
  rw [yL_dot R hx, sm_single hi fun j hj hne => by rw [R.zr i hi j hj (Ne.symm hne)]; simp]
  rw [Int.mul_assoc, Int.ediv_mul_cancel (hd i hi), Int.neg_mul]; omega
theorem yL_free {x : Nat} {L : Int} (hf : ∀ i, i < s.length → x ≠ Pv s i) : yL s x L x = L := by
  unfold yL; rw [spread_out hf, if_pos rfl]; omega
theorem yL_piv (R : RS n eqs s) {x : Nat} {L : Int} (hf : ∀ i, i < s.length → x ≠ Pv s i) {i : Nat} (hi : i < s.length) : yL s x L (Pv s i) = -(U s i x) * (L / U s i (Pv s i)) := by
  unfold yL; rw [spread_at R.inj hi, if_neg (Ne.symm (hf i hi))]; omega
theorem yL_out {x z : Nat} {L : Int} (h1 : z ≠ x) (hf : ∀ i, i < s.length → z ≠ Pv s i) : yL s x L z = 0 := by
  unfold yL; rw [spread_out hf, if_neg h1]; rfl
def LP (s : Sv) : Int := pr (fun i => U s i (Pv s i)) s.length
theorem LP_ne (R : RS n eqs s) : LP s ≠ 0 := pr_ne R.nz
theorem LP_dvd {i : Nat} (hi : i < s.length) : U s i (Pv s i) ∣ LP s := pr_dvd (f := fun i => U s i (Pv s i)) hi
theorem piv_dec (s : Sv) (x : Nat) : (∃ i, i < s.length ∧ x = Pv s i) ∨ ∀ i, i < s.length → x ≠ Pv s i := by
  by_cases h : ∃ i, i < s.length ∧ x = Pv s i
  · exact .inl h
  · exact .inr fun i hi e => h ⟨i, hi, e⟩
/-- a row of the space that is zero at all leading places but one -/
theorem line (R : RS n eqs s) {v : Nat → Int} (hv : ∀ y, (∀ e ∈ eqs, dot n (gI e) y = 0) → dot n v y = 0) {i : Nat} (hi : i < s.length) (hz : ∀ j, j < s.length → j ≠ i → v (Pv s j) = 0) {x : Nat} (hx : x < n) :
    U s i (Pv s i) * v x = v (Pv s i) * U s i x := by
  rcases piv_dec s x with ⟨j, hj, rfl⟩ | hf
  · by_cases e : j = i
    · subst e; exact Int.mul_comm _ _
    · rw [hz j hj e, R.zr i hi j hj (Ne.symm e)]; simp
  · have hk := yL_kill R hx (fun i hi => LP_dvd hi)
    have h0 := hv (yL s x (LP s)) ((R.ann _).mp hk)
    rw [yL_dot R hx, sm_single hi fun j hj hne => by rw [hz j hj hne]; simp] at h0
    obtain ⟨q, hq⟩ := LP_dvd (s := s) hi
    have hne := R.nz i hi
    have hL := LP_ne R
    have hq0 : q ≠ 0 := fun e => hL (by rw [hq, e]; simp)
    rw [hq, Int.mul_ediv_cancel_left _ hne] at h0
    have h1 : q * (U s i (Pv s i) * v x) = q * (v (Pv s i) * U s i x) := by
      have e1 : v x * (U s i (Pv s i) * q) = q * (U s i (Pv s i) * v x) := by
        rw [Int.mul_comm q, Int.mul_comm (v x), Int.mul_assoc, Int.mul_assoc, Int.mul_comm q]
      have e2 : -U s i x * q * v (Pv s i) = -(q * (v (Pv s i) * U s i x)) := by
        rw [Int.neg_mul, Int.neg_mul, Int.mul_comm (U s i x) q, Int.mul_assoc, Int.mul_comm (U s i x)]
      rw [e1, e2] at h0; omega
    exact Int.eq_of_mul_eq_mul_left hq0 h1
theorem sys_apart (R : RS n eqs s) : ∀ y, (∀ x, (∀ i, i < s.length → x ≠ Pv s i) → y x = 0) → (∀ i, i < s.length → dot n (U s i) y = 0) → ∀ i, i < s.length → y (Pv s i) = 0 := fun y hs hk i hi => by
  have := hk i hi
  unfold dot at this
  rw [sm_single (R.lt hi) fun x _ hne => by
    rcases piv_dec s x with ⟨j, hj, rfl⟩ | hf
    · rw [R.zr i hi j hj fun e => hne (by rw [e])]; simp
    · rw [hs x hf]; simp] at this
  exact (Int.mul_eq_zero.mp this).resolve_left (R.nz i hi)
theorem base_indep (R : RS n eqs s) {B : List (List Int)} (hB : B.length = s.length) (hk : ∀ y, (∀ b ∈ B, dot n (gI b) y = 0) → ∀ i, i < s.length → dot n (U s i) y = 0) {c : Nat → Int}
    (hz : ∀ x, x < n → sm s.length (fun j => c j * gI (B[j]?.getD []) x) = 0) : ∀ j, j < s.length → c j = 0 := fun j0 hj0 => Classical.byContradiction fun hc => by
  have hle : s.length ≤ s.length - 1 := by
    refine rank_le (n := n) (u := fun i => gI (B[if i < j0 then i else i + 1]?.getD [])) (u' := U s) (P := Pv s) (fun i hi => R.lt hi) R.inj (fun y hy => ?_) (sys_apart R)
    have hoth : ∀ j, j < s.length → j ≠ j0 → dot n (gI (B[j]?.getD [])) y = 0 := fun j hj hne => by
      by_cases h : j < j0
      · have := hy j (by omega); rwa [if_pos h] at this
      · have := hy (j - 1) (by omega); rwa [if_neg (by omega), show j - 1 + 1 = j by omega] at this
    have h0 : c j0 * dot n (gI (B[j0]?.getD [])) y = 0 := by
      have e : sm s.length (fun j => c j * dot n (gI (B[j]?.getD [])) y) = 0 := by
        have e1 : ∀ j, c j * dot n (gI (B[j]?.getD [])) y = sm n fun x => c j * gI (B[j]?.getD []) x * y x := fun j => by
          unfold dot; rw [← sm_mul]; exact sm_congr fun x _ => (Int.mul_assoc _ _ _).symm
        rw [sm_congr fun j _ => e1 j, sm_comm]
        refine sm_zero fun x hx => ?_
        have e2 : sm s.length (fun j => c j * gI (B[j]?.getD []) x * y x) = y x * sm s.length (fun j => c j * gI (B[j]?.getD []) x) := by
          rw [← sm_mul]; exact sm_congr fun j _ => Int.mul_comm _ _
        rw [e2, hz x hx]; simp
      rw [sm_single hj0 fun j hj hne => by rw [hoth j hj hne]; simp] at e
      exact e
    have hj0' := (Int.mul_eq_zero.mp h0).resolve_left hc
    refine hk y fun b hb => ?_
    obtain ⟨j, hj⟩ := List.mem_iff_getElem?.mp hb
    have hjl : j < s.length := by rw [← hB]; exact (List.getElem?_eq_some_iff.mp hj).1
    have eb : B[j]?.getD [] = b := by rw [hj]; rfl
    by_cases e : j = j0
    · rw [← eb, e]; exact hj0'
    · rw [← eb]; exact hoth j hjl e
  omega
theorem dvd_mul_gcdL {d b : Nat} : ∀ {r : List Int}, (∀ e ∈ r, d ∣ b * e.natAbs) → d ∣ b * gcdL r := by
  have key : ∀ (r : List Int) (g : Nat), d ∣ b * g → (∀ e ∈ r, d ∣ b * e.natAbs) → d ∣ b * r.foldl (fun g e => Nat.gcd g e.natAbs) g := by
    intro r
    induction r with
    | nil => intro g hg _; exact hg
    | cons x r ih =>
      intro g hg h
      refine ih _ ?_ fun e he => h e (List.mem_cons_of_mem _ he)
      rw [← Nat.gcd_mul_left]
      exact Nat.dvd_gcd hg (h x List.mem_cons_self)
  intro r h
  exact key r 0 (by simp) h
theorem sys_small (R : RS n eqs s) (h8 : s.length ≤ 8) (hA : ∀ e ∈ eqs, ∀ x, (gI e x).natAbs ≤ 2 ^ 21) {i : Nat} (hi : i < s.length) (x : Nat) : (U s i x).natAbs < 2 ^ 200 := by
  rcases Nat.lt_or_ge x n with hx | hx
  case inr =>
    have : U s i x = 0 := gI_out (by rw [R.len _ (sv_mem hi).1]; exact hx)
    rw [this]; exact Nat.pow_pos (by decide)
  rcases R.prim _ (sv_mem hi).1 with h | hg
  · exact Nat.lt_of_le_of_lt (hA _ h x) (Nat.pow_lt_pow_right (by decide) (by decide))
  obtain ⟨B, b1, b2, b3⟩ := R.base
  have hBA : ∀ (j : Nat) (x : Nat), (gI (B[j]?.getD []) x).natAbs ≤ 2 ^ 21 := fun j x => by
    cases e : B[j]? with
    | none => simp [gI]
    | some b => exact hA b (b2 b (List.mem_of_getElem? e)) x
  obtain ⟨c, ⟨j0, hj0, hc0⟩, hcb, hc⟩ := siegel (m := s.length - 1) (k := s.length) (A := 2 ^ 21) (fun t j => gI (B[j]?.getD []) (Pv s (if t < i then t else t + 1))) (Nat.pow_pos (by decide)) (fun t _ j _ => hBA j _) (by omega)
  let v : Nat → Int := fun x => sm s.length fun j => c j * gI (B[j]?.getD []) x
  have hvz : ∀ j, j < s.length → j ≠ i → v (Pv s j) = 0 := fun j hj hne => by
    by_cases h : j < i
    · have := hc j (by omega); rwa [if_pos h] at this
    · have := hc (j - 1) (by omega); rwa [if_neg (by omega), show j - 1 + 1 = j by omega] at this
  have hvk : ∀ y, (∀ e ∈ eqs, dot n (gI e) y = 0) → dot n v y = 0 := fun y hy => by
    have e1 : dot n v y = sm s.length fun j => c j * dot n (gI (B[j]?.getD [])) y := by
      have e2 : ∀ x, v x * y x = sm s.length fun j => c j * (gI (B[j]?.getD []) x * y x) := fun x => by
        show (sm s.length fun j => c j * gI (B[j]?.getD []) x) * y x = _
        rw [Int.mul_comm, ← sm_mul]
        refine sm_congr fun j _ => ?_
        rw [Int.mul_comm (y x), Int.mul_assoc]
      unfold dot
      rw [sm_congr fun x _ => e2 x, sm_comm]
      exact sm_congr fun j _ => sm_mul _ _ _
    rw [e1]
    refine sm_zero fun j hj => ?_
    cases e : B[j]? with
    | none =>
      have : dot n (gI ((none : Option (List Int)).getD [])) y = 0 := dot_zero fun x => rfl
      rw [this]; simp
    | some b =>
      show c j * dot n (gI b) y = 0
      rw [hy b (b2 b (List.mem_of_getElem? e))]; simp
  have hl := fun {x} hx => line R hvk hi hvz (x := x) hx
  have hne := R.nz i hi
  have hb0 : v (Pv s i) ≠ 0 := fun e => by
    have hv0 : ∀ x, x < n → v x = 0 := fun x hx => by
      have := hl hx
      rw [e, Int.zero_mul] at this
      exact (Int.mul_eq_zero.mp this).resolve_left hne
    exact hc0 (base_indep R b1 b3 hv0 j0 hj0)
  have hdv : U s i (Pv s i) ∣ v (Pv s i) := by
    have := dvd_mul_gcdL (d := (U s i (Pv s i)).natAbs) (b := (v (Pv s i)).natAbs) (r := (sv s i).2) (fun e he => by
      obtain ⟨z, hz⟩ := List.mem_iff_getElem?.mp he
      have ez : U s i z = e := gI_of hz
      have hzn : z < n := by rw [← R.len _ (sv_mem hi).1]; exact (List.getElem?_eq_some_iff.mp hz).1
      rw [← ez, ← Int.natAbs_mul, ← hl hzn, Int.natAbs_mul]
      exact Nat.dvd_mul_right _ _)
    rw [hg, Nat.mul_one] at this
    exact Int.natAbs_dvd_natAbs.mp this
  obtain ⟨m, hm⟩ := hdv
  have hm0 : m ≠ 0 := fun e => hb0 (by rw [hm, e]; simp)
  have hvx : v x = m * U s i x := by
    have := hl hx
    rw [hm, Int.mul_assoc] at this
    exact Int.eq_of_mul_eq_mul_left hne this
  have h1 : (U s i x).natAbs ≤ (v x).natAbs := by
    rw [hvx, Int.natAbs_mul]
    exact Nat.le_mul_of_pos_left _ (Int.natAbs_pos.mpr hm0)
  have h2 : (v x).natAbs ≤ s.length * (2 ^ 175 * 2 ^ 21) := by
    refine sm_abs fun j hj => ?_
    rw [Int.natAbs_mul]
    refine Nat.mul_le_mul (Nat.le_trans (hcb j) ?_) (hBA j x)
    have h3 : 2 * s.length * 2 ^ 21 ≤ 2 ^ 25 := by
      have : 2 * s.length ≤ 16 := by omega
      exact Nat.le_trans (Nat.mul_le_mul_right _ this) (by decide)
    refine Nat.le_trans (Nat.pow_le_pow_left h3 _) ?_
    rw [← Nat.pow_mul]
    exact Nat.pow_le_pow_right (by decide) (by omega)
  have h4 : s.length * (2 ^ 175 * 2 ^ 21) ≤ 2 ^ 3 * (2 ^ 175 * 2 ^ 21) := Nat.mul_le_mul_right _ h8
  have h5 : (2 : Nat) ^ 3 * (2 ^ 175 * 2 ^ 21) < 2 ^ 200 := by
    rw [← Nat.pow_add, ← Nat.pow_add]; exact Nat.pow_lt_pow_right (by decide) (by decide)
  exact Nat.lt_of_le_of_lt (Nat.le_trans h1 (Nat.le_trans h2 h4)) h5
end
theorem clr_bd {r o : List Int} {p a b : Nat} (hl : r.length = o.length) (h1 : ∀ x, (gI r x).natAbs < 2 ^ a) (h2 : ∀ x, (gI o x).natAbs < 2 ^ b) (x : Nat) : (gI (clr r p o) x).natAbs < 2 ^ (a + b + 1) := by
  unfold clr
  split
  · exact bd_mono (h1 x) (by omega)
  · refine Nat.lt_of_le_of_lt (prim_abs _ x) ?_
    rw [gI_zip (by simp) hl]
    refine sub_bd ?_ ?_
    · have := mul_bd (h2 p) (h1 x); rwa [Nat.add_comm] at this
    · exact mul_bd (h1 p) (h2 x)
theorem bd_of {n : Nat} {r : List Int} (h : ∀ x, (gI r x).natAbs < 2 ^ n) : Bd n r := fun e he => by
  obtain ⟨i, hi⟩ := List.mem_iff_getElem?.mp he
  rw [← gI_of hi]; exact h i
/-- a system with few rows: nothing grows -/
theorem eok_of {n : Nat} {eqs : List (List Int)} (hn : n ≤ sizeLine) (hl : eqs.length ≤ sizeLine) (len : ∀ e ∈ eqs, e.length = n) (h8 : n ≤ 8 ∨ eqs.length ≤ 8) (hA : ∀ e ∈ eqs, ∀ x, (gI e x).natAbs < 2 ^ 21) : EOk n eqs := by
  have hst : ∀ i, i ≤ eqs.length → (elim (eqs.take i)).length ≤ 8 := fun i hi => by
    have R := elim_rs i eqs len hi
    rcases h8 with h | h
    · exact Nat.le_trans (inj_le (fun j hj => R.lt hj) R.inj) h
    · have := elim_len (eqs.take i)
      rw [List.length_take] at this; omega
  refine ⟨hn, hl, len, fun i eq he => ?_⟩
  have hi := (List.getElem?_eq_some_iff.mp he).1
  have R := elim_rs i eqs len (Nat.le_of_lt hi)
  have h8 := hst i (Nat.le_of_lt hi)
  have hsm := fun {j} hj x => sys_small R h8 (fun e he x => Nat.le_of_lt (hA e (List.mem_of_mem_take he) x)) (i := j) hj x
  generalize elim (eqs.take i) = s at R h8 hsm ⊢
  have heq := len eq (List.mem_of_getElem? he)
  refine ⟨fun po hpo => ?_, fun j hj => ?_⟩
  · obtain ⟨j, hj⟩ := List.mem_iff_getElem?.mp hpo
    have hjl := (List.getElem?_eq_some_iff.mp hj).1
    have e1 : sv s j = po := by unfold sv; rw [hj]; rfl
    refine ⟨?_, R.len po hpo, bd_of fun x => ?_⟩
    · have := R.lt hjl; unfold Pv at this; rwa [e1] at this
    · have := hsm hjl x; unfold U at this; rw [e1] at this; exact bd_mono this (by decide)
  · have key : ∀ j, j ≤ s.length → ∀ x, (gI (redE (s.take j) eq) x).natAbs < 2 ^ (21 + 201 * j) := by
      intro j
      induction j with
      | zero => intro _ x; exact hA eq (List.mem_of_getElem? he) x
      | succ j ih =>
        intro hj x
        obtain ⟨hm, hs⟩ := sv_mem (s := s) (i := j) hj
        have hstep : redE (s.take (j + 1)) eq = clr (redE (s.take j) eq) (Pv s j) (sv s j).2 := by
          rw [take_snoc hs]; unfold redE; rw [List.foldl_append]; rfl
        rw [hstep]
        have hl : (redE (s.take j) eq).length = (sv s j).2.length := by rw [(redE_spec R eq heq j (Nat.le_of_succ_le hj)).1, R.len _ hm]
        exact bd_mono (clr_bd hl (ih (Nat.le_of_succ_le hj)) (fun x => hsm hj x) x) (by omega)
    exact bd_of fun x => bd_mono (key j hj x) (by omega)
end Qk02
set_option Elab.async false
set_option linter.all false
set_option maxRecDepth 100000
set_option maxHeartbeats 4000000
/-! M03d: the law's own elimination; rank by rows and by columns. -/
namespace Qk02
open PySem
theorem mem_erase_or {α : Type} {L : List α} {s : Nat} {r : α} (hs : s < L.length) (h : r ∈ L) : r = L[s] ∨ r ∈ L.eraseIdx s := by
  rw [List.eraseIdx_eq_take_drop_succ]
  obtain ⟨i, hi⟩ := List.mem_iff_getElem?.mp h
  obtain ⟨hl, hr⟩ := List.getElem?_eq_some_iff.mp hi
  by_cases e : i = s
  · subst e; exact .inl hr.symm
  · right
    rw [List.mem_append]
    by_cases h1 : i < s
    · left; rw [List.mem_take_iff_getElem]; exact ⟨i, by omega, hr⟩
    · right; rw [List.mem_drop_iff_getElem]; exact ⟨i - (s + 1), by omega, by rw [← hr]; congr 1; omega⟩
structure LI (n : Nat) (rows : Rows) (c : Nat) (st : Rows × Nat) : Prop where
  len : ∀ r ∈ st.1, r.length = n
  zero : ∀ r ∈ st.1, ∀ x, x < c → gI r x = 0
  bd : ∀ r ∈ st.1, ∀ x, (gI r x).natAbs < 2 ^ (22 * 2 ^ c - 1)
  leads : ∃ ld : Sv, ld.length = st.2 ∧ (∀ i, i < ld.length → Pv ld i < c ∧ U ld i (Pv ld i) ≠ 0 ∧ ∀ x, x < Pv ld i → U ld i x = 0) ∧ (∀ i j, i < j → j < ld.length → Pv ld i < Pv ld j) ∧
    ∀ y, ((∀ i, i < ld.length → dot n (U ld i) y = 0) ∧ ∀ r ∈ st.1, dot n (gI r) y = 0) ↔ ∀ r ∈ rows, dot n (gI r) y = 0
theorem LI.step {n : Nat} {rows : Rows} {c : Nat} {st : Rows × Nat} (I : LI n rows c st) : LI n rows (c + 1) (lstep st c) := by
  have hpw : 22 * 2 ^ (c + 1) - 1 = (22 * 2 ^ c - 1) + (22 * 2 ^ c - 1) + 1 := by
    have : 0 < 2 ^ c := Nat.pow_pos (by decide)
    rw [Nat.pow_succ]; omega
  obtain ⟨ld, l1, l2, l3, l4⟩ := I.leads
  unfold lstep
  cases e : st.1.findIdx? (nzAt c) with
  | none =>
    rw [List.findIdx?_eq_none_iff] at e
    refine ⟨I.len, fun r hr x hx => ?_, fun r hr x => bd_mono (I.bd r hr x) (by omega), ld, l1, fun i hi => ⟨Nat.lt_succ_of_lt (l2 i hi).1, (l2 i hi).2⟩, l3, l4⟩
    by_cases ex : x = c
    · subst ex; have := e r hr; unfold nzAt at this; simpa using this
    · exact I.zero r hr x (by omega)
  | some s =>
    obtain ⟨hs, hnz, _⟩ := List.findIdx?_eq_some_iff_getElem.mp e
    have hsm : st.1[s]? = some st.1[s] := List.getElem?_eq_getElem hs
    dsimp only
    rw [hsm, Option.getD_some]
    have hlm := List.getElem_mem hs
    generalize st.1[s] = lead at hnz hlm hsm ⊢
    have hnz : gI lead c ≠ 0 := by unfold nzAt at hnz; simpa using hnz
    have hll := I.len lead hlm
    have hl : ∀ r ∈ st.1.eraseIdx s, r.length = lead.length := fun r hr => by rw [I.len r (List.mem_of_mem_eraseIdx hr), hll]
    have hor : ∀ r ∈ st.1, r = lead ∨ r ∈ st.1.eraseIdx s := fun r hr => by
      have := mem_erase_or hs hr
      rwa [show st.1[s] = lead from Option.some.inj ((List.getElem?_eq_getElem hs).symm.trans hsm)] at this
    refine ⟨fun r hr => ?_, fun r hr x hx => ?_, fun r hr x => ?_, ld ++ [(c, lead)], by rw [List.length_append, l1]; rfl, fun i hi => ?_, fun i j hij hj => ?_, fun y => ?_⟩
    · obtain ⟨q, hq, rfl⟩ := List.mem_map.mp hr
      rw [clr_len (hl q hq), hl q hq, hll]
    · obtain ⟨q, hq, rfl⟩ := List.mem_map.mp hr
      by_cases ex : x = c
      · subst ex; exact clr_at (hl q hq) hnz
      · exact clr_zero (hl q hq) hnz (I.zero q (List.mem_of_mem_eraseIdx hq) x (by omega)) (I.zero lead hlm x (by omega))
    · obtain ⟨q, hq, rfl⟩ := List.mem_map.mp hr
      rw [hpw]
      exact clr_bd (hl q hq) (I.bd q (List.mem_of_mem_eraseIdx hq)) (I.bd lead hlm) x
    · have hi' : i < ld.length + 1 := by simpa using hi
      by_cases ei : i = ld.length
      · have : (ld ++ [(c, lead)])[i]? = some (c, lead) := by rw [ei, List.getElem?_append_right (Nat.le_refl _)]; simp
        unfold Pv U sv; rw [this]
        exact ⟨Nat.lt_succ_self c, hnz, fun x hx => I.zero lead hlm x hx⟩
      · have hil : i < ld.length := by omega
        have : (ld ++ [(c, lead)])[i]? = ld[i]? := List.getElem?_append_left hil
        have h2 := l2 i hil
        unfold Pv U sv at h2 ⊢; rw [this]
        exact ⟨Nat.lt_succ_of_lt h2.1, h2.2⟩
    · have hj' : j < ld.length + 1 := by simpa using hj
      have hil : i < ld.length := by omega
      have ei : (ld ++ [(c, lead)])[i]? = ld[i]? := List.getElem?_append_left hil
      by_cases ej : j = ld.length
      · have : (ld ++ [(c, lead)])[j]? = some (c, lead) := by rw [ej, List.getElem?_append_right (Nat.le_refl _)]; simp
        have h2 := (l2 i hil).1
        unfold Pv sv at h2 ⊢; rw [this, ei]; exact h2
      · have hjl : j < ld.length := by omega
        have ej : (ld ++ [(c, lead)])[j]? = ld[j]? := List.getElem?_append_left hjl
        have h2 := l3 i j hij hjl
        unfold Pv sv at h2 ⊢; rw [ej, ei]; exact h2
    · have hUi : ∀ i, i < ld.length → U (ld ++ [(c, lead)]) i = U ld i := fun i hi => by
        have : (ld ++ [(c, lead)])[i]? = ld[i]? := List.getElem?_append_left hi
        unfold U sv; rw [this]
      have hUn : U (ld ++ [(c, lead)]) ld.length = gI lead := by
        have : (ld ++ [(c, lead)])[ld.length]? = some (c, lead) := by rw [List.getElem?_append_right (Nat.le_refl _)]; simp
        unfold U sv; rw [this]; rfl
      rw [← l4 y]
      constructor
      · rintro ⟨h1, h2⟩
        have hlead := h1 ld.length (by simp)
        rw [hUn] at hlead
        refine ⟨fun i hi => ?_, fun r hr => ?_⟩
        · have := h1 i (by simp; omega)
          rwa [hUi i hi] at this
        · rcases hor r hr with rfl | hr
          · exact hlead
          · exact (clr_dot (hl r hr) hnz hlead).mp (h2 _ (List.mem_map.mpr ⟨r, hr, rfl⟩))
      · rintro ⟨h1, h2⟩
        have hlead := h2 lead hlm
        refine ⟨fun i hi => ?_, fun r hr => ?_⟩
        · by_cases ei : i = ld.length
          · rw [ei, hUn]; exact hlead
          · have hi' : i < ld.length + 1 := by simpa using hi
            rw [hUi i (by omega)]; exact h1 i (by omega)
        · obtain ⟨q, hq, rfl⟩ := List.mem_map.mp hr
          exact (clr_dot (hl q hq) hnz hlead).mpr (h2 q (List.mem_of_mem_eraseIdx hq))
theorem lrun_li {n : Nat} {rows : Rows} (len : ∀ r ∈ rows, r.length = n) (hA : ∀ r ∈ rows, ∀ x, (gI r x).natAbs < 2 ^ 21) : ∀ c, LI n rows c (lrun rows c)
  | 0 => ⟨len, fun _ _ x hx => absurd hx (Nat.not_lt_zero x), hA, [], rfl, fun i hi => absurd hi (Nat.not_lt_zero i), fun i j _ hj => absurd hj (Nat.not_lt_zero j), fun y => ⟨fun h => h.2, fun h => ⟨fun i hi => absurd hi (Nat.not_lt_zero i), h⟩⟩⟩
  | c + 1 => by rw [lrun_succ]; exact (lrun_li len hA c).step
theorem lok_of {w : Nat} {rows : Rows} (h8 : w ≤ 8) (hl : rows.length ≤ 20) (len : ∀ r ∈ rows, r.length = w) (hA : ∀ r ∈ rows, ∀ x, (gI r x).natAbs < 2 ^ 21) : LOk w rows :=
  ⟨Nat.le_trans h8 (by decide), Nat.le_trans hl (by decide), len, fun c hc r hr => bd_of fun x => bd_mono ((lrun_li len hA c).bd r hr x) (by
    have : 2 ^ c ≤ 2 ^ 7 := Nat.pow_le_pow_right (by decide) (by omega)
    have h2 : (2 : Nat) ^ 7 = 128 := rfl
    omega)⟩
theorem lrun_rank {w : Nat} {rows : Rows} (len : ∀ r ∈ rows, r.length = w) (hA : ∀ r ∈ rows, ∀ x, (gI r x).natAbs < 2 ^ 21) : (lrun rows w).2 = (elim rows).length := by
  have I := lrun_li len hA w
  have R := elim_rs rows.length rows len (Nat.le_refl _)
  rw [List.take_length] at R
  obtain ⟨ld, l1, l2, l3, l4⟩ := I.leads
  have hz : ∀ r ∈ (lrun rows w).1, ∀ x, gI r x = 0 := fun r hr x => by
    rcases Nat.lt_or_ge x w with h | h
    · exact I.zero r hr x h
    · exact gI_out (by rw [I.len r hr]; exact h)
  have hann : ∀ y, (∀ i, i < ld.length → dot w (U ld i) y = 0) ↔ ∀ r ∈ rows, dot w (gI r) y = 0 := fun y => by
    rw [← l4 y]
    exact ⟨fun h => ⟨h, fun r hr => dot_zero (hz r hr)⟩, fun h => h.1⟩
  have linj : ∀ i, i < ld.length → ∀ j, j < ld.length → Pv ld i = Pv ld j → i = j := fun i hi j hj e => by
    rcases Nat.lt_trichotomy i j with h | h | h
    · have := l3 i j h hj; omega
    · exact h
    · have := l3 j i h hi; omega
  rw [← l1]
  refine Nat.le_antisymm ?_ ?_
  · refine rank_le (n := w) (u := U (elim rows)) (u' := U ld) (P := Pv ld) (fun i hi => (l2 i hi).1) linj (fun y hy => (hann y).mpr ((R.ann y).mp hy)) fun y hs hk => ?_
    have key : ∀ m i, i < ld.length → ld.length ≤ i + m → y (Pv ld i) = 0 := by
      intro m
      induction m with
      | zero => intro i hi h; omega
      | succ m ih =>
        intro i hi h
        have h0 := hk i hi
        unfold dot at h0
        rw [sm_single (l2 i hi).1 fun x hx hne => by
          rcases piv_dec ld x with ⟨j, hj, rfl⟩ | hf
          · rcases Nat.lt_trichotomy i j with h1 | h1 | h1
            · rw [ih j hj (by omega)]; simp
            · exact absurd (by rw [h1]) hne
            · rw [(l2 i hi).2.2 _ (l3 j i h1 hi)]; simp
          · rw [hs x hf]; simp] at h0
        exact (Int.mul_eq_zero.mp h0).resolve_left (l2 i hi).2.1
    exact fun i hi => key ld.length i hi (by omega)
  · exact rank_le (n := w) (u := U ld) (u' := U (elim rows)) (P := Pv (elim rows)) (fun i hi => R.lt hi) R.inj (fun y hy => (R.ann y).mpr ((hann y).mp hy)) (sys_apart R)

/-! ### rows and columns -/
def mA (A : Rows) (t : Nat) : Nat → Int := gI (A[t]?.getD [])
theorem ann_ix {n : Nat} {A : Rows} {y : Nat → Int} : (∀ e ∈ A, dot n (gI e) y = 0) ↔ ∀ t, t < A.length → dot n (mA A t) y = 0 := by
  constructor
  · intro h t ht
    unfold mA; rw [List.getElem?_eq_getElem ht]; exact h _ (List.getElem_mem ht)
  · intro h e he
    obtain ⟨t, ht⟩ := List.mem_iff_getElem?.mp he
    have := h t (List.getElem?_eq_some_iff.mp ht).1
    unfold mA at this; rw [ht] at this; exact this
theorem rank_half {a b : Nat} {A B : Rows} {s s' : Sv} (hA : A.length = a) (hB : B.length = b) (rel : ∀ t, t < a → ∀ x, x < b → mA A t x = mA B x t) (R : RS b A s) (R' : RS a B s') : s.length ≤ s'.length := by
  refine rank_le (n := b) (u := fun i => mA A (Pv s' i)) (u' := U s) (P := Pv s) (fun i hi => R.lt hi) R.inj (fun y hy => (R.ann y).mpr (ann_ix.mpr fun t ht => ?_)) (sys_apart R)
  rw [hA] at ht
  rcases piv_dec s' t with ⟨i, hi, rfl⟩ | hf
  · exact hy i hi
  · have hk := yL_kill R' ht (fun i hi => LP_dvd hi)
    have hz := ann_ix.mp ((R'.ann _).mp hk)
    rw [hB] at hz
    have e : sm b (fun x => y x * dot a (mA B x) (yL s' t (LP s'))) = sm a (fun t' => yL s' t (LP s') t' * dot b (mA A t') y) := by
      have e1 : ∀ x, y x * dot a (mA B x) (yL s' t (LP s')) = sm a fun t' => y x * (mA B x t' * yL s' t (LP s') t') := fun x => (sm_mul _ _ _).symm
      have e2 : ∀ t', yL s' t (LP s') t' * dot b (mA A t') y = sm b fun x => yL s' t (LP s') t' * (mA A t' x * y x) := fun t' => (sm_mul _ _ _).symm
      rw [sm_congr fun x _ => e1 x, sm_congr fun t' _ => e2 t', sm_comm]
      refine sm_congr fun t' ht' => sm_congr fun x hx => ?_
      rw [rel t' ht' x hx, Int.mul_comm (y x), Int.mul_comm (mA B x t'), Int.mul_assoc]
    rw [sm_zero fun x hx => by rw [hz x hx]; simp] at e
    rw [sm_single ht fun t' ht' hne => by
      rcases piv_dec s' t' with ⟨j, hj, rfl⟩ | hf'
      · rw [hy j hj]; simp
      · rw [yL_out hne hf']; simp] at e
    rw [yL_free hf] at e
    exact (Int.mul_eq_zero.mp e.symm).resolve_left (LP_ne R')
theorem colsI_len (rows : Rows) (n : Nat) : (colsI rows n).length = n := by simp [colsI]
theorem colsI_row {rows : Rows} {n : Nat} : ∀ e ∈ colsI rows n, e.length = rows.length := fun e he => by
  obtain ⟨c, _, rfl⟩ := List.mem_map.mp he
  exact List.length_map ..
theorem colsI_rel {rows : Rows} {n t x : Nat} (ht : t < rows.length) (hx : x < n) : mA rows t x = mA (colsI rows n) x t := by
  have h1 : rows[t]? = some rows[t] := List.getElem?_eq_getElem ht
  have h2 : (colsI rows n)[x]? = some (rows.map fun r => gI r x) := by
    unfold colsI; rw [List.getElem?_map, List.getElem?_range hx]; rfl
  unfold mA
  rw [h1, h2]
  show gI rows[t] x = gI (rows.map fun r => gI r x) t
  exact (gI_of (by rw [List.getElem?_map, h1]; rfl)).symm
theorem colsI_bd {rows : Rows} {n b : Nat} (h : ∀ r ∈ rows, ∀ x, (gI r x).natAbs < 2 ^ b) : ∀ e ∈ colsI rows n, ∀ x, (gI e x).natAbs < 2 ^ b := fun e he x => by
  obtain ⟨c, _, rfl⟩ := List.mem_map.mp he
  rcases gI_mem (r := rows.map fun r => gI r c) (x := x) with h0 | h0
  · rw [h0]; exact Nat.pow_pos (by decide)
  · obtain ⟨r, hr, e⟩ := List.mem_map.mp h0
    rw [← e]; exact h r hr c
theorem rank_cols {w : Nat} {rows : Rows} (len : ∀ r ∈ rows, r.length = w) : (elim rows).length = (elim (colsI rows w)).length := by
  have R := elim_rs rows.length rows len (Nat.le_refl _)
  have R' := elim_rs (colsI rows w).length (colsI rows w) colsI_row (Nat.le_refl _)
  rw [List.take_length] at R R'
  refine Nat.le_antisymm ?_ ?_
  · exact rank_half rfl (colsI_len rows w) (fun t ht x hx => colsI_rel ht hx) R R'
  · exact rank_half (colsI_len rows w) rfl (fun t ht x hx => (colsI_rel hx ht).symm) R' R
end Qk02
set_option Elab.async false
set_option linter.all false
set_option maxRecDepth 100000
set_option maxHeartbeats 4000000
/-! M03e: the one dependency. -/
namespace Qk02
open PySem
theorem sm_skip {k : Nat} (F : Nat → Int) : ∀ {n : Nat}, k ≤ n → sm (n + 1) F = sm n (fun t => F (if t < k then t else t + 1)) + F k
  | 0, h => by
    have : k = 0 := by omega
    subst this; rfl
  | n + 1, h => by
    by_cases e : k = n + 1
    · subst e
      rw [sm]
      congr 1
      exact sm_congr fun t ht => by rw [if_pos ht]
    · rw [sm, sm_skip (k := k) F (n := n) (by omega)]
      show _ = sm n (fun t => F (if t < k then t else t + 1)) + F (if n < k then n else n + 1) + F k
      rw [if_neg (show ¬ n < k by omega)]; omega
theorem sum_range (f : Nat → Int) : ∀ n, ((List.range n).map f).sum = sm n f
  | 0 => rfl
  | n + 1 => by rw [List.range_succ, List.map_append, List.sum_append, sum_range f n, sm]; simp
theorem sumC_sm (rows : Rows) (ws : List Int) (c : Nat) : sumC rows ws c = sm rows.length fun k => gI ws k * mA rows k c := sum_range _ _
/-- y kills the columns: a dependency of the rows -/
theorem ann_cols {rows : Rows} {w : Nat} {y : Nat → Int} : (∀ e ∈ colsI rows w, dot rows.length (gI e) y = 0) ↔ ∀ c, c < w → sm rows.length (fun k => y k * mA rows k c) = 0 := by
  rw [ann_ix, colsI_len]
  constructor
  · intro h c hc
    rw [← h c hc]
    exact sm_congr fun k hk => by rw [Int.mul_comm, colsI_rel hk hc]
  · intro h c hc
    rw [← h c hc]
    exact sm_congr fun k hk => by rw [Int.mul_comm (y k), colsI_rel hk hc]
theorem erase_row {rows : Rows} {k t : Nat} : mA (rows.eraseIdx k) t = mA rows (if t < k then t else t + 1) := by
  unfold mA; rw [List.getElem?_eraseIdx]; split <;> rfl
theorem surj_of {P : Nat → Nat} {k n : Nat} (hk : n ≤ k) (h : ∀ i, i < k → P i < n) (inj : ∀ i, i < k → ∀ j, j < k → P i = P j → i = j) {x : Nat} (hx : x < n) : ∃ i, i < k ∧ x = P i := Classical.byContradiction fun hc => by
  have hne : ∀ i, i < k → x ≠ P i := fun i hi e => hc ⟨i, hi, e⟩
  have := inj_le (P := fun i => if i = k then x else P i) (k := k + 1) (n := n) (fun i hi => by
    by_cases e : i = k
    · simp only [e, if_true]; exact hx
    · simp only [e, if_false]; exact h i (by omega)) (fun i hi j hj e => by
    by_cases ei : i = k <;> by_cases ej : j = k
    · rw [ei, ej]
    · simp only [ei, ej, if_true, if_false] at e; exact absurd e (hne j (by omega))
    · simp only [ei, ej, if_true, if_false] at e; exact absurd e.symm (hne i (by omega))
    · simp only [ei, ej, if_false] at e; exact inj i (by omega) j (by omega) e)
  omega
section
variable {w : Nat} {rows : Rows} {S : Sv} {f : Nat}
/-- the only free place -/
theorem free_only (R : RS rows.length (colsI rows w) S) (h1 : S.length + 1 = rows.length) (hf : ∀ i, i < S.length → f ≠ Pv S i) (hfl : f < rows.length) {x : Nat} (hx : x < rows.length) (hxf : x ≠ f) : ∃ i, i < S.length ∧ x = Pv S i := by
  obtain ⟨i, hi, e⟩ := surj_of (P := fun i => if i = S.length then f else Pv S i) (k := S.length + 1) (n := rows.length) (by omega) (fun i hi => by
    by_cases e : i = S.length
    · simp only [e, if_true]; exact hfl
    · simp only [e, if_false]; exact R.lt (by omega)) (fun i hi j hj e => by
    by_cases ei : i = S.length <;> by_cases ej : j = S.length
    · rw [ei, ej]
    · simp only [ei, ej, if_true, if_false] at e; exact absurd e (hf j (by omega))
    · simp only [ei, ej, if_true, if_false] at e; exact absurd e.symm (hf i (by omega))
    · simp only [ei, ej, if_false] at e; exact R.inj i (by omega) j (by omega) e) hx
  by_cases ei : i = S.length
  · simp only [ei, if_true] at e; exact absurd e hxf
  · simp only [ei, if_false] at e; exact ⟨i, by omega, e⟩
/-- what a killed vector is at a leading place -/
theorem killed_at (R : RS rows.length (colsI rows w) S) (h1 : S.length + 1 = rows.length) (hf : ∀ i, i < S.length → f ≠ Pv S i) (hfl : f < rows.length) {y : Nat → Int} (hy : ∀ i, i < S.length → dot rows.length (U S i) y = 0) {i : Nat} (hi : i < S.length) : U S i (Pv S i) * y (Pv S i) + U S i f * y f = 0 := by
  have h0 := hy i hi
  unfold dot at h0
  have e : sm rows.length (fun x => U S i x * y x) = sm rows.length (fun x => (if x = Pv S i then U S i (Pv S i) * y (Pv S i) else 0) + (if x = f then U S i f * y f else 0)) := sm_congr fun x hx => by
    by_cases e1 : x = f
    · subst e1; rw [if_neg (hf i hi), if_pos rfl]; omega
    · rw [if_neg e1]
      obtain ⟨j, hj, rfl⟩ := free_only R h1 hf hfl hx e1
      by_cases e2 : j = i
      · subst e2; rw [if_pos rfl]; omega
      · rw [R.zr i hi j hj (Ne.symm e2), if_neg fun e => e2 (R.inj j hj i hi e)]; simp
  rw [e, sm_add, sm_single (R.lt hi) fun x _ hne => if_neg hne, sm_single hfl fun x _ hne => if_neg hne, if_pos rfl, if_pos rfl] at h0
  exact h0
/-- rows without row k are independent where no weight is 0 -/
theorem erase_indep (len : ∀ r ∈ rows, r.length = w) (R : RS rows.length (colsI rows w) S) (h1 : S.length + 1 = rows.length) (hf : ∀ i, i < S.length → f ≠ Pv S i) (hfl : f < rows.length)
    {k : Nat} (hk : k < rows.length) (hnz : ∀ i, i < S.length → k = Pv S i → U S i f ≠ 0) : (elim (colsI (rows.eraseIdx k) w)).length = (rows.eraseIdx k).length := by
  have hel : (rows.eraseIdx k).length = S.length := by rw [List.length_eraseIdx, if_pos hk]; omega
  have R' := elim_rs (colsI (rows.eraseIdx k) w).length (colsI (rows.eraseIdx k) w) colsI_row (Nat.le_refl _)
  rw [List.take_length] at R'
  generalize elim (colsI (rows.eraseIdx k) w) = S' at R' ⊢
  have hle : S'.length ≤ (rows.eraseIdx k).length := inj_le (fun i hi => R'.lt hi) R'.inj
  refine Nat.le_antisymm hle (Nat.le_of_not_lt fun hlt => ?_)
  -- a free place of the smaller system
  obtain ⟨f', hf'l, hf'⟩ : ∃ f', f' < (rows.eraseIdx k).length ∧ ∀ i, i < S'.length → f' ≠ Pv S' i := Classical.byContradiction fun hc => by
    have hall : ∀ x, x < (rows.eraseIdx k).length → ∃ i, i < S'.length ∧ x = Pv S' i := fun x hx => by
      rcases piv_dec S' x with h | h
      · exact h
      · exact absurd ⟨x, hx, h⟩ hc
    have := inj_le (P := fun x => if h : x < (rows.eraseIdx k).length then (hall x h).choose else 0) (k := (rows.eraseIdx k).length) (n := S'.length) (fun x hx => by
      rw [dif_pos hx]; exact (hall x hx).choose_spec.1) (fun x hx z hz e => by
      rw [dif_pos hx, dif_pos hz] at e
      have h1 := (hall x hx).choose_spec.2
      have h2 := (hall z hz).choose_spec.2
      rw [h1, e, ← h2])
    omega
  have hkill := ann_cols.mp ((R'.ann _).mp (yL_kill R' hf'l fun i hi => LP_dvd hi))
  have hyf := yL_free (L := LP S') hf'
  have hL := LP_ne R'
  generalize yL S' f' (LP S') = y' at hkill hyf
  let y : Nat → Int := fun t => if t < k then y' t else if t = k then 0 else y' (t - 1)
  have hy : ∀ i, i < S.length → dot rows.length (U S i) y = 0 := (R.ann y).mpr (ann_cols.mpr fun c hc => by
    have := hkill c hc
    rw [hel] at this
    rw [← h1, sm_skip (k := k) _ (by omega)]
    have e0 : y k = 0 := by show (if k < k then _ else if k = k then _ else _) = (0 : Int); rw [if_neg (Nat.lt_irrefl k), if_pos rfl]
    rw [e0, Int.zero_mul, Int.add_zero, ← this]
    refine sm_congr fun t ht => ?_
    rw [erase_row]
    by_cases h : t < k
    · simp only [h, if_true]
      show (if t < k then _ else _) * _ = _
      rw [if_pos h]
    · simp only [h, if_false]
      show (if t + 1 < k then _ else if t + 1 = k then _ else y' (t + 1 - 1)) * _ = _
      rw [if_neg (by omega), if_neg (by omega), Nat.add_sub_cancel])
  have hyk : y k = 0 := by show (if k < k then _ else if k = k then _ else _) = (0 : Int); rw [if_neg (Nat.lt_irrefl k), if_pos rfl]
  have hy0 : y f = 0 := by
    by_cases e : k = f
    · rw [← e]; exact hyk
    · obtain ⟨i, hi, e2⟩ := free_only R h1 hf hfl hk e
      have := killed_at R h1 hf hfl hy hi
      rw [← e2, hyk, Int.mul_zero, Int.zero_add] at this
      exact (Int.mul_eq_zero.mp this).resolve_left (hnz i hi e2)
  have hyall : ∀ x, x < rows.length → y x = 0 := fun x hx => by
    by_cases e : x = f
    · rw [e]; exact hy0
    · obtain ⟨i, hi, rfl⟩ := free_only R h1 hf hfl hx e
      have := killed_at R h1 hf hfl hy hi
      rw [hy0, Int.mul_zero, Int.add_zero] at this
      exact (Int.mul_eq_zero.mp this).resolve_left (R.nz i hi)
  apply hL
  rw [← hyf]
  by_cases h : f' < k
  · have := hyall f' (by omega)
    show _ = (0 : Int)
    have e : y f' = y' f' := by show (if f' < k then _ else _) = _; rw [if_pos h]
    rw [← e]; exact this
  · have := hyall (f' + 1) (by omega)
    have e : y (f' + 1) = y' f' := by show (if f' + 1 < k then _ else if f' + 1 = k then _ else y' (f' + 1 - 1)) = _; rw [if_neg (by omega), if_neg (by omega), Nat.add_sub_cancel]
    rw [← e]; exact this
/-- and dependent where the weight of row k is 0 -/
theorem erase_dep (R : RS rows.length (colsI rows w) S) (h1 : S.length + 1 = rows.length) (hf : ∀ i, i < S.length → f ≠ Pv S i) (hfl : f < rows.length)
    {i : Nat} (hi : i < S.length) (hz : U S i f = 0) : (elim (colsI (rows.eraseIdx (Pv S i)) w)).length ≠ (rows.eraseIdx (Pv S i)).length := fun he => by
  have hk := R.lt hi
  have hel : (rows.eraseIdx (Pv S i)).length = S.length := by rw [List.length_eraseIdx, if_pos hk]; omega
  have R' := elim_rs (colsI (rows.eraseIdx (Pv S i)) w).length (colsI (rows.eraseIdx (Pv S i)) w) colsI_row (Nat.le_refl _)
  rw [List.take_length] at R'
  generalize elim (colsI (rows.eraseIdx (Pv S i)) w) = S' at R' he
  have hkill := ann_cols.mp ((R.ann _).mp (yL_kill R hfl fun i hi => LP_dvd hi))
  have hyf := yL_free (L := LP S) hf
  have hyk : yL S f (LP S) (Pv S i) = 0 := by rw [yL_piv R hf hi, hz]; simp
  have hL := LP_ne R
  generalize yL S f (LP S) = y at hkill hyf hyk
  generalize Pv S i = k at hk hel R' he hyk hf
  have hy' : ∀ j, j < S'.length → dot (rows.eraseIdx k).length (U S' j) (fun t => y (if t < k then t else t + 1)) = 0 := (R'.ann _).mpr (ann_cols.mpr fun c hc => by
    have := hkill c hc
    rw [← h1, sm_skip (k := k) _ (by omega), hyk, Int.zero_mul, Int.add_zero] at this
    rw [hel, ← this]
    exact sm_congr fun t ht => by rw [erase_row])
  have hall : ∀ x, x < (rows.eraseIdx k).length → y (if x < k then x else x + 1) = 0 := fun x hx => by
    obtain ⟨j, hj, rfl⟩ := surj_of (P := Pv S') (k := S'.length) (by omega) (fun i hi => R'.lt hi) R'.inj hx
    have := hy' j hj
    unfold dot at this
    rw [sm_single (R'.lt hj) fun z hz hne => by
      obtain ⟨l, hl, rfl⟩ := surj_of (P := Pv S') (k := S'.length) (by omega) (fun i hi => R'.lt hi) R'.inj hz
      rw [R'.zr j hj l hl fun e => hne (by rw [e])]; simp] at this
    exact (Int.mul_eq_zero.mp this).resolve_left (R'.nz j hj)
  have hkf : f ≠ k := fun e => hL (by rw [← hyf, e, hyk])
  apply hL
  rw [← hyf]
  by_cases h : f < k
  · have := hall f (by omega); rwa [if_pos h] at this
  · have := hall (f - 1) (by omega); rwa [if_neg (by omega), show f - 1 + 1 = f by omega] at this
end
end Qk02
set_option Elab.async false
set_option linter.all false
set_option maxRecDepth 100000
set_option maxHeartbeats 4000000
/-! M02f: what the law asks stands. -/
namespace Qk02
open PySem
theorem cover_le {P : Nat → Nat} {k n : Nat} (hall : ∀ x, x < n → ∃ i, i < k ∧ x = P i) : n ≤ k := inj_le (P := fun x => if h : x < n then (hall x h).choose else 0) (fun x hx => by
    rw [dif_pos hx]; exact (hall x hx).choose_spec.1) (fun x hx z hz e => by
    rw [dif_pos hx, dif_pos hz] at e
    have h1 := (hall x hx).choose_spec.2
    have h2 := (hall z hz).choose_spec.2
    rw [h1, e, ← h2])
theorem pv_mem {S : Sv} {x : Nat} : x ∈ S.map (·.1) ↔ ∃ i, i < S.length ∧ x = Pv S i := by
  constructor
  · intro h
    obtain ⟨po, hpo, e⟩ := List.mem_map.mp h
    obtain ⟨i, hi⟩ := List.mem_iff_getElem?.mp hpo
    refine ⟨i, (List.getElem?_eq_some_iff.mp hi).1, ?_⟩
    unfold Pv sv; rw [hi]; exact e.symm
  · rintro ⟨i, hi, rfl⟩
    exact List.mem_map.mpr ⟨_, (sv_mem hi).1, rfl⟩
theorem perm_nodup {α : Type} [DecidableEq α] : ∀ {l m : List α}, l.Nodup → m.Nodup → (∀ x, x ∈ l ↔ x ∈ m) → l.Perm m
  | [], m, _, _, h => by
    cases m with
    | nil => exact .nil
    | cons y m => exact absurd ((h y).mpr List.mem_cons_self) List.not_mem_nil
  | x :: l, m, hl, hm, h => by
    obtain ⟨h1, h2⟩ := List.nodup_cons.mp hl
    have hx : x ∈ m := (h x).mp List.mem_cons_self
    refine List.Perm.trans (.cons x ?_) (List.perm_cons_erase hx).symm
    refine perm_nodup h2 (hm.erase x) fun y => ?_
    rw [hm.mem_erase_iff]
    constructor
    · intro hy
      exact ⟨fun e => h1 (e ▸ hy), (h y).mp (List.mem_cons_of_mem _ hy)⟩
    · rintro ⟨hne, hy⟩
      exact (List.mem_cons.mp ((h y).mpr hy)).resolve_left hne
theorem nodup_int {l : List Nat} (h : l.Nodup) : (l.map fun i => ((i : Nat) : Int)).Nodup := by
  unfold List.Nodup at h ⊢
  rw [List.pairwise_map]
  exact h.imp fun hne e => hne (by omega)
theorem mem_int {l : List Nat} {x : Nat} : (((x : Nat) : Int) ∈ l.map fun i => ((i : Nat) : Int)) ↔ x ∈ l := by
  rw [List.mem_map]
  constructor
  · rintro ⟨y, hy, e⟩
    have : y = x := by omega
    exact this ▸ hy
  · exact fun h => ⟨x, h, rfl⟩
theorem map_int (S : Sv) : (S.map fun po => ((po.1 : Nat) : Int)) = (S.map (·.1)).map fun i => ((i : Nat) : Int) := by rw [List.map_map]; rfl
section
variable {n : Nat} {eqs : List (List Int)} {S : Sv}
theorem pv_nodup (R : RS n eqs S) : (S.map (·.1)).Nodup := by
  unfold List.Nodup
  rw [List.pairwise_iff_getElem]
  intro i j hi hj hij e
  rw [List.length_map] at hi hj
  have key : ∀ k, (hk : k < S.length) → (S.map (·.1))[k]'(by rw [List.length_map]; exact hk) = Pv S k := fun k hk => by
    rw [List.getElem_map]; unfold Pv sv; rw [List.getElem?_eq_getElem hk]; rfl
  rw [key i hi, key j hj] at e
  have := R.inj i hi j hj e
  omega
theorem permP_iff (R : RS n eqs S) {m : Nat} : PermP S m ↔ ∀ x, (∃ i, i < S.length ∧ x = Pv S i) ↔ x < m := by
  unfold PermP
  rw [map_int]
  constructor
  · intro h x
    rw [← pv_mem, ← mem_int, h.mem_iff, mem_int, List.mem_range]
  · intro h
    refine perm_nodup (nodup_int (pv_nodup R)) (nodup_int List.nodup_range) fun z => ?_
    constructor
    · intro hz
      obtain ⟨x, hx, rfl⟩ := List.mem_map.mp hz
      exact mem_int.mpr (List.mem_range.mpr ((h x).mp (pv_mem.mp hx)))
    · intro hz
      obtain ⟨x, hx, rfl⟩ := List.mem_map.mp hz
      exact mem_int.mpr (pv_mem.mpr ((h x).mpr (List.mem_range.mp hx)))
/-- all weights 0 where all places lead -/
theorem full_zero (R : RS n eqs S) (hS : n ≤ S.length) {y : Nat → Int} (hy : ∀ e ∈ eqs, dot n (gI e) y = 0) : ∀ x, x < n → y x = 0 := fun x hx => by
  have hk := (R.ann y).mpr hy
  obtain ⟨j, hj, rfl⟩ := surj_of (P := Pv S) (k := S.length) hS (fun i hi => R.lt hi) R.inj hx
  have := hk j hj
  unfold dot at this
  rw [sm_single (R.lt hj) fun z hz hne => by
    obtain ⟨l, hl, rfl⟩ := surj_of (P := Pv S) (k := S.length) hS (fun i hi => R.lt hi) R.inj hz
    rw [R.zr j hj l hl fun e => hne (by rw [e])]; simp] at this
  exact (Int.mul_eq_zero.mp this).resolve_left (R.nz j hj)
end
theorem foldl_mul (l : List (Int × Int)) : ∀ c : Int, l.foldl (fun c TB => c * TB.2) c = c * l.foldl (fun c TB => c * TB.2) 1 := by
  induction l with
  | nil => intro c; simp
  | cons x l ih =>
    intro c
    rw [List.foldl_cons, List.foldl_cons, ih (c * x.2), ih (1 * x.2), Int.one_mul, Int.mul_assoc]
theorem comm_dvd : ∀ {told : List (Int × Int)} {TB : Int × Int}, TB ∈ told → TB.2 ∣ comm told
  | x :: l, TB, h => by
    have e : comm (x :: l) = x.2 * comm l := by unfold comm; rw [List.foldl_cons, foldl_mul, Int.one_mul]
    rw [e]
    rcases List.mem_cons.mp h with rfl | h
    · exact Int.dvd_mul_right _ _
    · exact Int.dvd_trans (comm_dvd h) (Int.dvd_mul_left _ _)
theorem mA_app {rows : Rows} {t : List Int} {k : Nat} (h : k < rows.length) : mA (rows ++ [t]) k = mA rows k := by
  unfold mA; rw [List.getElem?_append_left h]
theorem mA_last {rows : Rows} {t : List Int} : mA (rows ++ [t]) rows.length = gI t := by
  unfold mA; rw [List.getElem?_append_right (Nat.le_refl _), Nat.sub_self]; rfl
theorem adds_ok {w : Nat} {rows : Rows} {t : List Int} {S : Sv} (R : RS (rows ++ [t]).length (colsI (rows ++ [t]) w) S) (h1 : S.length + 1 = (rows ++ [t]).length) (hf : ∀ i, i < S.length → rows.length ≠ Pv S i)
    {told : List (Int × Int)} (ht : CombOk S rows.length told) : ∀ cc, cc < w → ((List.range rows.length).map fun j => share told j * gI (rows[j]?.getD []) cc).sum = gI t cc * comm told := fun cc hcc => by
  have hln : (rows ++ [t]).length = rows.length + 1 := by simp
  have hfl : rows.length < (rows ++ [t]).length := by omega
  have hkill := ann_cols.mp ((R.ann _).mp (yL_kill R hfl fun i hi => LP_dvd hi)) cc hcc
  rw [hln, sm, yL_free hf, mA_last] at hkill
  have hL := LP_ne R
  refine Int.eq_of_mul_eq_mul_left hL ?_
  rw [sum_range, ← sm_mul]
  have key : ∀ j, j < rows.length → LP S * (share told j * gI (rows[j]?.getD []) cc) = -(comm told) * (yL S rows.length (LP S) j * mA (rows ++ [t]) j cc) := fun j hj => by
    obtain ⟨po, hpo, hpe, TB, hTB, F⟩ := ht.2 j hj
    obtain ⟨i, hi⟩ := List.mem_iff_getElem?.mp hpo
    have hil := (List.getElem?_eq_some_iff.mp hi).1
    have e1 : sv S i = po := by unfold sv; rw [hi]; rfl
    have hP : Pv S i = j := by unfold Pv; rw [e1]; exact hpe
    have hU : U S i = gI po.2 := by unfold U; rw [e1]
    have hy : yL S rows.length (LP S) j = -(U S i rows.length) * (LP S / U S i j) := by
      have := yL_piv (L := LP S) R hf hil
      rw [hP] at this; exact this
    have hd : U S i j ∣ LP S := by have := LP_dvd (s := S) hil; rwa [hP] at this
    have hn0 : U S i j ≠ 0 := by have := R.nz i hil; rwa [hP] at this
    rw [hy, mA_app hj]
    have hsh : share told j = TB.1 * (comm told / TB.2) := by
      unfold share; rw [hTB, Option.getD_some, Int.fdiv_eq_ediv_of_dvd (comm_dvd (List.mem_of_getElem? hTB))]
    rw [hsh]
    show LP S * (_ * mA rows j cc) = _
    obtain ⟨q, hq⟩ := hd
    obtain ⟨d, hdd⟩ := comm_dvd (List.mem_of_getElem? hTB)
    have hB0 : TB.2 ≠ 0 := by have := F.pos; omega
    rw [hq, hdd, Int.mul_ediv_cancel_left _ hn0, Int.mul_ediv_cancel_left _ hB0]
    have hE := F.eq
    rw [← hU] at hE
    generalize U S i j = b at hE
    generalize U S i rows.length = tt at hE
    generalize mA rows j cc = m
    generalize TB.1 = T at hE
    generalize TB.2 = B at hE
    have e3 : b * q * (T * d * m) = (T * b) * (q * d * m) := by
      rw [Int.mul_comm b q, Int.mul_comm T b]
      simp only [Int.mul_assoc, Int.mul_left_comm]
    have e4 : -(B * d) * (-tt * q * m) = (B * tt) * (q * d * m) := by
      rw [Int.neg_mul, Int.neg_mul, Int.neg_mul, Int.mul_neg, Int.neg_neg]
      simp only [Int.mul_assoc, Int.mul_left_comm]
    rw [e3, e4, hE]
  rw [sm_congr key, sm_mul]
  have e5 : sm rows.length (fun x => yL S rows.length (LP S) x * mA (rows ++ [t]) x cc) = -(LP S * gI t cc) := by omega
  rw [e5, Int.neg_mul_neg, Int.mul_left_comm, Int.mul_comm (comm told)]
theorem right_ok {w : Nat} {rows : Rows} {t : List Int} (G : CG w rows t) : ROk w rows t := by
  have len : ∀ r ∈ rows, r.length = w := fun r hr => (G.rows r hr).1
  have hrA : ∀ r : List Int, RowG w (2 ^ 20) r → ∀ x, (gI r x).natAbs < 2 ^ 21 := fun r hr x => by
    rcases gI_mem (r := r) (x := x) with h | h
    · rw [h]; exact Nat.pow_pos (by decide)
    · exact Nat.lt_of_le_of_lt (hr.2 _ h) (by decide)
  have hA : ∀ r ∈ rows, ∀ x, (gI r x).natAbs < 2 ^ 21 := fun r hr => hrA r (G.rows r hr)
  have hw8 := G.w8
  have hn9 := G.n9
  have hln : (rows ++ [t]).length = rows.length + 1 := by simp
  have len2 : ∀ r ∈ rows ++ [t], r.length = w := fun r hr => by
    rcases List.mem_append.mp hr with h | h
    · exact len r h
    · rw [List.mem_singleton.mp h]; exact G.t.1
  have hA2 : ∀ r ∈ rows ++ [t], ∀ x, (gI r x).natAbs < 2 ^ 21 := fun r hr => by
    rcases List.mem_append.mp hr with h | h
    · exact hA r h
    · rw [List.mem_singleton.mp h]; exact hrA t G.t
  have R := elim_rs (colsI (rows ++ [t]) w).length (colsI (rows ++ [t]) w) colsI_row (Nat.le_refl _)
  rw [List.take_length] at R
  have hcA := colsI_bd (n := w) hA2
  have h8 : (elim (colsI (rows ++ [t]) w)).length ≤ 8 := by
    have := elim_len (colsI (rows ++ [t]) w); rw [colsI_len] at this; omega
  have hsm := fun {i} (hi : i < (elim (colsI (rows ++ [t]) w)).length) x => sys_small R h8 (fun e he x => Nat.le_of_lt (hcA e he x)) hi x
  have hE : EOk (rows ++ [t]).length (colsI (rows ++ [t]) w) := eok_of (by rw [hln]; exact Nat.le_trans (Nat.succ_le_succ hn9) (Nat.le_trans (Nat.succ_le_succ (Nat.succ_le_succ hw8)) (by decide))) (by rw [colsI_len]; exact Nat.le_trans hw8 (by decide)) colsI_row (.inr (by rw [colsI_len]; exact hw8)) hcA
  have hr1 : (lrun rows w).2 = (elim (colsI rows w)).length := (lrun_rank len hA).trans (rank_cols len)
  have hr2 : (lrun (rows ++ [t]) w).2 = (elim (colsI (rows ++ [t]) w)).length := (lrun_rank len2 hA2).trans (rank_cols len2)
  have hle1 : (lrun rows w).2 ≤ rows.length := by rw [lrun_rank len hA]; exact elim_len rows
  refine ⟨G, lok_of hw8 (by omega) len hA, lok_of hw8 (by rw [hln]; omega) len2 hA2, by rw [← hln]; exact hE, by omega, fun po hpo => ?_, ?_, ?_, ?_⟩
  · obtain ⟨i, hi⟩ := List.mem_iff_getElem?.mp hpo
    have hil := (List.getElem?_eq_some_iff.mp hi).1
    have e1 : sv (elim (colsI (rows ++ [t]) w)) i = po := by unfold sv; rw [hi]; rfl
    have h2 := R.nz i hil
    unfold U Pv at h2
    rw [e1] at h2
    refine ⟨by rw [R.len _ hpo, hln], h2, bd_of fun x => ?_⟩
    have := hsm hil x
    unfold U at this
    rw [e1] at this
    exact bd_mono this (by decide)
  · rw [map_int]; exact nodup_int (pv_nodup R)
  all_goals
    rw [hr2, hr1]
    generalize hSe : elim (colsI (rows ++ [t]) w) = S at R h8 hsm hr2
  · intro hp
    have hpi := (permP_iff R).mp hp
    have hSl : S.length = rows.length := by have := hp.length_eq; simpa using this
    have hf : ∀ i, i < S.length → rows.length ≠ Pv S i := fun i hi e => by
      have := (hpi rows.length).mp ⟨i, hi, e⟩; omega
    have h1 : S.length + 1 = (rows ++ [t]).length := by omega
    have hfl : rows.length < (rows ++ [t]).length := by omega
    have he := erase_indep len2 R h1 hf hfl hfl fun i hi e => absurd e (hf i hi)
    have hee : (rows ++ [t]).eraseIdx rows.length = rows := by
      rw [List.eraseIdx_append_of_length_le (Nat.le_refl _), Nat.sub_self]; simp
    rw [hee] at he
    refine ⟨he, by omega, fun told ht => ⟨fun TB hTB => ?_, adds_ok R h1 hf ht⟩⟩
    obtain ⟨k, hk⟩ := List.mem_iff_getElem?.mp hTB
    have hkl : k < rows.length := by rw [← ht.1]; exact (List.getElem?_eq_some_iff.mp hk).1
    obtain ⟨po, hpo, hpe, TB', hTB', F⟩ := ht.2 k hkl
    rw [hk] at hTB'
    cases hTB'
    obtain ⟨i, hi⟩ := List.mem_iff_getElem?.mp hpo
    have hil := (List.getElem?_eq_some_iff.mp hi).1
    have e1 : sv S i = po := by unfold sv; rw [hi]; rfl
    have hs := fun x => hsm hil x
    unfold U at hs
    rw [e1] at hs
    exact ⟨F.pos, bd_mono (Nat.lt_of_le_of_lt F.tb (hs _)) (by decide), bd_mono (Nat.lt_of_le_of_lt F.bb (hs _)) (by decide), F.gcd⟩
  · intro hp
    rcases Nat.lt_or_ge (elim (colsI rows w)).length rows.length with hlt | hge
    · exact .inl hlt
    right
    have R1 := elim_rs (colsI rows w).length (colsI rows w) colsI_row (Nat.le_refl _)
    rw [List.take_length] at R1
    have hall : ∀ k, k < rows.length → ∃ i, i < S.length ∧ k = Pv S i := fun k hk => by
      rcases piv_dec S k with h | hf
      · exact h
      exfalso
      have hkl : k < (rows ++ [t]).length := by omega
      have hkill := ann_cols.mp ((R.ann _).mp (yL_kill R hkl fun i hi => LP_dvd hi))
      have hyl : yL S k (LP S) rows.length = 0 := by
        rcases piv_dec S rows.length with ⟨i, hi, e⟩ | hf'
        · have h2 := yL_piv (L := LP S) R hf hi
          rw [← e, R.ech i hi k (by rw [← e]; exact hk)] at h2
          rw [h2]; simp
        · exact yL_out (by omega) hf'
      have hz := full_zero R1 hge (y := yL S k (LP S)) (ann_cols.mpr fun c hc => by
        have := hkill c hc
        rw [hln, sm, hyl, Int.zero_mul, Int.add_zero] at this
        rw [← this]
        exact sm_congr fun j hj => by rw [mA_app hj]) k hk
      rw [yL_free hf] at hz
      exact LP_ne R hz
    have h2 : rows.length ≤ S.length := cover_le hall
    have h3 : S.length ≤ rows.length + 1 := by rw [← hln]; exact inj_le (fun i hi => R.lt hi) R.inj
    rw [hr1] at hle1
    rcases Nat.lt_or_ge rows.length S.length with h4 | h4
    · omega
    exfalso
    refine hp ((permP_iff R).mpr fun x => ⟨?_, hall x⟩)
    rintro ⟨i, hi, rfl⟩
    refine Nat.lt_of_not_le fun hge2 => ?_
    have hlt := R.lt hi
    have hPi : Pv S i = rows.length := by omega
    have := cover_le (P := Pv S) (k := S.length) (n := rows.length + 1) fun x hx => by
      rcases Nat.lt_or_ge x rows.length with h | h
      · exact hall x h
      · exact ⟨i, hi, by omega⟩
    omega
end Qk02
set_option Elab.async false
set_option linter.all false
set_option maxRecDepth 100000
set_option maxHeartbeats 0
/-! Printed by head.py: the end. -/
namespace Qk02
open PySem PySem.Spec PyProof.Rows L2 StX Z
/-! ### a Hook that tells built-in functions among the globals, too -/
def bfOk (bs : List (Str × String)) (K : PySem.W.Frag) : Bool := bs.all fun b => He.eqO (PySem.W.nsIn K mainGlobals b.1) (some (some (.builtin b.2)))
def obsX (fa : List He.Fa) (fn : List He.DefD) (bs : List (Str × String)) (K : PySem.W.Frag) : He.AlD × Bool := (He.obsD fa fn K, bfOk bs K)
def obsXG (n : Nat) (fa : List He.Fa) (fn : List He.DefD) (bs : List (Str × String)) (g : Addr → Option Obj) : He.AlD × Bool := obsX fa fn bs (He.frG g (He.asD g n))
def hookX (n : Nat) (fa : List He.Fa) (fn : List He.DefD) (bs : List (Str × String)) : PySem.W.Hook where
  α := He.AlD × Bool
  obs := fun s => obsXG n fa fn bs s.heap.get?
  val := fun _ => (He.valD fn, true)
  says := fun _ h => ∃ K : PySem.W.Frag, K.In h ∧ He.SaysD fa fn K ∧ bfOk bs K = true
  of := fun _ _ e => ⟨_, He.frG_in, congrArg (fun z : He.AlD × Bool => z.1) e, congrArg (fun z : He.AlD × Bool => z.2) e⟩
  keeps := fun _ _ _ ⟨K, hK, c⟩ k => ⟨K, PySem.W.Frag.In.keeps hK k, c⟩
theorem obsXG_eq {n : Nat} {fa : List He.Fa} {fn : List He.DefD} {bs : List (Str × String)} {g : Addr → Option Obj} {s : Shared} (h : ∀ a, g a = s.heap.get? a) : obsXG n fa fn bs g = (hookX n fa fn bs).obs s := by
  have e : g = s.heap.get? := funext h
  rw [e] <;> rfl
theorem bf_ok {K : PySem.W.Frag} {h : Heap} {mg : Str → Option Value} (X : K.In h) (G : h.Ns mainGlobals mg) {bs : List (Str × String)} (c : bfOk bs K = true) (i : Nat) {b : Str × String} (hb : bs[i]? = some b) : mg b.1 = some (.builtin b.2) :=
  PySem.W.mg_of X G (He.eqO_ok (List.all_eq_true.mp c b (List.mem_of_getElem? hb)))
abbrev FnP (K : PySem.W.Frag) (x : Str) (st : Stmt) (f : Addr) (fd : FuncData) : Prop := FunD K x x (defArgs st) (defBody st) (defScope st) [] [] f fd
section
variable {P : Program} {w : World} {K : PySem.W.Frag} {mg : Str → Option Value} {base : Heap}
theorem ok_fraction (T : Txt K mg) {f : Addr} {fd : FuncData} (F : FunD K "fraction" "fraction" (defArgs s_fraction) (defBody s_fraction) (defScope s_fraction) [.int 1] [] f fd) (hm : mg "fraction" = some (.ref f)) : FnZ P w K mg base "fraction" 1 S_fraction :=
  fnz_dfl F (fn_z F sc_fraction S_fraction (fun ds M kk h => by unfold S_fraction at h; first | (obtain ⟨_, rfl, _⟩ := h; rfl) | (obtain ⟨_, _, rfl, _⟩ := h; rfl) | (obtain ⟨_, _, _, rfl, _⟩ := h; rfl) | (obtain ⟨_, _, _, _, rfl, _⟩ := h; rfl) | (obtain ⟨_, _, _, _, _, rfl, _⟩ := h; rfl) | (obtain ⟨_, _, _, _, _, _, rfl, _⟩ := h; rfl) | (obtain ⟨_, _, _, _, _, _, _, rfl, _⟩ := h; rfl) | (obtain ⟨_, _, _, _, _, _, _, _, rfl, _⟩ := h; rfl)) (t_fraction K) (fun cdv A outer s H E hr => red_fraction T f cdv A outer s H E hr) (fun ds M kk h => z_fraction  h)) hm
    (F.binds1 2 1 (by decide) rfl fun T kV doc pm an cdv ct us its hu hi => ⟨_, rfl, match us, its, hu, hi with | [_, _], [_], _, _ => rfl⟩)
theorem ok_primitive (T : Txt K mg) {f : Addr} {fd : FuncData} (F : FnP K "primitive" s_primitive f fd) (hm : mg "primitive" = some (.ref f)) : FnZ P w K mg base "primitive" 1 S_primitive :=
  fnz_of F (fn_z F sc_primitive S_primitive (fun ds M kk h => by unfold S_primitive at h; first | (obtain ⟨_, rfl, _⟩ := h; rfl) | (obtain ⟨_, _, rfl, _⟩ := h; rfl) | (obtain ⟨_, _, _, rfl, _⟩ := h; rfl) | (obtain ⟨_, _, _, _, rfl, _⟩ := h; rfl) | (obtain ⟨_, _, _, _, _, rfl, _⟩ := h; rfl) | (obtain ⟨_, _, _, _, _, _, rfl, _⟩ := h; rfl) | (obtain ⟨_, _, _, _, _, _, _, rfl, _⟩ := h; rfl) | (obtain ⟨_, _, _, _, _, _, _, _, rfl, _⟩ := h; rfl)) (t_primitive K) (fun cdv A outer s H E hr => red_primitive T f cdv A outer s H E hr) (fun ds M kk h => z_primitive  h)) hm
    (F.bindsN fun _ _ _ _ _ _ us hl => match us, hl with | [_], _ => rfl)
theorem ok_is_regular (T : Txt K mg) {f : Addr} {fd : FuncData} (F : FnP K "_is_regular" s_is_regular f fd) (hm : mg "_is_regular" = some (.ref f)) : FnZ P w K mg base "_is_regular" 1 S_is_regular :=
  fnz_of F (fn_z F sc_is_regular S_is_regular (fun ds M kk h => by unfold S_is_regular at h; first | (obtain ⟨_, rfl, _⟩ := h; rfl) | (obtain ⟨_, _, rfl, _⟩ := h; rfl) | (obtain ⟨_, _, _, rfl, _⟩ := h; rfl) | (obtain ⟨_, _, _, _, rfl, _⟩ := h; rfl) | (obtain ⟨_, _, _, _, _, rfl, _⟩ := h; rfl) | (obtain ⟨_, _, _, _, _, _, rfl, _⟩ := h; rfl) | (obtain ⟨_, _, _, _, _, _, _, rfl, _⟩ := h; rfl) | (obtain ⟨_, _, _, _, _, _, _, _, rfl, _⟩ := h; rfl)) (t_is_regular K) (fun cdv A outer s H E hr => red_is_regular T f cdv A outer s H E hr) (fun ds M kk h => z_is_regular  h)) hm
    (F.bindsN fun _ _ _ _ _ _ us hl => match us, hl with | [_, _], _ => rfl)
theorem ok_first_nonzero (T : Txt K mg) {f : Addr} {fd : FuncData} (F : FnP K "_first_nonzero" s_first_nonzero f fd) (hm : mg "_first_nonzero" = some (.ref f)) : FnZ P w K mg base "_first_nonzero" 1 S_first_nonzero :=
  fnz_of F (fn_z F sc_first_nonzero S_first_nonzero (fun ds M kk h => by unfold S_first_nonzero at h; first | (obtain ⟨_, rfl, _⟩ := h; rfl) | (obtain ⟨_, _, rfl, _⟩ := h; rfl) | (obtain ⟨_, _, _, rfl, _⟩ := h; rfl) | (obtain ⟨_, _, _, _, rfl, _⟩ := h; rfl) | (obtain ⟨_, _, _, _, _, rfl, _⟩ := h; rfl) | (obtain ⟨_, _, _, _, _, _, rfl, _⟩ := h; rfl) | (obtain ⟨_, _, _, _, _, _, _, rfl, _⟩ := h; rfl) | (obtain ⟨_, _, _, _, _, _, _, _, rfl, _⟩ := h; rfl)) (t_first_nonzero K) (fun cdv A outer s H E hr => red_first_nonzero T f cdv A outer s H E hr) (fun ds M kk h => z_first_nonzero  h)) hm
    (F.bindsN fun _ _ _ _ _ _ us hl => match us, hl with | [_], _ => rfl)
theorem ok_law_is_integer (T : Txt K mg) {f : Addr} {fd : FuncData} (F : FnP K "_law_is_integer" s_law_is_integer f fd) (hm : mg "_law_is_integer" = some (.ref f)) : FnZ P w K mg base "_law_is_integer" 1 S_law_is_integer :=
  fnz_of F (fn_z F sc_law_is_integer S_law_is_integer (fun ds M kk h => by unfold S_law_is_integer at h; first | (obtain ⟨_, rfl, _⟩ := h; rfl) | (obtain ⟨_, _, rfl, _⟩ := h; rfl) | (obtain ⟨_, _, _, rfl, _⟩ := h; rfl) | (obtain ⟨_, _, _, _, rfl, _⟩ := h; rfl) | (obtain ⟨_, _, _, _, _, rfl, _⟩ := h; rfl) | (obtain ⟨_, _, _, _, _, _, rfl, _⟩ := h; rfl) | (obtain ⟨_, _, _, _, _, _, _, rfl, _⟩ := h; rfl) | (obtain ⟨_, _, _, _, _, _, _, _, rfl, _⟩ := h; rfl)) (t_law_is_integer K) (fun cdv A outer s H E hr => red_law_is_integer T f cdv A outer s H E hr) (fun ds M kk h => z_law_is_integer  h)) hm
    (F.bindsN fun _ _ _ _ _ _ us hl => match us, hl with | [_], _ => rfl)
theorem ok_law_box (T : Txt K mg) {f : Addr} {fd : FuncData} (F : FnP K "_law_box" s_law_box f fd) (hm : mg "_law_box" = some (.ref f)) : FnZ P w K mg base "_law_box" 1 S_law_box :=
  fnz_of F (fn_z F sc_law_box S_law_box (fun ds M kk h => by unfold S_law_box at h; first | (obtain ⟨_, rfl, _⟩ := h; rfl) | (obtain ⟨_, _, rfl, _⟩ := h; rfl) | (obtain ⟨_, _, _, rfl, _⟩ := h; rfl) | (obtain ⟨_, _, _, _, rfl, _⟩ := h; rfl) | (obtain ⟨_, _, _, _, _, rfl, _⟩ := h; rfl) | (obtain ⟨_, _, _, _, _, _, rfl, _⟩ := h; rfl) | (obtain ⟨_, _, _, _, _, _, _, rfl, _⟩ := h; rfl) | (obtain ⟨_, _, _, _, _, _, _, _, rfl, _⟩ := h; rfl)) (t_law_box K) (fun cdv A outer s H E hr => red_law_box T f cdv A outer s H E hr) (fun ds M kk h => z_law_box  h)) hm
    (F.bindsN fun _ _ _ _ _ _ us hl => match us, hl with | [_, _], _ => rfl)
theorem ok_law_take (T : Txt K mg) {f : Addr} {fd : FuncData} (F : FnP K "_law_take" s_law_take f fd) (hm : mg "_law_take" = some (.ref f)) : FnZ P w K mg base "_law_take" 1 S_law_take :=
  fnz_of F (fn_z F sc_law_take S_law_take (fun ds M kk h => by unfold S_law_take at h; first | (obtain ⟨_, rfl, _⟩ := h; rfl) | (obtain ⟨_, _, rfl, _⟩ := h; rfl) | (obtain ⟨_, _, _, rfl, _⟩ := h; rfl) | (obtain ⟨_, _, _, _, rfl, _⟩ := h; rfl) | (obtain ⟨_, _, _, _, _, rfl, _⟩ := h; rfl) | (obtain ⟨_, _, _, _, _, _, rfl, _⟩ := h; rfl) | (obtain ⟨_, _, _, _, _, _, _, rfl, _⟩ := h; rfl) | (obtain ⟨_, _, _, _, _, _, _, _, rfl, _⟩ := h; rfl)) (t_law_take K) (fun cdv A outer s H E hr => red_law_take T f cdv A outer s H E hr) (fun ds M kk h => z_law_take  h)) hm
    (F.bindsN fun _ _ _ _ _ _ us hl => match us, hl with | [_, _], _ => rfl)
theorem ok_law_divisor (T : Txt K mg) {f : Addr} {fd : FuncData} (F : FnP K "_law_divisor" s_law_divisor f fd) (hm : mg "_law_divisor" = some (.ref f)) : FnZ P w K mg base "_law_divisor" 1 S_law_divisor :=
  fnz_of F (fn_z F sc_law_divisor S_law_divisor (fun ds M kk h => by unfold S_law_divisor at h; first | (obtain ⟨_, rfl, _⟩ := h; rfl) | (obtain ⟨_, _, rfl, _⟩ := h; rfl) | (obtain ⟨_, _, _, rfl, _⟩ := h; rfl) | (obtain ⟨_, _, _, _, rfl, _⟩ := h; rfl) | (obtain ⟨_, _, _, _, _, rfl, _⟩ := h; rfl) | (obtain ⟨_, _, _, _, _, _, rfl, _⟩ := h; rfl) | (obtain ⟨_, _, _, _, _, _, _, rfl, _⟩ := h; rfl) | (obtain ⟨_, _, _, _, _, _, _, _, rfl, _⟩ := h; rfl)) (t_law_divisor K) (fun cdv A outer s H E hr => red_law_divisor T f cdv A outer s H E hr) (fun ds M kk h => z_law_divisor  h)) hm
    (F.bindsN fun _ _ _ _ _ _ us hl => match us, hl with | [_, _], _ => rfl)
theorem ok_law_adds_up (T : Txt K mg) {f : Addr} {fd : FuncData} (F : FnP K "_law_adds_up" s_law_adds_up f fd) (hm : mg "_law_adds_up" = some (.ref f)) : FnZ P w K mg base "_law_adds_up" 1 S_law_adds_up :=
  fnz_of F (fn_z F sc_law_adds_up S_law_adds_up (fun ds M kk h => by unfold S_law_adds_up at h; first | (obtain ⟨_, rfl, _⟩ := h; rfl) | (obtain ⟨_, _, rfl, _⟩ := h; rfl) | (obtain ⟨_, _, _, rfl, _⟩ := h; rfl) | (obtain ⟨_, _, _, _, rfl, _⟩ := h; rfl) | (obtain ⟨_, _, _, _, _, rfl, _⟩ := h; rfl) | (obtain ⟨_, _, _, _, _, _, rfl, _⟩ := h; rfl) | (obtain ⟨_, _, _, _, _, _, _, rfl, _⟩ := h; rfl) | (obtain ⟨_, _, _, _, _, _, _, _, rfl, _⟩ := h; rfl)) (t_law_adds_up K) (fun cdv A outer s H E hr => red_law_adds_up T f cdv A outer s H E hr) (fun ds M kk h => z_law_adds_up  h)) hm
    (F.bindsN fun _ _ _ _ _ _ us hl => match us, hl with | [_, _, _], _ => rfl)
theorem ok_cleared (T : Txt K mg) (G_primitive : FnZ P w K mg base "primitive" 1 S_primitive) {f : Addr} {fd : FuncData} (F : FnP K "_cleared" s_cleared f fd) (hm : mg "_cleared" = some (.ref f)) : FnZ P w K mg base "_cleared" 2 S_cleared :=
  fnz_of F (fn_z F sc_cleared S_cleared (fun ds M kk h => by unfold S_cleared at h; first | (obtain ⟨_, rfl, _⟩ := h; rfl) | (obtain ⟨_, _, rfl, _⟩ := h; rfl) | (obtain ⟨_, _, _, rfl, _⟩ := h; rfl) | (obtain ⟨_, _, _, _, rfl, _⟩ := h; rfl) | (obtain ⟨_, _, _, _, _, rfl, _⟩ := h; rfl) | (obtain ⟨_, _, _, _, _, _, rfl, _⟩ := h; rfl) | (obtain ⟨_, _, _, _, _, _, _, rfl, _⟩ := h; rfl) | (obtain ⟨_, _, _, _, _, _, _, _, rfl, _⟩ := h; rfl)) (t_cleared K S_primitive) (fun cdv A outer s H E hr => red_cleared T S_primitive G_primitive f cdv A outer s H E hr) (fun ds M kk h => z_cleared rfl h)) hm
    (F.bindsN fun _ _ _ _ _ _ us hl => match us, hl with | [_, _, _], _ => rfl)
theorem ok_law_lowered (T : Txt K mg) (G_law_divisor : FnZ P w K mg base "_law_divisor" 1 S_law_divisor) {f : Addr} {fd : FuncData} (F : FnP K "_law_lowered" s_law_lowered f fd) (hm : mg "_law_lowered" = some (.ref f)) : FnZ P w K mg base "_law_lowered" 2 S_law_lowered :=
  fnz_of F (fn_z F sc_law_lowered S_law_lowered (fun ds M kk h => by unfold S_law_lowered at h; first | (obtain ⟨_, rfl, _⟩ := h; rfl) | (obtain ⟨_, _, rfl, _⟩ := h; rfl) | (obtain ⟨_, _, _, rfl, _⟩ := h; rfl) | (obtain ⟨_, _, _, _, rfl, _⟩ := h; rfl) | (obtain ⟨_, _, _, _, _, rfl, _⟩ := h; rfl) | (obtain ⟨_, _, _, _, _, _, rfl, _⟩ := h; rfl) | (obtain ⟨_, _, _, _, _, _, _, rfl, _⟩ := h; rfl) | (obtain ⟨_, _, _, _, _, _, _, _, rfl, _⟩ := h; rfl)) (t_law_lowered K S_law_divisor) (fun cdv A outer s H E hr => red_law_lowered T S_law_divisor G_law_divisor f cdv A outer s H E hr) (fun ds M kk h => z_law_lowered  h)) hm
    (F.bindsN fun _ _ _ _ _ _ us hl => match us, hl with | [_], _ => rfl)
theorem ok_law_entry (T : Txt K mg) (G_law_take : FnZ P w K mg base "_law_take" 1 S_law_take) {f : Addr} {fd : FuncData} (F : FnP K "_law_entry" s_law_entry f fd) (hm : mg "_law_entry" = some (.ref f)) : FnZ P w K mg base "_law_entry" 2 S_law_entry :=
  fnz_of F (fn_z F sc_law_entry S_law_entry (fun ds M kk h => by unfold S_law_entry at h; first | (obtain ⟨_, rfl, _⟩ := h; rfl) | (obtain ⟨_, _, rfl, _⟩ := h; rfl) | (obtain ⟨_, _, _, rfl, _⟩ := h; rfl) | (obtain ⟨_, _, _, _, rfl, _⟩ := h; rfl) | (obtain ⟨_, _, _, _, _, rfl, _⟩ := h; rfl) | (obtain ⟨_, _, _, _, _, _, rfl, _⟩ := h; rfl) | (obtain ⟨_, _, _, _, _, _, _, rfl, _⟩ := h; rfl) | (obtain ⟨_, _, _, _, _, _, _, _, rfl, _⟩ := h; rfl)) (t_law_entry K S_law_take) (fun cdv A outer s H E hr => red_law_entry T S_law_take G_law_take f cdv A outer s H E hr) (fun ds M kk h => z_law_entry  h)) hm
    (F.bindsN fun _ _ _ _ _ _ us hl => match us, hl with | [_, _], _ => rfl)
theorem ok_law_factor (T : Txt K mg) (G_law_take : FnZ P w K mg base "_law_take" 1 S_law_take) {f : Addr} {fd : FuncData} (F : FnP K "_law_factor" s_law_factor f fd) (hm : mg "_law_factor" = some (.ref f)) : FnZ P w K mg base "_law_factor" 2 S_law_factor :=
  fnz_of F (fn_z F sc_law_factor S_law_factor (fun ds M kk h => by unfold S_law_factor at h; first | (obtain ⟨_, rfl, _⟩ := h; rfl) | (obtain ⟨_, _, rfl, _⟩ := h; rfl) | (obtain ⟨_, _, _, rfl, _⟩ := h; rfl) | (obtain ⟨_, _, _, _, rfl, _⟩ := h; rfl) | (obtain ⟨_, _, _, _, _, rfl, _⟩ := h; rfl) | (obtain ⟨_, _, _, _, _, _, rfl, _⟩ := h; rfl) | (obtain ⟨_, _, _, _, _, _, _, rfl, _⟩ := h; rfl) | (obtain ⟨_, _, _, _, _, _, _, _, rfl, _⟩ := h; rfl)) (t_law_factor K S_law_take) (fun cdv A outer s H E hr => red_law_factor T S_law_take G_law_take f cdv A outer s H E hr) (fun ds M kk h => z_law_factor  h)) hm
    (F.bindsN fun _ _ _ _ _ _ us hl => match us, hl with | [_], _ => rfl)
theorem ok_law_is_fraction (T : Txt K mg) (G_law_is_integer : FnZ P w K mg base "_law_is_integer" 1 S_law_is_integer) (G_law_divisor : FnZ P w K mg base "_law_divisor" 1 S_law_divisor) {f : Addr} {fd : FuncData} (F : FnP K "_law_is_fraction" s_law_is_fraction f fd) (hm : mg "_law_is_fraction" = some (.ref f)) : FnZ P w K mg base "_law_is_fraction" 2 S_law_is_fraction :=
  fnz_of F (fn_z F sc_law_is_fraction S_law_is_fraction (fun ds M kk h => by unfold S_law_is_fraction at h; first | (obtain ⟨_, rfl, _⟩ := h; rfl) | (obtain ⟨_, _, rfl, _⟩ := h; rfl) | (obtain ⟨_, _, _, rfl, _⟩ := h; rfl) | (obtain ⟨_, _, _, _, rfl, _⟩ := h; rfl) | (obtain ⟨_, _, _, _, _, rfl, _⟩ := h; rfl) | (obtain ⟨_, _, _, _, _, _, rfl, _⟩ := h; rfl) | (obtain ⟨_, _, _, _, _, _, _, rfl, _⟩ := h; rfl) | (obtain ⟨_, _, _, _, _, _, _, _, rfl, _⟩ := h; rfl)) (t_law_is_fraction K S_law_is_integer S_law_divisor) (fun cdv A outer s H E hr => red_law_is_fraction T S_law_is_integer S_law_divisor G_law_is_integer G_law_divisor f cdv A outer s H E hr) (fun ds M kk h => z_law_is_fraction  h)) hm
    (F.bindsN fun _ _ _ _ _ _ us hl => match us, hl with | [_], _ => rfl)
theorem ok_eliminated (T : Txt K mg) (G_cleared : FnZ P w K mg base "_cleared" 2 S_cleared) (G_first_nonzero : FnZ P w K mg base "_first_nonzero" 1 S_first_nonzero) {f : Addr} {fd : FuncData} (F : FnP K "_eliminated" s_eliminated f fd) (hm : mg "_eliminated" = some (.ref f)) : FnZ P w K mg base "_eliminated" 3 S_eliminated :=
  fnz_of F (fn_z F sc_eliminated S_eliminated (fun ds M kk h => by unfold S_eliminated at h; first | (obtain ⟨_, rfl, _⟩ := h; rfl) | (obtain ⟨_, _, rfl, _⟩ := h; rfl) | (obtain ⟨_, _, _, rfl, _⟩ := h; rfl) | (obtain ⟨_, _, _, _, rfl, _⟩ := h; rfl) | (obtain ⟨_, _, _, _, _, rfl, _⟩ := h; rfl) | (obtain ⟨_, _, _, _, _, _, rfl, _⟩ := h; rfl) | (obtain ⟨_, _, _, _, _, _, _, rfl, _⟩ := h; rfl) | (obtain ⟨_, _, _, _, _, _, _, _, rfl, _⟩ := h; rfl)) (t_eliminated K S_cleared S_first_nonzero) (fun cdv A outer s H E hr => red_eliminated T S_cleared S_first_nonzero G_cleared G_first_nonzero f cdv A outer s H E hr) (fun ds M kk h => z_eliminated  h)) hm
    (F.bindsN fun _ _ _ _ _ _ us hl => match us, hl with | [_], _ => rfl)
theorem ok_law_cleared (T : Txt K mg) (G_law_lowered : FnZ P w K mg base "_law_lowered" 2 S_law_lowered) {f : Addr} {fd : FuncData} (F : FnP K "_law_cleared" s_law_cleared f fd) (hm : mg "_law_cleared" = some (.ref f)) : FnZ P w K mg base "_law_cleared" 3 S_law_cleared :=
  fnz_of F (fn_z F sc_law_cleared S_law_cleared (fun ds M kk h => by unfold S_law_cleared at h; first | (obtain ⟨_, rfl, _⟩ := h; rfl) | (obtain ⟨_, _, rfl, _⟩ := h; rfl) | (obtain ⟨_, _, _, rfl, _⟩ := h; rfl) | (obtain ⟨_, _, _, _, rfl, _⟩ := h; rfl) | (obtain ⟨_, _, _, _, _, rfl, _⟩ := h; rfl) | (obtain ⟨_, _, _, _, _, _, rfl, _⟩ := h; rfl) | (obtain ⟨_, _, _, _, _, _, _, rfl, _⟩ := h; rfl) | (obtain ⟨_, _, _, _, _, _, _, _, rfl, _⟩ := h; rfl)) (t_law_cleared K S_law_lowered) (fun cdv A outer s H E hr => red_law_cleared T S_law_lowered G_law_lowered f cdv A outer s H E hr) (fun ds M kk h => z_law_cleared  h)) hm
    (F.bindsN fun _ _ _ _ _ _ us hl => match us, hl with | [_, _, _], _ => rfl)
theorem ok_law_row (T : Txt K mg) (G_law_entry : FnZ P w K mg base "_law_entry" 2 S_law_entry) {f : Addr} {fd : FuncData} (F : FnP K "_law_row" s_law_row f fd) (hm : mg "_law_row" = some (.ref f)) : FnZ P w K mg base "_law_row" 3 S_law_row :=
  fnz_of F (fn_z F sc_law_row S_law_row (fun ds M kk h => by unfold S_law_row at h; first | (obtain ⟨_, rfl, _⟩ := h; rfl) | (obtain ⟨_, _, rfl, _⟩ := h; rfl) | (obtain ⟨_, _, _, rfl, _⟩ := h; rfl) | (obtain ⟨_, _, _, _, rfl, _⟩ := h; rfl) | (obtain ⟨_, _, _, _, _, rfl, _⟩ := h; rfl) | (obtain ⟨_, _, _, _, _, _, rfl, _⟩ := h; rfl) | (obtain ⟨_, _, _, _, _, _, _, rfl, _⟩ := h; rfl) | (obtain ⟨_, _, _, _, _, _, _, _, rfl, _⟩ := h; rfl)) (t_law_row K S_law_entry) (fun cdv A outer s H E hr => red_law_row T S_law_entry G_law_entry f cdv A outer s H E hr) (fun ds M kk h => z_law_row  h)) hm
    (F.bindsN fun _ _ _ _ _ _ us hl => match us, hl with | [_, _, _], _ => rfl)
theorem ok_combination (T : Txt K mg) (G_eliminated : FnZ P w K mg base "_eliminated" 3 S_eliminated) (G_is_regular : FnZ P w K mg base "_is_regular" 1 S_is_regular) (G_fraction : FnZ P w K mg base "fraction" 1 S_fraction) {f : Addr} {fd : FuncData} (F : FnP K "combination" s_combination f fd) (hm : mg "combination" = some (.ref f)) : FnZ P w K mg base "combination" 4 S_combination :=
  fnz_of F (fn_z F sc_combination S_combination (fun ds M kk h => by unfold S_combination at h; first | (obtain ⟨_, rfl, _⟩ := h; rfl) | (obtain ⟨_, _, rfl, _⟩ := h; rfl) | (obtain ⟨_, _, _, rfl, _⟩ := h; rfl) | (obtain ⟨_, _, _, _, rfl, _⟩ := h; rfl) | (obtain ⟨_, _, _, _, _, rfl, _⟩ := h; rfl) | (obtain ⟨_, _, _, _, _, _, rfl, _⟩ := h; rfl) | (obtain ⟨_, _, _, _, _, _, _, rfl, _⟩ := h; rfl) | (obtain ⟨_, _, _, _, _, _, _, _, rfl, _⟩ := h; rfl)) (t_combination K S_eliminated S_is_regular S_fraction) (fun cdv A outer s H E hr => red_combination T S_eliminated S_is_regular S_fraction G_eliminated G_is_regular G_fraction f cdv A outer s H E hr) (fun ds M kk h => z_combination  h)) hm
    (F.bindsN fun _ _ _ _ _ _ us hl => match us, hl with | [_, _], _ => rfl)
theorem ok_law_rank (T : Txt K mg) (G_law_cleared : FnZ P w K mg base "_law_cleared" 3 S_law_cleared) {f : Addr} {fd : FuncData} (F : FnP K "_law_rank" s_law_rank f fd) (hm : mg "_law_rank" = some (.ref f)) : FnZ P w K mg base "_law_rank" 4 S_law_rank :=
  fnz_of F (fn_z F sc_law_rank S_law_rank (fun ds M kk h => by unfold S_law_rank at h; first | (obtain ⟨_, rfl, _⟩ := h; rfl) | (obtain ⟨_, _, rfl, _⟩ := h; rfl) | (obtain ⟨_, _, _, rfl, _⟩ := h; rfl) | (obtain ⟨_, _, _, _, rfl, _⟩ := h; rfl) | (obtain ⟨_, _, _, _, _, rfl, _⟩ := h; rfl) | (obtain ⟨_, _, _, _, _, _, rfl, _⟩ := h; rfl) | (obtain ⟨_, _, _, _, _, _, _, rfl, _⟩ := h; rfl) | (obtain ⟨_, _, _, _, _, _, _, _, rfl, _⟩ := h; rfl)) (t_law_rank K S_law_cleared) (fun cdv A outer s H E hr => red_law_rank T S_law_cleared G_law_cleared f cdv A outer s H E hr) (fun ds M kk h => z_law_rank  h)) hm
    (F.bindsN fun _ _ _ _ _ _ us hl => match us, hl with | [_, _], _ => rfl)
theorem ok_law_problem (T : Txt K mg) (G_law_take : FnZ P w K mg base "_law_take" 1 S_law_take) (G_law_row : FnZ P w K mg base "_law_row" 3 S_law_row) (G_law_entry : FnZ P w K mg base "_law_entry" 2 S_law_entry) {f : Addr} {fd : FuncData} (F : FnP K "_law_problem" s_law_problem f fd) (hm : mg "_law_problem" = some (.ref f)) : FnZ P w K mg base "_law_problem" 4 S_law_problem :=
  fnz_of F (fn_z F sc_law_problem S_law_problem (fun ds M kk h => by unfold S_law_problem at h; first | (obtain ⟨_, rfl, _⟩ := h; rfl) | (obtain ⟨_, _, rfl, _⟩ := h; rfl) | (obtain ⟨_, _, _, rfl, _⟩ := h; rfl) | (obtain ⟨_, _, _, _, rfl, _⟩ := h; rfl) | (obtain ⟨_, _, _, _, _, rfl, _⟩ := h; rfl) | (obtain ⟨_, _, _, _, _, _, rfl, _⟩ := h; rfl) | (obtain ⟨_, _, _, _, _, _, _, rfl, _⟩ := h; rfl) | (obtain ⟨_, _, _, _, _, _, _, _, rfl, _⟩ := h; rfl)) (t_law_problem K S_law_take S_law_row S_law_entry) (fun cdv A outer s H E hr => red_law_problem T S_law_take S_law_row S_law_entry G_law_take G_law_row G_law_entry f cdv A outer s H E hr) (fun ds M kk h => z_law_problem  h)) hm
    (F.bindsN fun _ _ _ _ _ _ us hl => match us, hl with | [_], _ => rfl)
theorem ok_law_bent_rows (T : Txt K mg) (G_law_factor : FnZ P w K mg base "_law_factor" 2 S_law_factor) (G_law_take : FnZ P w K mg base "_law_take" 1 S_law_take) (G_law_entry : FnZ P w K mg base "_law_entry" 2 S_law_entry) (G_law_row : FnZ P w K mg base "_law_row" 3 S_law_row) {f : Addr} {fd : FuncData} (F : FnP K "_law_bent_rows" s_law_bent_rows f fd) (hm : mg "_law_bent_rows" = some (.ref f)) : FnZ P w K mg base "_law_bent_rows" 4 S_law_bent_rows :=
  fnz_of F (fn_z F sc_law_bent_rows S_law_bent_rows (fun ds M kk h => by unfold S_law_bent_rows at h; first | (obtain ⟨_, rfl, _⟩ := h; rfl) | (obtain ⟨_, _, rfl, _⟩ := h; rfl) | (obtain ⟨_, _, _, rfl, _⟩ := h; rfl) | (obtain ⟨_, _, _, _, rfl, _⟩ := h; rfl) | (obtain ⟨_, _, _, _, _, rfl, _⟩ := h; rfl) | (obtain ⟨_, _, _, _, _, _, rfl, _⟩ := h; rfl) | (obtain ⟨_, _, _, _, _, _, _, rfl, _⟩ := h; rfl) | (obtain ⟨_, _, _, _, _, _, _, _, rfl, _⟩ := h; rfl)) (t_law_bent_rows K S_law_factor S_law_take S_law_entry S_law_row) (fun cdv A outer s H E hr => red_law_bent_rows T S_law_factor S_law_take S_law_entry S_law_row G_law_factor G_law_take G_law_entry G_law_row f cdv A outer s H E hr) (fun ds M kk h => z_law_bent_rows  h)) hm
    (F.bindsN fun _ _ _ _ _ _ us hl => match us, hl with | [_, _, _, _], _ => rfl)
theorem ok_law_bent_target (T : Txt K mg) (G_law_row : FnZ P w K mg base "_law_row" 3 S_law_row) (G_law_take : FnZ P w K mg base "_law_take" 1 S_law_take) {f : Addr} {fd : FuncData} (F : FnP K "_law_bent_target" s_law_bent_target f fd) (hm : mg "_law_bent_target" = some (.ref f)) : FnZ P w K mg base "_law_bent_target" 4 S_law_bent_target :=
  fnz_of F (fn_z F sc_law_bent_target S_law_bent_target (fun ds M kk h => by unfold S_law_bent_target at h; first | (obtain ⟨_, rfl, _⟩ := h; rfl) | (obtain ⟨_, _, rfl, _⟩ := h; rfl) | (obtain ⟨_, _, _, rfl, _⟩ := h; rfl) | (obtain ⟨_, _, _, _, rfl, _⟩ := h; rfl) | (obtain ⟨_, _, _, _, _, rfl, _⟩ := h; rfl) | (obtain ⟨_, _, _, _, _, _, rfl, _⟩ := h; rfl) | (obtain ⟨_, _, _, _, _, _, _, rfl, _⟩ := h; rfl) | (obtain ⟨_, _, _, _, _, _, _, _, rfl, _⟩ := h; rfl)) (t_law_bent_target K S_law_row S_law_take) (fun cdv A outer s H E hr => red_law_bent_target T S_law_row S_law_take G_law_row G_law_take f cdv A outer s H E hr) (fun ds M kk h => z_law_bent_target  h)) hm
    (F.bindsN fun _ _ _ _ _ _ us hl => match us, hl with | [_, _, _, _], _ => rfl)
theorem ok_law_right (T : Txt K mg) (G_combination : FnZ P w K mg base "combination" 4 S_combination) (G_law_rank : FnZ P w K mg base "_law_rank" 4 S_law_rank) (G_law_is_fraction : FnZ P w K mg base "_law_is_fraction" 2 S_law_is_fraction) (G_law_adds_up : FnZ P w K mg base "_law_adds_up" 1 S_law_adds_up) {f : Addr} {fd : FuncData} (F : FnP K "_law_right" s_law_right f fd) (hm : mg "_law_right" = some (.ref f)) : FnZ P w K mg base "_law_right" 5 S_law_right :=
  fnz_of F (fn_z F sc_law_right S_law_right (fun ds M kk h => by unfold S_law_right at h; first | (obtain ⟨_, rfl, _⟩ := h; rfl) | (obtain ⟨_, _, rfl, _⟩ := h; rfl) | (obtain ⟨_, _, _, rfl, _⟩ := h; rfl) | (obtain ⟨_, _, _, _, rfl, _⟩ := h; rfl) | (obtain ⟨_, _, _, _, _, rfl, _⟩ := h; rfl) | (obtain ⟨_, _, _, _, _, _, rfl, _⟩ := h; rfl) | (obtain ⟨_, _, _, _, _, _, _, rfl, _⟩ := h; rfl) | (obtain ⟨_, _, _, _, _, _, _, _, rfl, _⟩ := h; rfl)) (t_law_right K S_combination S_law_rank S_law_is_fraction S_law_adds_up) (fun cdv A outer s H E hr => red_law_right T S_combination S_law_rank S_law_is_fraction S_law_adds_up G_combination G_law_rank G_law_is_fraction G_law_adds_up f cdv A outer s H E hr) (fun ds M kk h => z_law_right  h)) hm
    (F.bindsN fun _ _ _ _ _ _ us hl => match us, hl with | [_, _, _], _ => rfl)
theorem ok_law (T : Txt K mg) (G_law_box : FnZ P w K mg base "_law_box" 1 S_law_box) (G_law_problem : FnZ P w K mg base "_law_problem" 4 S_law_problem) (G_law_take : FnZ P w K mg base "_law_take" 1 S_law_take) (G_law_bent_rows : FnZ P w K mg base "_law_bent_rows" 4 S_law_bent_rows) (G_law_bent_target : FnZ P w K mg base "_law_bent_target" 4 S_law_bent_target) (G_law_right : FnZ P w K mg base "_law_right" 5 S_law_right) {f : Addr} {fd : FuncData} (F : FnP K "law" s_law f fd) : FnOk P w K mg base CX0 6 f fd ["_law_script"] (toSp K SLaw) :=
  fn_z F sc_law SLaw (fun ds M kk h => by unfold SLaw at h; obtain ⟨_, rfl, _⟩ := h; rfl) (t_law K S_law_box S_law_problem S_law_take S_law_bent_rows S_law_bent_target S_law_right) (fun cdv A outer s H E hr => red_law T S_law_box S_law_problem S_law_take S_law_bent_rows S_law_bent_target S_law_right G_law_box G_law_problem G_law_take G_law_bent_rows G_law_bent_target G_law_right f cdv A outer s H E hr) (fun ds M kk h => z_law (fun w rows t G => right_ok G) h)
end
def d_fraction : He.DefD := ⟨("fraction", none), "fraction", "fraction", defArgs s_fraction, defBody s_fraction, defScope s_fraction, [.int 1], []⟩
def d_primitive : He.DefD := ⟨("primitive", none), "primitive", "primitive", defArgs s_primitive, defBody s_primitive, defScope s_primitive, [], []⟩
def d_combination : He.DefD := ⟨("combination", none), "combination", "combination", defArgs s_combination, defBody s_combination, defScope s_combination, [], []⟩
def d_is_regular : He.DefD := ⟨("_is_regular", none), "_is_regular", "_is_regular", defArgs s_is_regular, defBody s_is_regular, defScope s_is_regular, [], []⟩
def d_eliminated : He.DefD := ⟨("_eliminated", none), "_eliminated", "_eliminated", defArgs s_eliminated, defBody s_eliminated, defScope s_eliminated, [], []⟩
def d_cleared : He.DefD := ⟨("_cleared", none), "_cleared", "_cleared", defArgs s_cleared, defBody s_cleared, defScope s_cleared, [], []⟩
def d_first_nonzero : He.DefD := ⟨("_first_nonzero", none), "_first_nonzero", "_first_nonzero", defArgs s_first_nonzero, defBody s_first_nonzero, defScope s_first_nonzero, [], []⟩
def d_law_is_integer : He.DefD := ⟨("_law_is_integer", none), "_law_is_integer", "_law_is_integer", defArgs s_law_is_integer, defBody s_law_is_integer, defScope s_law_is_integer, [], []⟩
def d_law_box : He.DefD := ⟨("_law_box", none), "_law_box", "_law_box", defArgs s_law_box, defBody s_law_box, defScope s_law_box, [], []⟩
def d_law_take : He.DefD := ⟨("_law_take", none), "_law_take", "_law_take", defArgs s_law_take, defBody s_law_take, defScope s_law_take, [], []⟩
def d_law_divisor : He.DefD := ⟨("_law_divisor", none), "_law_divisor", "_law_divisor", defArgs s_law_divisor, defBody s_law_divisor, defScope s_law_divisor, [], []⟩
def d_law_lowered : He.DefD := ⟨("_law_lowered", none), "_law_lowered", "_law_lowered", defArgs s_law_lowered, defBody s_law_lowered, defScope s_law_lowered, [], []⟩
def d_law_cleared : He.DefD := ⟨("_law_cleared", none), "_law_cleared", "_law_cleared", defArgs s_law_cleared, defBody s_law_cleared, defScope s_law_cleared, [], []⟩
def d_law_rank : He.DefD := ⟨("_law_rank", none), "_law_rank", "_law_rank", defArgs s_law_rank, defBody s_law_rank, defScope s_law_rank, [], []⟩
def d_law_entry : He.DefD := ⟨("_law_entry", none), "_law_entry", "_law_entry", defArgs s_law_entry, defBody s_law_entry, defScope s_law_entry, [], []⟩
def d_law_row : He.DefD := ⟨("_law_row", none), "_law_row", "_law_row", defArgs s_law_row, defBody s_law_row, defScope s_law_row, [], []⟩
def d_law_factor : He.DefD := ⟨("_law_factor", none), "_law_factor", "_law_factor", defArgs s_law_factor, defBody s_law_factor, defScope s_law_factor, [], []⟩
def d_law_is_fraction : He.DefD := ⟨("_law_is_fraction", none), "_law_is_fraction", "_law_is_fraction", defArgs s_law_is_fraction, defBody s_law_is_fraction, defScope s_law_is_fraction, [], []⟩
def d_law_problem : He.DefD := ⟨("_law_problem", none), "_law_problem", "_law_problem", defArgs s_law_problem, defBody s_law_problem, defScope s_law_problem, [], []⟩
def d_law_bent_rows : He.DefD := ⟨("_law_bent_rows", none), "_law_bent_rows", "_law_bent_rows", defArgs s_law_bent_rows, defBody s_law_bent_rows, defScope s_law_bent_rows, [], []⟩
def d_law_bent_target : He.DefD := ⟨("_law_bent_target", none), "_law_bent_target", "_law_bent_target", defArgs s_law_bent_target, defBody s_law_bent_target, defScope s_law_bent_target, [], []⟩
def d_law_adds_up : He.DefD := ⟨("_law_adds_up", none), "_law_adds_up", "_law_adds_up", defArgs s_law_adds_up, defBody s_law_adds_up, defScope s_law_adds_up, [], []⟩
def d_law_right : He.DefD := ⟨("_law_right", none), "_law_right", "_law_right", defArgs s_law_right, defBody s_law_right, defScope s_law_right, [], []⟩
def d_law : He.DefD := ⟨("law", none), "law", "law", defArgs s_law, defBody s_law, defScope s_law, [], []⟩
def fn_ : List He.DefD := [d_fraction, d_primitive, d_combination, d_is_regular, d_eliminated, d_cleared, d_first_nonzero, d_law_is_integer, d_law_box, d_law_take, d_law_divisor, d_law_lowered, d_law_cleared, d_law_rank, d_law_entry, d_law_row, d_law_factor, d_law_is_fraction, d_law_problem, d_law_bent_rows, d_law_bent_target, d_law_adds_up, d_law_right, d_law]
def fa_ : List He.Fa := [.glo "fraction", .glo "primitive", .glo "combination", .glo "_is_regular", .glo "_eliminated", .glo "_cleared", .glo "_first_nonzero", .glo "_law_is_integer", .glo "_law_box", .glo "_law_take", .glo "_law_divisor", .glo "_law_lowered", .glo "_law_cleared", .glo "_law_rank", .glo "_law_entry", .glo "_law_row", .glo "_law_factor", .glo "_law_is_fraction", .glo "_law_problem", .glo "_law_bent_rows", .glo "_law_bent_target", .glo "_law_adds_up", .glo "_law_right", .glo "law", .free "abs", .free "bool", .free "enumerate", .free "int", .free "isinstance", .free "len", .free "list", .free "max", .free "min", .free "range", .free "sorted", .free "sum", .free "tuple", .free "zip"]
def bs_ : List (Str × String) := [("gcd", "math.gcd")]
abbrev R_ : PySem.W.OpenRow := PySem.W.OpenLaw.row PySem.Challenge.rw_leaprungs_k02_combination_of_rows
def names_ : List PySem.Str := (["LeapError", "ZeroDivisor", "fraction", "primitive", "combination", "_is_regular", "_eliminated", "_cleared", "_first_nonzero", "_law_is_integer", "_law_box", "_law_take", "_law_divisor", "_law_lowered", "_law_cleared", "_law_rank", "_law_entry", "_law_row", "_law_factor", "_law_is_fraction", "_law_problem", "_law_bent_rows", "_law_bent_target", "_law_adds_up", "_law_right"] : List PySem.Str)
abbrev hk_ : PySem.W.Hook := hookX 4 fa_ fn_ bs_
def ob_ (s : PySem.W.SharedT) : He.AlD × Bool := obsXG 4 fa_ fn_ bs_ (HandSHeadRun.getT s)
theorem ob_eq_ (s : PySem.W.SharedT) : ob_ s = hk_.obs s.abs := obsXG_eq (HandSHeadRun.getT_eq s)
theorem run_ (w : World) : HandSHeadRun.RunEqI R_ (PySem.W.view R_.prog [0, 30]) hk_ ob_ 4000 names_ w := by
  unfold HandSHeadRun.RunEqI
  kernel_rfl
theorem facts_ {P : Program} {w : World} {K : PySem.W.Frag} {h : Heap} {mg : Str → Option Value} {f : Addr} (X : K.In h) (G : h.Ns mainGlobals mg) (hfa : mg ("law" : Str) = some (.ref f)) (c : He.SaysD fa_ fn_ K) (cb : bfOk bs_ K = true) :
    ∃ fd : FuncData, (∀ (s : Shared) (v : Value), BindsTo s fd ⟨[v], []⟩ [("_law_script", v)]) ∧ ∀ base : Heap, K.In base → base.Ns mainGlobals mg → FnOk P w K mg base CX0 6 f fd ["_law_script"] (toSp K SLaw) := by
  obtain ⟨fd_fraction, F_fraction⟩ := c.def_ 0 (d := d_fraction) rfl
  have g_fraction := He.glo_ok X G (c.fact 0 (f := .glo "fraction") rfl)
  obtain ⟨fd_primitive, F_primitive⟩ := c.def_ 1 (d := d_primitive) rfl
  have g_primitive := He.glo_ok X G (c.fact 1 (f := .glo "primitive") rfl)
  obtain ⟨fd_combination, F_combination⟩ := c.def_ 2 (d := d_combination) rfl
  have g_combination := He.glo_ok X G (c.fact 2 (f := .glo "combination") rfl)
  obtain ⟨fd_is_regular, F_is_regular⟩ := c.def_ 3 (d := d_is_regular) rfl
  have g_is_regular := He.glo_ok X G (c.fact 3 (f := .glo "_is_regular") rfl)
  obtain ⟨fd_eliminated, F_eliminated⟩ := c.def_ 4 (d := d_eliminated) rfl
  have g_eliminated := He.glo_ok X G (c.fact 4 (f := .glo "_eliminated") rfl)
  obtain ⟨fd_cleared, F_cleared⟩ := c.def_ 5 (d := d_cleared) rfl
  have g_cleared := He.glo_ok X G (c.fact 5 (f := .glo "_cleared") rfl)
  obtain ⟨fd_first_nonzero, F_first_nonzero⟩ := c.def_ 6 (d := d_first_nonzero) rfl
  have g_first_nonzero := He.glo_ok X G (c.fact 6 (f := .glo "_first_nonzero") rfl)
  obtain ⟨fd_law_is_integer, F_law_is_integer⟩ := c.def_ 7 (d := d_law_is_integer) rfl
  have g_law_is_integer := He.glo_ok X G (c.fact 7 (f := .glo "_law_is_integer") rfl)
  obtain ⟨fd_law_box, F_law_box⟩ := c.def_ 8 (d := d_law_box) rfl
  have g_law_box := He.glo_ok X G (c.fact 8 (f := .glo "_law_box") rfl)
  obtain ⟨fd_law_take, F_law_take⟩ := c.def_ 9 (d := d_law_take) rfl
  have g_law_take := He.glo_ok X G (c.fact 9 (f := .glo "_law_take") rfl)
  obtain ⟨fd_law_divisor, F_law_divisor⟩ := c.def_ 10 (d := d_law_divisor) rfl
  have g_law_divisor := He.glo_ok X G (c.fact 10 (f := .glo "_law_divisor") rfl)
  obtain ⟨fd_law_lowered, F_law_lowered⟩ := c.def_ 11 (d := d_law_lowered) rfl
  have g_law_lowered := He.glo_ok X G (c.fact 11 (f := .glo "_law_lowered") rfl)
  obtain ⟨fd_law_cleared, F_law_cleared⟩ := c.def_ 12 (d := d_law_cleared) rfl
  have g_law_cleared := He.glo_ok X G (c.fact 12 (f := .glo "_law_cleared") rfl)
  obtain ⟨fd_law_rank, F_law_rank⟩ := c.def_ 13 (d := d_law_rank) rfl
  have g_law_rank := He.glo_ok X G (c.fact 13 (f := .glo "_law_rank") rfl)
  obtain ⟨fd_law_entry, F_law_entry⟩ := c.def_ 14 (d := d_law_entry) rfl
  have g_law_entry := He.glo_ok X G (c.fact 14 (f := .glo "_law_entry") rfl)
  obtain ⟨fd_law_row, F_law_row⟩ := c.def_ 15 (d := d_law_row) rfl
  have g_law_row := He.glo_ok X G (c.fact 15 (f := .glo "_law_row") rfl)
  obtain ⟨fd_law_factor, F_law_factor⟩ := c.def_ 16 (d := d_law_factor) rfl
  have g_law_factor := He.glo_ok X G (c.fact 16 (f := .glo "_law_factor") rfl)
  obtain ⟨fd_law_is_fraction, F_law_is_fraction⟩ := c.def_ 17 (d := d_law_is_fraction) rfl
  have g_law_is_fraction := He.glo_ok X G (c.fact 17 (f := .glo "_law_is_fraction") rfl)
  obtain ⟨fd_law_problem, F_law_problem⟩ := c.def_ 18 (d := d_law_problem) rfl
  have g_law_problem := He.glo_ok X G (c.fact 18 (f := .glo "_law_problem") rfl)
  obtain ⟨fd_law_bent_rows, F_law_bent_rows⟩ := c.def_ 19 (d := d_law_bent_rows) rfl
  have g_law_bent_rows := He.glo_ok X G (c.fact 19 (f := .glo "_law_bent_rows") rfl)
  obtain ⟨fd_law_bent_target, F_law_bent_target⟩ := c.def_ 20 (d := d_law_bent_target) rfl
  have g_law_bent_target := He.glo_ok X G (c.fact 20 (f := .glo "_law_bent_target") rfl)
  obtain ⟨fd_law_adds_up, F_law_adds_up⟩ := c.def_ 21 (d := d_law_adds_up) rfl
  have g_law_adds_up := He.glo_ok X G (c.fact 21 (f := .glo "_law_adds_up") rfl)
  obtain ⟨fd_law_right, F_law_right⟩ := c.def_ 22 (d := d_law_right) rfl
  have g_law_right := He.glo_ok X G (c.fact 22 (f := .glo "_law_right") rfl)
  obtain ⟨fd_law, F_law⟩ := c.def_ 23 (d := d_law) rfl
  have g_law := He.glo_ok X G (c.fact 23 (f := .glo "law") rfl)
  have T : Txt K mg := ⟨He.free_ok X G (c.fact 24 (f := .free "abs") rfl), He.free_ok X G (c.fact 25 (f := .free "bool") rfl), He.free_ok X G (c.fact 26 (f := .free "enumerate") rfl), He.free_ok X G (c.fact 27 (f := .free "int") rfl), He.free_ok X G (c.fact 28 (f := .free "isinstance") rfl), He.free_ok X G (c.fact 29 (f := .free "len") rfl), He.free_ok X G (c.fact 30 (f := .free "list") rfl), He.free_ok X G (c.fact 31 (f := .free "max") rfl), He.free_ok X G (c.fact 32 (f := .free "min") rfl), He.free_ok X G (c.fact 33 (f := .free "range") rfl), He.free_ok X G (c.fact 34 (f := .free "sorted") rfl), He.free_ok X G (c.fact 35 (f := .free "sum") rfl), He.free_ok X G (c.fact 36 (f := .free "tuple") rfl), He.free_ok X G (c.fact 37 (f := .free "zip") rfl), bf_ok X G cb 0 (b := ("gcd", "math.gcd")) rfl⟩
  have e := hfa.symm.trans g_law
  cases e
  have b := FunD.bindsA (ps := ["_law_script"]) F_law fun _ _ _ _ _ _ us hl => match us, hl with | [_], _ => rfl
  refine ⟨fd_law, fun s v => b s [v] rfl, fun base _ _ => ?_⟩
  have G_fraction : FnZ P w K mg base "fraction" 1 S_fraction := ok_fraction T F_fraction g_fraction
  have G_primitive : FnZ P w K mg base "primitive" 1 S_primitive := ok_primitive T F_primitive g_primitive
  have G_is_regular : FnZ P w K mg base "_is_regular" 1 S_is_regular := ok_is_regular T F_is_regular g_is_regular
  have G_first_nonzero : FnZ P w K mg base "_first_nonzero" 1 S_first_nonzero := ok_first_nonzero T F_first_nonzero g_first_nonzero
  have G_law_is_integer : FnZ P w K mg base "_law_is_integer" 1 S_law_is_integer := ok_law_is_integer T F_law_is_integer g_law_is_integer
  have G_law_box : FnZ P w K mg base "_law_box" 1 S_law_box := ok_law_box T F_law_box g_law_box
  have G_law_take : FnZ P w K mg base "_law_take" 1 S_law_take := ok_law_take T F_law_take g_law_take
  have G_law_divisor : FnZ P w K mg base "_law_divisor" 1 S_law_divisor := ok_law_divisor T F_law_divisor g_law_divisor
  have G_law_adds_up : FnZ P w K mg base "_law_adds_up" 1 S_law_adds_up := ok_law_adds_up T F_law_adds_up g_law_adds_up
  have G_cleared : FnZ P w K mg base "_cleared" 2 S_cleared := ok_cleared T G_primitive F_cleared g_cleared
  have G_law_lowered : FnZ P w K mg base "_law_lowered" 2 S_law_lowered := ok_law_lowered T G_law_divisor F_law_lowered g_law_lowered
  have G_law_entry : FnZ P w K mg base "_law_entry" 2 S_law_entry := ok_law_entry T G_law_take F_law_entry g_law_entry
  have G_law_factor : FnZ P w K mg base "_law_factor" 2 S_law_factor := ok_law_factor T G_law_take F_law_factor g_law_factor
  have G_law_is_fraction : FnZ P w K mg base "_law_is_fraction" 2 S_law_is_fraction := ok_law_is_fraction T G_law_is_integer G_law_divisor F_law_is_fraction g_law_is_fraction
  have G_eliminated : FnZ P w K mg base "_eliminated" 3 S_eliminated := ok_eliminated T G_cleared G_first_nonzero F_eliminated g_eliminated
  have G_law_cleared : FnZ P w K mg base "_law_cleared" 3 S_law_cleared := ok_law_cleared T G_law_lowered F_law_cleared g_law_cleared
  have G_law_row : FnZ P w K mg base "_law_row" 3 S_law_row := ok_law_row T G_law_entry F_law_row g_law_row
  have G_combination : FnZ P w K mg base "combination" 4 S_combination := ok_combination T G_eliminated G_is_regular G_fraction F_combination g_combination
  have G_law_rank : FnZ P w K mg base "_law_rank" 4 S_law_rank := ok_law_rank T G_law_cleared F_law_rank g_law_rank
  have G_law_problem : FnZ P w K mg base "_law_problem" 4 S_law_problem := ok_law_problem T G_law_take G_law_row G_law_entry F_law_problem g_law_problem
  have G_law_bent_rows : FnZ P w K mg base "_law_bent_rows" 4 S_law_bent_rows := ok_law_bent_rows T G_law_factor G_law_take G_law_entry G_law_row F_law_bent_rows g_law_bent_rows
  have G_law_bent_target : FnZ P w K mg base "_law_bent_target" 4 S_law_bent_target := ok_law_bent_target T G_law_row G_law_take F_law_bent_target g_law_bent_target
  have G_law_right : FnZ P w K mg base "_law_right" 5 S_law_right := ok_law_right T G_combination G_law_rank G_law_is_fraction G_law_adds_up F_law_right g_law_right
  exact ok_law T G_law_box G_law_problem G_law_take G_law_bent_rows G_law_bent_target G_law_right F_law
end Qk02
open PySem PySem.W PySem.Calls PyProof.Rows
theorem PySem.Challenge.cw_leaprungs_k02_combination_of_rows_holds : PySem.Challenge.rw_leaprungs_k02_combination_of_rows.Holds := by
  w_on; o_law
  refine HandSHeadRun.head_imp (r := OpenLaw.row PySem.Challenge.rw_leaprungs_k02_combination_of_rows) (q := view (OpenLaw.row PySem.Challenge.rw_leaprungs_k02_combination_of_rows).prog [0, 30]) (H := Qk02.hk_) (ob := Qk02.ob_) (M := 4000) (loose := Qk02.names_) (d := HandSHeadRun.topDef (OpenLaw.row PySem.Challenge.rw_leaprungs_k02_combination_of_rows).prog 30) (kwd := []) Qk02.ob_eq_
    Qk02.run_ (by kernel_rfl) (by kernel_rfl) (by kernel_rfl) (by rfl) (by first | assumption | decide +kernel) (by decide +kernel) ⟨rfl, rfl, rfl, rfl, rfl, by decide +kernel⟩ ?hw ?hc
  case hw => w_witness2
  case hc =>
    refine L2.walk_ofE (l := PySem.Challenge.rw_leaprungs_k02_combination_of_rows) (n := 63) (k := 6) (x := "_law_script") (CX := L2.CX0) rfl (by decide) (by kernel_rfl) ⟨rfl, by decide, by decide⟩ ?F (fun _ _ _ _ z => z)
    intro w mg fa h Y G hmg0
    obtain ⟨K, KX, c, cb⟩ := Y
    have hmg : mg ("law" : PySem.Str) = some (.ref fa) := by
      have e : (HandSHeadRun.topDef (OpenLaw.row PySem.Challenge.rw_leaprungs_k02_combination_of_rows).prog 30).name = ("law" : PySem.Str) := by kernel_rfl
      rw [← e]
      exact hmg0
    obtain ⟨fd, hb, hF⟩ := Qk02.facts_ (P := (PySem.Challenge.rw_leaprungs_k02_combination_of_rows).prog) (w := w) KX G hmg c cb
    exact ⟨K, fd, Z.toSp K Z.SLaw, KX, hb, fun H a ns hl _ hS => Z.law_sp hl hS, hF⟩
